import PyProof.Rows.All
import Wide.All
import OpenK.AllK
import Wide.FinOn
import PySem.Challenge.RW_sz0093_03
open PySem PySem.W PySem.Calls PyProof.Rows
set_option Elab.async false
set_option maxRecDepth 1000000
set_option maxHeartbeats 8000000
set_option linter.all false
namespace Mp
section
variable {α : Type}
noncomputable def gt (l : List α) (n : Nat) : Option α := @List.rec α (fun _ => Nat → Option α) (fun _ => none) (fun a _ ih n => @Nat.rec (fun _ => Option α) (some a) (fun m _ => ih m) n) l n
noncomputable def pt (l : List α) (n : Nat) (x : α) : List α := @List.rec α (fun _ => Nat → List α) (fun _ => []) (fun a t ih n => @Nat.rec (fun _ => List α) (x :: t) (fun m _ => a :: ih m) n) l n
noncomputable def ad (l : List α) (x : α) : List α := @List.rec α (fun _ => List α) [x] (fun a _ ih => a :: ih) l
noncomputable def ln (l : List α) : Nat := @List.rec α (fun _ => Nat) 0 (fun _ _ ih => Nat.add ih 1) l
theorem gt_eq (l : List α) (n : Nat) : gt l n = l[n]? := by
  induction l generalizing n with
  | nil => rfl
  | cons a t ih =>
    cases n with
    | zero => rfl
    | succ n => exact ih n
theorem pt_eq (l : List α) (n : Nat) (x : α) : pt l n x = l.set n x := by
  induction l generalizing n with
  | nil => rfl
  | cons a t ih =>
    cases n with
    | zero => rfl
    | succ n => exact congrArg (a :: ·) (ih n)
theorem ad_eq (l : List α) (x : α) : ad l x = l ++ [x] := by
  induction l with
  | nil => rfl
  | cons a t ih => exact congrArg (a :: ·) ih
theorem ln_eq (l : List α) : ln l = l.length := by
  induction l with
  | nil => rfl
  | cons a t ih => exact congrArg (· + 1) ih
end
noncomputable abbrev Led := List (Addr × Obj)
noncomputable abbrev Rho := List (Addr × Addr)
inductive V where
  | undef
  | none
  | bool (b : Bool)
  | int (i : Int)
  | str (s : List Nat)
  | ref (i : Nat)
  | g (n : Nat)
  | tup (vs : List V)
noncomputable def V.isUndef : V → Bool
  | .undef => true
  | _ => false
inductive Ob where
  | list (vs : List V)
  | nums (is : List Int)
  | inst (c : Nat) (fs : List V)
  | cell (v : V)
  | dict (es : List (List Nat × V))
  | clo (n : Nat) (cells : List Nat)
  | tab (n : Nat) (made : Bool)
  | junk
structure CD where
  name : Str
  qual : Str
  params : Arguments
  body : List Stmt
  scope : Scope
  pos : Pos
  fv : List Str
  code : Addr
structure Cx where
  prog : Program
  w : World
  K : Frag
  p : Program
  loose : List Str
  mean : ExcName → Option Value
  mg : Str → Option Value
  mb : Str → Option Value
  ga : Nat → Addr
  attrs : Nat → List Str
  cd : Nat → CD
noncomputable abbrev Cx.M (cx : Cx) : Model := model cx.prog cx.w
noncomputable def named (vs : Array Value) : Bool := match (vs[1]? : Option Value) with
  | some (.str _ _) => true
  | _ => false
noncomputable def Frz (o : Obj) : Bool := match o.data with
  | .seq _ _ => o.cls == .type "tuple"
  | .plain => true
  | .fields vs => !(o.cls == .none) || named vs
  | .func _ => true
  | _ => false
noncomputable abbrev tupObj (ws : List Value) (n : Nat) : Obj := { cls := .type "tuple", data := .seq ws.toArray n }
mutual
inductive VR (cx : Cx) (led : Led) (ρ : Rho) : V → Value → Prop
  | none : VR cx led ρ .none .none
  | bool (b : Bool) : VR cx led ρ (.bool b) (.bool b)
  | int (i : Int) (t : Tok) : VR cx led ρ (.int i) (.int i t)
  | str (cs : List Nat) (t : Tok) : VR cx led ρ (.str cs) (.str ⟨cs.toArray⟩ t)
  | ref (i : Nat) (a d : Addr) : ρ[i]? = some (a, d) → VR cx led ρ (.ref i) (.ref a)
  | g (n : Nat) : VR cx led ρ (.g n) (.ref (cx.ga n))
  | tup (vs : List V) (ws : List Value) (a : Addr) (n : Nat) :
      ((a, tupObj ws n) ∈ led ∨ cx.K.lookup a = some (tupObj ws n)) → VRs cx led ρ vs ws → VR cx led ρ (.tup vs) (.ref a)
inductive VRs (cx : Cx) (led : Led) (ρ : Rho) : List V → List Value → Prop
  | nil : VRs cx led ρ [] []
  | cons {v w vs ws} : VR cx led ρ v w → VRs cx led ρ vs ws → VRs cx led ρ (v :: vs) (w :: ws)
end
noncomputable def Frz2 (o : Obj) : Bool := match o.data with
  | .seq _ _ => o.cls == .type "tuple"
  | .plain => true
  | .fields vs => named vs
  | .func _ => true
  | _ => false
theorem Frz.of2 {o : Obj} (h : Frz2 o = true) : Frz o = true := by
  unfold Frz2 at h
  unfold Frz
  split at h <;> simp_all
structure Grow2 (led : Led) (ρ : Rho) (led' : Led) (ρ' : Rho) : Prop where
  fz : ∀ p ∈ led, Frz2 p.2 = true → p ∈ led'
  rho : ∃ t, ρ' = ρ ++ t
structure Grow (led : Led) (ρ : Rho) (led' : Led) (ρ' : Rho) : Prop where
  fz : ∀ p ∈ led, Frz p.2 = true → p ∈ led'
  rho : ∃ t, ρ' = ρ ++ t
theorem Grow.to2 {led ρ led' ρ'} (g : Grow led ρ led' ρ') : Grow2 led ρ led' ρ' := ⟨fun p h f => g.fz p h (Frz.of2 f), g.rho⟩
theorem Grow2.at {led led' : Led} {ρ ρ' : Rho} (g : Grow2 led ρ led' ρ') {i : Nat} {q : Addr × Addr} (h : ρ[i]? = some q) : ρ'[i]? = some q := by
  obtain ⟨t, rfl⟩ := g.rho
  have := (List.getElem?_eq_some_iff.mp h).1
  rw [List.getElem?_append_left this]; exact h
theorem Grow.refl (led : Led) (ρ : Rho) : Grow led ρ led ρ := ⟨fun _ h _ => h, [], by simp⟩
theorem Grow.trans {led led' led'' ρ ρ' ρ''} (a : Grow led ρ led' ρ') (b : Grow led' ρ' led'' ρ'') : Grow led ρ led'' ρ'' := by
  obtain ⟨t, rfl⟩ := a.rho
  obtain ⟨u, rfl⟩ := b.rho
  exact ⟨fun p h f => b.fz p (a.fz p h f) f, t ++ u, by simp⟩
theorem Grow.at {led led' : Led} {ρ ρ' : Rho} (g : Grow led ρ led' ρ') {i : Nat} {q : Addr × Addr} (h : ρ[i]? = some q) : ρ'[i]? = some q := by
  obtain ⟨t, rfl⟩ := g.rho
  have := (List.getElem?_eq_some_iff.mp h).1
  rw [List.getElem?_append_left this]; exact h
theorem VR.mono2 {cx : Cx} {led led' : Led} {ρ ρ' : Rho} (g : Grow2 led ρ led' ρ') {v w} (h : VR cx led ρ v w) : VR cx led' ρ' v w :=
  @VR.rec cx led ρ (fun v w _ => VR cx led' ρ' v w) (fun vs ws _ => VRs cx led' ρ' vs ws) .none .bool .int .str (fun i a d h => .ref i a d (g.at h)) .g
    (fun vs ws a n h _ r => .tup vs ws a n (h.elim (fun h => .inl (g.fz _ h rfl)) .inr) r) .nil (fun _ _ a r => .cons a r) v w h
theorem VRs.mono2 {cx : Cx} {led led' : Led} {ρ ρ' : Rho} (g : Grow2 led ρ led' ρ') {vs ws} (h : VRs cx led ρ vs ws) : VRs cx led' ρ' vs ws :=
  @VRs.rec cx led ρ (fun v w _ => VR cx led' ρ' v w) (fun vs ws _ => VRs cx led' ρ' vs ws) .none .bool .int .str (fun i a d h => .ref i a d (g.at h)) .g
    (fun vs ws a n h _ r => .tup vs ws a n (h.elim (fun h => .inl (g.fz _ h rfl)) .inr) r) .nil (fun _ _ a r => .cons a r) vs ws h
theorem VR.mono {cx : Cx} {led led' : Led} {ρ ρ' : Rho} (g : Grow led ρ led' ρ') {v w} (h : VR cx led ρ v w) : VR cx led' ρ' v w := h.mono2 g.to2
theorem VRs.mono {cx : Cx} {led led' : Led} {ρ ρ' : Rho} (g : Grow led ρ led' ρ') {v w} (h : VRs cx led ρ v w) : VRs cx led' ρ' v w := h.mono2 g.to2
theorem VRs.length {cx led ρ} : ∀ {vs ws}, VRs cx led ρ vs ws → vs.length = ws.length
  | _, _, .nil => rfl
  | _, _, .cons _ r => by simp [VRs.length r]
theorem VRs.get {cx led ρ} : ∀ {vs ws} {i : Nat} {v}, VRs cx led ρ vs ws → vs[i]? = some v → ∃ w, ws[i]? = some w ∧ VR cx led ρ v w
  | _, _, 0, _, .cons a _, h => ⟨_, rfl, by simp at h; exact h ▸ a⟩
  | _, _, i + 1, _, .cons _ r, h => by simpa using VRs.get r (by simpa using h)
theorem VRs.append {cx led ρ} : ∀ {vs ws vs' ws'}, VRs cx led ρ vs ws → VRs cx led ρ vs' ws' → VRs cx led ρ (vs ++ vs') (ws ++ ws')
  | _, _, _, _, .nil, h => h
  | _, _, _, _, .cons a r, h => .cons a (VRs.append r h)
theorem VRs.set {cx led ρ} : ∀ {vs ws} (i : Nat) {v w}, VRs cx led ρ vs ws → VR cx led ρ v w → VRs cx led ρ (vs.set i v) (ws.set i w)
  | _, _, _, _, _, .nil, _ => .nil
  | _, _, 0, _, _, .cons _ r, h => .cons h r
  | _, _, i + 1, _, _, .cons a r, h => .cons a (VRs.set i r h)
theorem VRs.take {cx led ρ} : ∀ {vs ws} (i : Nat), VRs cx led ρ vs ws → VRs cx led ρ (vs.take i) (ws.take i)
  | _, _, _, .nil => by simp; exact .nil
  | _, _, 0, .cons _ _ => .nil
  | _, _, i + 1, .cons a r => .cons a (VRs.take i r)
theorem VRs.drop {cx led ρ} : ∀ {vs ws} (i : Nat), VRs cx led ρ vs ws → VRs cx led ρ (vs.drop i) (ws.drop i)
  | _, _, _, .nil => by simp; exact .nil
  | _, _, 0, .cons a r => .cons a r
  | _, _, i + 1, .cons _ r => VRs.drop i r
structure FieldsR (cx : Cx) (led : Led) (ρ : Rho) (names : List Str) (fs : List V) (es : List DictEntry) : Prop where
  len : es.length + fs.countP V.isUndef ≤ fs.length
  nref : es.any (·.refKey) = false
  non : ∀ x, x ∉ names → getL x es = some none
  un : ∀ (i : Nat) (x : Str), names[i]? = some x → fs[i]? = some V.undef → getL x es = some none
  got : ∀ (i : Nat) (x : Str) (v : V), names[i]? = some x → fs[i]? = some v → v ≠ V.undef → ∃ w, getL x es = some (some w) ∧ VR cx led ρ v w
inductive PairsR (cx : Cx) (led : Led) (ρ : Rho) : List (List Nat × V) → List DictEntry → Prop
  | nil : PairsR cx led ρ [] []
  | cons {k t v w es ds} : VR cx led ρ v w → PairsR cx led ρ es ds → PairsR cx led ρ ((k, v) :: es) (⟨PyData.keyHash cx.w.params ⟨k.toArray⟩, .str ⟨k.toArray⟩ t, w⟩ :: ds)
inductive KvsR (cx : Cx) (led : Led) (ρ : Rho) : List (List Nat × V) → List (Str × Value) → Prop
  | nil : KvsR cx led ρ [] []
  | cons {k v w es ds} : VR cx led ρ v w → KvsR cx led ρ es ds → KvsR cx led ρ ((k, v) :: es) ((⟨k.toArray⟩, w) :: ds)
inductive CelsR (ρ : Rho) : List (Str × Addr) → List Str → List Nat → Prop
  | nil : CelsR ρ [] [] []
  | cons {x c k cl xs ks} : ρ[k]? = some (c, c) → CelsR ρ cl xs ks → CelsR ρ ((x, c) :: cl) (x :: xs) (k :: ks)
noncomputable def CodeR (led : Led) (qual : Str) (c' : Addr) : Prop := ∃ oc vs t, (c', oc) ∈ led ∧ oc.data = .fields vs ∧ vs[1]? = some (.str qual t)
noncomputable def ObR (cx : Cx) (led : Led) (ρ : Rho) (i : Nat) : Ob → Prop
  | .list vs => ∃ a ws n, ρ[i]? = some (a, a) ∧ (a, PySem.W.listOf ws n) ∈ led ∧ VRs cx led ρ vs ws.toList
  | .nums is => ∃ a ws n, ρ[i]? = some (a, a) ∧ (a, PySem.W.listOf ws n) ∈ led ∧ ∀ led ρ, VRs cx led ρ (is.map .int) ws.toList
  | .inst c fs => ∃ a d es n, ρ[i]? = some (a, d) ∧ (a, instObj (cx.ga c) d) ∈ led ∧ (d, dictOf es n) ∈ led ∧ fs.length = (cx.attrs c).length ∧ FieldsR cx led ρ (cx.attrs c) fs es
  | .cell v => ∃ a o w, ρ[i]? = some (a, a) ∧ (a, o) ∈ led ∧ o.data = .cell w ∧ (v = .undef ∨ ∃ w', w = some w' ∧ VR cx led ρ v w')
  | .dict es => ∃ a o ds, ρ[i]? = some (a, a) ∧ (a, o) ∈ led ∧ o.IsDictOf (PySem.strKind cx.prog cx.w) ds ∧ KvsR cx led ρ es ds
  | .clo n cells => ∃ a cl c' doc pm ctv, ρ[i]? = some (a, a) ∧ (a, fnMade (cx.cd n).name (cx.cd n).qual (cx.cd n).params (cx.cd n).body (cx.cd n).scope cl doc pm c' ctv) ∈ led ∧ CodeR led (cx.cd n).qual c' ∧ CelsR ρ cl (cx.cd n).fv cells
  | .tab n made => ∃ P ps, ρ[i]? = some (P, P) ∧ (P, tabObj ps) ∈ led ∧ (∀ h, cx.K.In h → CodeHd h (cx.cd n).code P) ∧
      ((made = false ∧ ps = #[]) ∨ (made = true ∧ ∃ c', ps = #[rawInt (cx.cd n).pos.line, rawInt (cx.cd n).pos.col, .ref c'] ∧ CodeR led (cx.cd n).qual c'))
  | .junk => ∃ a d o, ρ[i]? = some (a, d) ∧ (d, o) ∈ led ∧ (Frz o = false ∨ Frz2 o = true)
structure Fm where
  A : Around
  A₀ : Around
  base : Heap
  h₀ : Heap
  outer : List Env
  L : Addr
  kept : Led
  fe : Env
  ev : Env
structure Sc where
  cs : Scope
  ns : List Str
  cns : List Str
  ex : Env → Prop
noncomputable abbrev Fm.env (f : Fm) (_ : Sc) : Env := f.ev
noncomputable def NsObj (o : Obj) (m : Str → Option Value) : Prop := ∃ es ep, o.data = .dict es ep ∧ StrKeys es ∧ ∀ name, nsFind es name = m name
structure Fm.Ok (cx : Cx) (d : Nat) (sc : Sc) (f : Fm) : Prop where
  hA : f.A.frames = some (f.fe :: f.outer)
  B : Below f.A₀ f.base f.outer f.h₀
  X : cx.K.In f.h₀
  T : Top cx.p cx.loose cx.mean cx.mg cx.mb f.h₀
  hk : sc.cs.kind = .function
  evs : f.ev.scope = sc.cs
  evl : f.ev.locals = f.L
  evg : f.ev.globals = mainGlobals
  evb : f.ev.builtins = builtinsNs
  evx : sc.ex f.ev
  fek : f.fe.scope.kind = .function
  fr : f.fe.frame = some f.L ∨ ∃ Lr oL mo, f.fe.frame = some Lr ∧ (Lr, oL) ∈ f.kept ∧ NsObj oL mo ∧ f.h₀.objs.size ≤ Lr
  dep : f.A.depth + d < 1000
  un : f.A.units + 16 * d < 9800
  hh : f.A.handled = none
theorem Fm.Ok.evk {cx d sc f} (h : Fm.Ok cx d sc f) : f.ev.scope.kind = .function := by rw [h.evs]; exact h.hk
theorem Fm.Ok.kind {cx d sc f} (h : Fm.Ok cx d sc f) {x : Str} {k : NameKind} (e : sc.cs.names.lookup x = some k) : f.ev.kindOf x = some k := by
  show f.ev.scope.names.lookup x = some k
  rw [h.evs]; exact e
structure Inv (cx : Cx) (f : Fm) (h : Heap) (m : Str → Option Value) (led : Led) (ρ : Rho) (st : List Ob) : Prop where
  F : Fr f.h₀ f.L h m
  N : News f.h₀ f.L h (led ++ f.kept)
  nd : ((led ++ f.kept).map (·.1)).Nodup
  sep : (ρ.map (·.2)).Nodup
  len : ρ.length = st.length
  ob : ∀ i o, st[i]? = some o → ObR cx led ρ i o
structure S where
  lo : List V
  ce : List Nat
  st : List Ob
structure LR (cx : Cx) (sc : Sc) (f : Fm) (m : Str → Option Value) (led : Led) (ρ : Rho) (lo : List V) (ce : List Nat) : Prop where
  nd : sc.ns.Nodup
  len : lo.length = sc.ns.length
  loc : ∀ (i : Nat) (x : Str) (v : V), sc.ns[i]? = some x → lo[i]? = some v → v ≠ V.undef → ∃ w, m x = some w ∧ VR cx led ρ v w
  cel : ∀ (i : Nat) (x : Str), sc.cns[i]? = some x → ∃ (c : Addr) (k : Nat), f.ev.cells.lookup x = some c ∧ ce[i]? = some k ∧ ρ[k]? = some (c, c)
theorem LR.mono2 {cx sc f m led ρ led' ρ' lo ce} (g : Grow2 led ρ led' ρ') (h : LR cx sc f m led ρ lo ce) : LR cx sc f m led' ρ' lo ce :=
  ⟨h.nd, h.len, fun i x v a b c => let ⟨w, p, q⟩ := h.loc i x v a b c; ⟨w, p, q.mono2 g⟩, fun i x a => let ⟨c, k, p, q, r⟩ := h.cel i x a; ⟨c, k, p, q, g.at r⟩⟩
theorem LR.mono {cx sc f m led ρ led' ρ' lo ce} (g : Grow led ρ led' ρ') (h : LR cx sc f m led ρ lo ce) : LR cx sc f m led' ρ' lo ce := h.mono2 g.to2
noncomputable abbrev put (s : Shared) (h : Heap) (tk : Nat) : Shared := { heap := h, gens := s.gens, drawn := s.drawn, toks := tk, os := s.os }
noncomputable def PostE (cx : Cx) (f : Fm) (m : Str → Option Value) (led : Led) (ρ : Rho) (st' : List Ob) (v : V) (Q : Value → Shared → Prop) (s : Shared) : Prop :=
  ∀ w h' tk' led' ρ', Inv cx f h' m led' ρ' st' → Grow led ρ led' ρ' → VR cx led' ρ' v w → Q w (put s h' tk')
noncomputable def PostEs (cx : Cx) (f : Fm) (m : Str → Option Value) (led : Led) (ρ : Rho) (st' : List Ob) (vs : List V) (Q : List Value → Shared → Prop) (s : Shared) : Prop :=
  ∀ ws h' tk' led' ρ', Inv cx f h' m led' ρ' st' → Grow led ρ led' ρ' → VRs cx led' ρ' vs ws → Q ws (put s h' tk')
noncomputable def PostT (cx : Cx) (f : Fm) (m : Str → Option Value) (led : Led) (ρ : Rho) (st' : List Ob) (b : Bool) (Q : Bool → Shared → Prop) (s : Shared) : Prop :=
  ∀ h' tk' led' ρ', Inv cx f h' m led' ρ' st' → Grow led ρ led' ρ' → Q b (put s h' tk')
noncomputable def PostU (cx : Cx) (f : Fm) (m : Str → Option Value) (led : Led) (ρ : Rho) (st' : List Ob) (Q : Unit → Shared → Prop) (s : Shared) : Prop :=
  ∀ h' tk' led' ρ', Inv cx f h' m led' ρ' st' → Grow led ρ led' ρ' → Q () (put s h' tk')
noncomputable abbrev SE := S → Option (V × List Ob)
noncomputable abbrev SEs := S → Option (List V × List Ob)
noncomputable abbrev ST := S → Option (Bool × List Ob)
inductive Fl where
  | next | brk | cont | ret (v : V)
noncomputable abbrev SS := S → Option (Fl × S)
inductive FlR (cx : Cx) (led : Led) (ρ : Rho) : Fl → Flow → Prop
  | next : FlR cx led ρ .next .next
  | brk : FlR cx led ρ .brk .brk
  | cont : FlR cx led ρ .cont .cont
  | ret {v w} : VR cx led ρ v w → FlR cx led ρ (.ret v) (.ret w)
noncomputable def PostS (cx : Cx) (sc : Sc) (f : Fm) (led : Led) (ρ : Rho) (S' : S) (fl : Fl) (Q : Flow → Shared → Prop) (s : Shared) : Prop :=
  ∀ fw m' h' tk' led' ρ', Inv cx f h' m' led' ρ' S'.st → Grow led ρ led' ρ' → LR cx sc f m' led' ρ' S'.lo S'.ce → FlR cx led' ρ' fl fw → Q fw (put s h' tk')
structure SoundE (cx : Cx) (d : Nat) (sc : Sc) (e : Expr) (g : SE) : Prop where
  out : ∀ (f : Fm), f.Ok cx d sc → ∀ (s : Shared) m led ρ (S₀ : S), Inv cx f s.heap m led ρ S₀.st → LR cx sc f m led ρ S₀.lo S₀.ce → ∀ v st', g S₀ = some (v, st') →
    ∀ Q E, PostE cx f m led ρ st' v Q s → wpAny cx.M f.A (eval e (f.env sc)) Q E s
structure SoundEs (cx : Cx) (d : Nat) (sc : Sc) (es : List Expr) (g : SEs) : Prop where
  out : ∀ (f : Fm), f.Ok cx d sc → ∀ (s : Shared) m led ρ (S₀ : S), Inv cx f s.heap m led ρ S₀.st → LR cx sc f m led ρ S₀.lo S₀.ce → ∀ vs st', g S₀ = some (vs, st') →
    ∀ pos Q E, PostEs cx f m led ρ st' vs Q s → wpAny cx.M f.A (spliced (backTo pos (starEach es (f.env sc)))) Q E s
structure SoundT (cx : Cx) (d : Nat) (sc : Sc) (e : Expr) (g : ST) : Prop where
  out : ∀ (f : Fm), f.Ok cx d sc → ∀ (s : Shared) m led ρ (S₀ : S), Inv cx f s.heap m led ρ S₀.st → LR cx sc f m led ρ S₀.lo S₀.ce → ∀ b st', g S₀ = some (b, st') →
    ∀ Q E, PostT cx f m led ρ st' b Q s → wpAny cx.M f.A (PySem.isTrue e (f.env sc) (eval e (f.env sc))) Q E s
structure SoundS (cx : Cx) (d : Nat) (sc : Sc) (t : Stmt) (g : SS) : Prop where
  out : ∀ (f : Fm), f.Ok cx d sc → ∀ (s : Shared) m led ρ (S₀ : S), Inv cx f s.heap m led ρ S₀.st → LR cx sc f m led ρ S₀.lo S₀.ce → ∀ fl S', g S₀ = some (fl, S') →
    ∀ Q E, PostS cx sc f led ρ S' fl Q s → wpAny cx.M f.A (exec t (f.env sc)) Q E s
structure SoundB (cx : Cx) (d : Nat) (sc : Sc) (t : List Stmt) (g : SS) : Prop where
  out : ∀ (f : Fm), f.Ok cx d sc → ∀ (s : Shared) m led ρ (S₀ : S), Inv cx f s.heap m led ρ S₀.st → LR cx sc f m led ρ S₀.lo S₀.ce → ∀ fl S', g S₀ = some (fl, S') →
    ∀ Q E, PostS cx sc f led ρ S' fl Q s → wpAny cx.M f.A (execs t (f.env sc)) Q E s
noncomputable abbrev FnG := List V → List Ob → Option (V × List Ob)
structure CallOk (cx : Cx) (d : Nat) (fv : Value) (g : FnG) : Prop where
  out : ∀ (sc : Sc) (f : Fm), f.Ok cx d sc → ∀ (s : Shared) m led ρ st, Inv cx f s.heap m led ρ st → ∀ vs ws, VRs cx led ρ vs ws → ∀ v st', g vs st = some (v, st') →
    ∀ R, PostE cx f m led ρ st' v (fun w s' => R (.ok (.ret w)) s') s → codeAny cx.M f.A (.call fv ⟨ws, []⟩) R s
theorem Fm.Ok.le {cx d d' sc f} (h : Fm.Ok cx d sc f) (hd : d' ≤ d) : Fm.Ok cx d' sc f :=
  { h with dep := by have := h.dep; omega, un := by have := h.un; omega }
theorem CallOk.le {cx d d' fv g} (h : CallOk cx d fv g) (hd : d ≤ d') : CallOk cx d' fv g := ⟨fun sc f ok => h.1 sc f (ok.le hd)⟩
theorem SoundE.le {cx d d' sc e g} (h : SoundE cx d sc e g) (hd : d ≤ d') : SoundE cx d' sc e g := ⟨fun f ok => h.1 f (ok.le hd)⟩
end Mp
namespace Mp
noncomputable def updL (d : Addr) (o' : Obj) (led : Led) : Led := led.map fun p => if p.1 = d then (d, o') else p
theorem updL_fst (d : Addr) (o' : Obj) (led : Led) : (updL d o' led).map (·.1) = led.map (·.1) := by
  unfold updL
  rw [List.map_map]
  apply List.map_congr_left
  intro p _
  simp only [Function.comp]
  split
  · rename_i h; exact h.symm
  · rfl
theorem updL_ne {d : Addr} {o' : Obj} {led : Led} {p : Addr × Obj} (h : p ∈ led) (n : p.1 ≠ d) : p ∈ updL d o' led := by
  unfold updL
  exact List.mem_map.mpr ⟨p, h, by simp [n]⟩
theorem updL_self {d : Addr} {o o' : Obj} {led : Led} (h : (d, o) ∈ led) : (d, o') ∈ updL d o' led := by
  unfold updL
  exact List.mem_map.mpr ⟨(d, o), h, by simp⟩
theorem upd_of {d : Addr} {o o' : Obj} : ∀ {led : Led}, (led.map (·.1)).Nodup → (d, o) ∈ led → Upd d o o' led (updL d o' led)
  | [], _, h => nomatch h
  | p :: r, nd, h => by
    simp only [List.map_cons, List.nodup_cons] at nd
    rcases List.mem_cons.mp h with rfl | h
    · have e : updL d o' ((d, o) :: r) = (d, o') :: r := by
        unfold updL
        rw [List.map_cons]
        simp only [if_true]
        congr 1
        rw [List.map_congr_left (g := id)]
        · simp
        · intro q hq
          have : q.1 ≠ d := fun e => nd.1 (List.mem_map.mpr ⟨q, hq, e⟩)
          simp [this]
      rw [e]
      exact .head fun q hq e => nd.1 (List.mem_map.mpr ⟨q, hq, e⟩)
    · have n : p.1 ≠ d := fun e => nd.1 (by rw [e]; exact List.mem_map.mpr ⟨(d, o), h, rfl⟩)
      have e : updL d o' (p :: r) = p :: updL d o' r := by
        unfold updL
        rw [List.map_cons]
        simp only [n, if_false]
      rw [e]
      exact .tail n (upd_of nd.2 h)
theorem CodeR.mono {led led' : Led} {ρ ρ' : Rho} {q : Str} {c' : Addr} (g : Grow2 led ρ led' ρ') (h : CodeR led q c') : CodeR led' q c' := by
  obtain ⟨oc, vs, t, h1, h2, h3⟩ := h
  exact ⟨oc, vs, t, g.fz _ h1 (by unfold Frz2 named; rw [h2]; simp only [h3]), h2, h3⟩
theorem CelsR.mono {led led' : Led} {ρ ρ' : Rho} {cl xs ks} (g : Grow2 led ρ led' ρ') (h : CelsR ρ cl xs ks) : CelsR ρ' cl xs ks := by
  induction h with
  | nil => exact .nil
  | cons a _ ih => exact .cons (g.at a) ih
theorem ObR.mono2 {cx led led' ρ ρ' i o} (g : Grow2 led ρ led' ρ') (hm : ∀ p ∈ led, ∀ a, ρ[i]? = some (a, p.1) → p ∈ led') : ObR cx led ρ i o → ObR cx led' ρ' i o := by
  intro h
  cases o with
  | list vs =>
    obtain ⟨a, ws, n, h1, h2, h3⟩ := h
    exact ⟨a, ws, n, g.at h1, hm _ h2 _ h1, h3.mono2 g⟩
  | nums is =>
    obtain ⟨a, ws, n, h1, h2, h3⟩ := h
    exact ⟨a, ws, n, g.at h1, hm _ h2 _ h1, h3⟩
  | inst c fs =>
    obtain ⟨a, d, es, n, h1, h2, h3, hl, h4, h5, h6, h7, h8⟩ := h
    exact ⟨a, d, es, n, g.at h1, g.fz _ h2 rfl, hm _ h3 _ h1, hl, h4, h5, h6, h7, fun i x v a b c => let ⟨w, p, q⟩ := h8 i x v a b c; ⟨w, p, q.mono2 g⟩⟩
  | cell v =>
    obtain ⟨a, o, w, h1, h2, h3, h4⟩ := h
    exact ⟨a, o, w, g.at h1, hm _ h2 _ h1, h3, h4.imp id fun ⟨w', e, r⟩ => ⟨w', e, r.mono2 g⟩⟩
  | dict es =>
    obtain ⟨a, o, ds, h1, h2, h3, h4⟩ := h
    refine ⟨a, o, ds, g.at h1, hm _ h2 _ h1, h3, ?_⟩
    clear h2 h3
    induction h4 with
    | nil => exact .nil
    | cons a _ ih => exact .cons (a.mono2 g) ih
  | clo n cells =>
    obtain ⟨a, cl, c', doc, pm, ctv, h1, h2, h3, h4⟩ := h
    exact ⟨a, cl, c', doc, pm, ctv, g.at h1, g.fz _ h2 rfl, h3.mono g, h4.mono g⟩
  | tab n made =>
    obtain ⟨P, ps, h1, h2, h3, h4⟩ := h
    exact ⟨P, ps, g.at h1, hm _ h2 _ h1, h3, h4.imp id fun ⟨e, c', q, r⟩ => ⟨e, c', q, r.mono g⟩⟩
  | junk =>
    obtain ⟨a, d, o, h1, h2, h3⟩ := h
    exact ⟨a, d, o, g.at h1, hm _ h2 _ h1, h3⟩
theorem ObR.mono {cx led led' ρ ρ' i o} (g : Grow led ρ led' ρ') (hm : ∀ p ∈ led, ∀ a, ρ[i]? = some (a, p.1) → p ∈ led') (h : ObR cx led ρ i o) : ObR cx led' ρ' i o := h.mono2 g.to2 hm
section
variable {cx : Cx} {f : Fm} {h : Heap} {m : Str → Option Value} {led : Led} {ρ : Rho} {st : List Ob}
theorem Inv.at_ (I : Inv cx f h m led ρ st) {p : Addr × Obj} (h1 : p ∈ led) : h.get? p.1 = some p.2 ∧ p.1 ≠ f.L ∧ f.h₀.get? p.1 = none := I.N p (List.mem_append_left _ h1)
theorem Inv.uniq (I : Inv cx f h m led ρ st) {a : Addr} {o o' : Obj} (h1 : (a, o) ∈ led) (h2 : (a, o') ∈ led) : o = o' := by
  have e1 := (I.at_ h1).1
  have e2 := (I.at_ h2).1
  simp only at e1 e2
  rw [e1] at e2
  exact Option.some.inj e2
theorem Inv.turn (I : Inv cx f h m led ρ st) {h' : Heap} {m' : Str → Option Value} (F' : Fr f.h₀ f.L h' m') (N' : News f.h₀ f.L h' (led ++ f.kept)) : Inv cx f h' m' led ρ st :=
  ⟨F', N', I.nd, I.sep, I.len, I.ob⟩
theorem Inv.push (I : Inv cx f h m led ρ st) {h' : Heap} {a : Addr} {o : Obj} (ha : ∀ p ∈ led ++ f.kept, p.1 ≠ a) (F' : Fr f.h₀ f.L h' m) (N' : News f.h₀ f.L h' ((a, o) :: (led ++ f.kept))) :
    Inv cx f h' m ((a, o) :: led) ρ st ∧ Grow led ρ ((a, o) :: led) ρ := by
  have g : Grow led ρ ((a, o) :: led) ρ := ⟨fun p h _ => .tail _ h, [], by simp⟩
  refine ⟨⟨F', N', ?_, I.sep, I.len, fun i o' e => (I.ob i o' e).mono g fun p h _ _ => .tail _ h⟩, g⟩
  rw [List.cons_append, List.map_cons, List.nodup_cons]
  exact ⟨fun q => by obtain ⟨p, hp, e⟩ := List.mem_map.mp q; exact ha p hp e, I.nd⟩
theorem Inv.make (I : Inv cx f h m led ρ st) {h' : Heap} {new : Led} {a d : Addr} {ob : Ob} (F' : Fr f.h₀ f.L h' m) (N' : News f.h₀ f.L h' (new ++ (led ++ f.kept)))
    (hn : ((new ++ (led ++ f.kept)).map (·.1)).Nodup) (hd : ∀ q ∈ ρ, q.2 ≠ d) (R : ObR cx (new ++ led) (ρ ++ [(a, d)]) st.length ob) :
    Inv cx f h' m (new ++ led) (ρ ++ [(a, d)]) (st ++ [ob]) ∧ Grow led ρ (new ++ led) (ρ ++ [(a, d)]) := by
  have g : Grow led ρ (new ++ led) (ρ ++ [(a, d)]) := ⟨fun p h _ => List.mem_append_right _ h, [(a, d)], rfl⟩
  refine ⟨⟨F', by rw [List.append_assoc]; exact N', by rw [List.append_assoc]; exact hn, ?_, by simp [I.len], fun i o' e => ?_⟩, g⟩
  · rw [List.map_append, List.nodup_append]
    refine ⟨I.sep, by simp, ?_⟩
    intro x hx y hy
    obtain ⟨q, hq, rfl⟩ := List.mem_map.mp hx
    simp only [List.map_cons, List.map_nil, List.mem_singleton] at hy
    rw [hy]
    exact hd q hq
  · by_cases hi : i < st.length
    · rw [List.getElem?_append_left hi] at e
      exact (I.ob i o' e).mono g fun p h _ _ => List.mem_append_right _ h
    · have : i = st.length := by
        have := (List.getElem?_eq_some_iff.mp e).1
        simp at this
        omega
      subst this
      simp at e
      exact e ▸ R
theorem nodup_at {l : List Addr} (h : l.Nodup) {i j : Nat} {x : Addr} (hi : l[i]? = some x) (hj : l[j]? = some x) : i = j := by
  exact (List.getElem?_inj (List.getElem?_eq_some_iff.mp hi).1 h).mp (hi.trans hj.symm)
theorem Inv.out (I : Inv cx f h m led ρ st) {d : Addr} {o : Obj} (ho : (d, o) ∈ led) : ∀ p ∈ f.kept, p.1 ≠ d := by
  intro p hp e
  have := I.nd
  rw [List.map_append, List.nodup_append] at this
  exact this.2.2 d (List.mem_map.mpr ⟨_, ho, rfl⟩) p.1 (List.mem_map_of_mem hp) e.symm
theorem updL_kept {d : Addr} {o' : Obj} : ∀ {k : Led}, (∀ p ∈ k, p.1 ≠ d) → updL d o' k = k
  | [], _ => rfl
  | p :: r, h => by
    show (if p.1 = d then (d, o') else p) :: updL d o' r = p :: r
    rw [if_neg (h p (.head _)), updL_kept fun q hq => h q (.tail _ hq)]
theorem Inv.updK (I : Inv cx f h m led ρ st) {d : Addr} {o o' : Obj} (ho : (d, o) ∈ led) : updL d o' (led ++ f.kept) = updL d o' led ++ f.kept := by
  show List.map _ _ = List.map _ _ ++ _
  rw [List.map_append]
  exact congrArg _ (updL_kept (I.out ho))
theorem Inv.upd (I : Inv cx f h m led ρ st) {d : Addr} {o o' : Obj} (ho : (d, o) ∈ led) : Upd d o o' (led ++ f.kept) (updL d o' led ++ f.kept) := by
  rw [← I.updK ho]
  exact upd_of I.nd (List.mem_append_left _ ho)
theorem Inv.updNd (I : Inv cx f h m led ρ st) {d : Addr} {o o' : Obj} (ho : (d, o) ∈ led) : ((updL d o' led ++ f.kept).map (·.1)).Nodup := by
  rw [← I.updK ho, updL_fst]
  exact I.nd
theorem Inv.step (I : Inv cx f h m led ρ st) {h' : Heap} {d : Addr} {o o' : Obj} (ho : (d, o) ∈ led) (hz : Frz2 o = false) (hn : ∀ q ∈ ρ, q.2 ≠ d)
    (F' : Fr f.h₀ f.L h' m) (N' : News f.h₀ f.L h' (updL d o' led ++ f.kept)) :
    Inv cx f h' m (updL d o' led) ρ st ∧ Grow2 led ρ (updL d o' led) ρ := by
  have g : Grow2 led ρ (updL d o' led) ρ := ⟨fun p hp hf => updL_ne hp fun e => (by
    obtain ⟨b, x⟩ := p
    simp only at e
    subst e
    rw [I.uniq hp ho, hz] at hf
    exact Bool.noConfusion hf), [], (by simp)⟩
  exact ⟨⟨F', N', I.updNd ho, I.sep, I.len, fun j x e => (I.ob j x e).mono2 g fun p hp b hb => updL_ne hp fun e' => hn _ (List.mem_of_getElem? hb) e'⟩, g⟩
theorem Inv.store (I : Inv cx f h m led ρ st) {h' : Heap} {i : Nat} {a d : Addr} {o o' : Obj} {ob : Ob} (hi : ρ[i]? = some (a, d)) (ho : (d, o) ∈ led) (hz : Frz o = false)
    (F' : Fr f.h₀ f.L h' m) (N' : News f.h₀ f.L h' (updL d o' led ++ f.kept)) (R : Grow led ρ (updL d o' led) ρ → ObR cx (updL d o' led) ρ i ob) :
    Inv cx f h' m (updL d o' led) ρ (st.set i ob) ∧ Grow led ρ (updL d o' led) ρ := by
  have g : Grow led ρ (updL d o' led) ρ := ⟨fun p hp hf => updL_ne hp fun e => (by
    obtain ⟨b, x⟩ := p
    simp only at e
    subst e
    rw [I.uniq hp ho, hz] at hf
    exact Bool.noConfusion hf), [], (by simp)⟩
  refine ⟨⟨F', N', I.updNd ho, I.sep, by simp [I.len], fun j x e => ?_⟩, g⟩
  by_cases hj : i = j
  · subst hj
    have := (List.getElem?_eq_some_iff.mp e).1
    rw [List.length_set] at this
    rw [List.getElem?_set_self this] at e
    exact Option.some.inj e ▸ R g
  · rw [List.getElem?_set_ne hj] at e
    refine (I.ob j x e).mono g fun p hp b hb => updL_ne hp fun e' => hj ?_
    refine nodup_at I.sep (x := d) ?_ ?_
    · rw [List.getElem?_map, hi]; rfl
    · rw [List.getElem?_map, hb, e']; rfl
end
theorem Fr.size_ne {h₀ h : Heap} {L : Addr} {led : Led} (N : News h₀ L h led) : ∀ p ∈ led, p.1 ≠ h.objs.size :=
  fun p hp => Nat.ne_of_lt (Heap.lt_size (N p hp).1)
theorem Inv.rho_mem {cx f h m led ρ st} (I : Inv cx f h m led ρ st) : ∀ q ∈ ρ, ∃ o, (q.2, o) ∈ led := by
  intro q hq
  obtain ⟨i, hi⟩ := List.getElem?_of_mem hq
  have hl : i < st.length := by rw [← I.len]; exact (List.getElem?_eq_some_iff.mp hi).1
  have ho := I.ob i st[i] (List.getElem?_eq_getElem hl)
  cases e : st[i] with
  | list vs => rw [e] at ho; obtain ⟨a, ws, n, h1, h2, _⟩ := ho; rw [hi] at h1; cases h1; exact ⟨_, h2⟩
  | nums is => rw [e] at ho; obtain ⟨a, ws, n, h1, h2, _⟩ := ho; rw [hi] at h1; cases h1; exact ⟨_, h2⟩
  | inst c fs => rw [e] at ho; obtain ⟨a, d, es, n, h1, _, h3, _⟩ := ho; rw [hi] at h1; cases h1; exact ⟨_, h3⟩
  | cell v => rw [e] at ho; obtain ⟨a, o, w, h1, h2, _⟩ := ho; rw [hi] at h1; cases h1; exact ⟨_, h2⟩
  | dict es => rw [e] at ho; obtain ⟨a, o', ds, h1, h2, _⟩ := ho; rw [hi] at h1; cases h1; exact ⟨_, h2⟩
  | clo n cells => rw [e] at ho; obtain ⟨a, cl, c', doc, pm, ctv, h1, h2, _⟩ := ho; rw [hi] at h1; cases h1; exact ⟨_, h2⟩
  | tab n made => rw [e] at ho; obtain ⟨P, ps, h1, h2, _⟩ := ho; rw [hi] at h1; cases h1; exact ⟨_, h2⟩
  | junk => rw [e] at ho; obtain ⟨a, d, o, h1, h2, _⟩ := ho; rw [hi] at h1; cases h1; exact ⟨_, h2⟩
end Mp
namespace Mp
section
variable {cx : Cx} {d : Nat} {sc : Sc}
noncomputable def cE (v : V) : SE := fun S => some (v, S.st)
theorem c_int {i : Int} {k : Nat} {pos : Pos} : SoundE cx d sc (.Constant (.int i) k pos) (cE (.int i)) := by
  refine ⟨?_⟩
  intro f ok s m led ρ S I R v st' hg Q E P
  cases hg
  exact wpAny_Constant_int (P _ _ _ _ _ I (.refl _ _) (.int _ _))
theorem c_str {x : Str} {cs : List Nat} {k : Nat} {pos : Pos} (hx : x = ⟨cs.toArray⟩) : SoundE cx d sc (.Constant (.str x) k pos) (cE (.str cs)) := by
  refine ⟨?_⟩
  intro f ok s m led ρ S I R v st' hg Q E P
  cases hg
  subst hx
  exact wpAny_Constant_str (P _ _ _ _ _ I (.refl _ _) (.str _ _))
theorem c_bool {b : Bool} {k : Nat} {pos : Pos} : SoundE cx d sc (.Constant (.bool b) k pos) (cE (.bool b)) := by
  refine ⟨?_⟩
  intro f ok s m led ρ S I R v st' hg Q E P
  cases hg
  exact wpAny_Constant_bool (P _ _ _ _ _ I (.refl _ _) (.bool _))
theorem c_none {k : Nat} {pos : Pos} : SoundE cx d sc (.Constant .none k pos) (cE .none) := by
  refine ⟨?_⟩
  intro f ok s m led ρ S I R v st' hg Q E P
  cases hg
  exact wpAny_Constant_none (P _ _ _ _ _ I (.refl _ _) .none)
noncomputable def lE (i : Nat) : SE := fun S => match gt S.lo i with
  | some .undef => none
  | some v => some (v, S.st)
  | none => none
structure LocName (sc : Sc) (i : Nat) (x : Str) : Prop where
  at_ : sc.ns[i]? = some x
  kind : sc.cs.names.lookup x = some .local
  dbg : (x == ("__debug__" : Str)) = false
theorem l_name {i : Nat} {x : Str} {pos : Pos} (h : LocName sc i x) : SoundE cx d sc (.Name x pos) (lE i) := by
  refine ⟨?_⟩
  intro f ok s m led ρ S I R v st' hg Q E P
  unfold lE at hg
  try simp only [gt_eq, pt_eq, ad_eq, ln_eq] at hg
  split at hg
  · cases hg
  · rename_i v' hne hv
    cases hg
    obtain ⟨w, hw, hr⟩ := R.loc i x _ h.at_ hv hne
    exact wpAny_Name (wpAny_loadName_local ok.evk (ok.kind h.kind) (by rw [ok.evl]; exact I.F.ns) hw (P _ _ _ _ _ I (.refl _ _) hr)) h.dbg
  · cases hg
structure GloName (cx : Cx) (sc : Sc) (x : Str) (w : Value) : Prop where
  at_ : nsIn cx.K mainGlobals x = some (some w)
  kind : sc.cs.names.lookup x = some .globalImplicit
  dbg : (x == ("__debug__" : Str)) = false
theorem g_name {x : Str} {pos : Pos} {w : Value} {v : V} (h : GloName cx sc x w) (hv : ∀ led ρ, VR cx led ρ v w) : SoundE cx d sc (.Name x pos) (cE v) := by
  refine ⟨?_⟩
  intro f ok s m led ρ S I R v st' hg Q E P
  cases hg
  exact nameG_K I.F ok.X (topRead_of ok.T) h.at_ (P _ _ _ _ _ I (.refl _ _) (hv _ _)) ok.evg ok.evk (ok.kind h.kind) h.dbg
theorem nameB {f : Fm} (ok : f.Ok cx d sc) {s : Shared} {m led ρ st} (I : Inv cx f s.heap m led ρ st) {x : Str} {pos : Pos} {v : Value} {Q : Value → Shared → Prop} {E} (e : nsIn cx.K mainGlobals x = some none) (hv : bootBuiltins x = some v) (hn : x ≠ "__name__")
    (hx : sc.cs.names.lookup x = some .globalImplicit) (hd : (x == ("__debug__" : Str)) = false) (h : Q v s) : wpAny cx.M f.A (eval (.Name x pos) f.ev) Q E s :=
  Name_function_global ok.evk (ok.kind hx) (loadGlobal_builtin (env := f.ev) (by rw [ok.evg]; exact ok.T.g.keeps I.F.keep) (mg_none_of ok.X ok.T.g e) (by rw [ok.evb]; exact ok.T.b.keeps I.F.keep) ((ok.T.builtins x hn).trans hv) h) hd
noncomputable def bE (op : V → V → Option V) (a b : SE) : SE := fun S => match a S with
  | some (x, st) => match b ⟨S.lo, S.ce, st⟩ with
    | some (y, st) => match op x y with
      | some z => some (z, st)
      | none => none
    | none => none
  | none => none
noncomputable def Bin (cx : Cx) (op : V → V → Option V) (tree : Value → Value → Sem Value) : Prop :=
  ∀ (A : Around), A.handled = none → ∀ (s : Shared) led ρ x y z wx wy, VR cx led ρ x wx → VR cx led ρ y wy → op x y = some z → ∀ Q E, (∀ w tk, VR cx led ρ z w → Q w (put s s.heap tk)) → wpAny cx.M A (tree wx wy) Q E s
theorem two_sound {a b : Expr} {ga gb : SE} {op : V → V → Option V} {tree : Value → Value → Sem Value} (ha : SoundE cx d sc a ga) (hb : SoundE cx d sc b gb) (hop : Bin cx op tree) :
    ∀ (f : Fm), f.Ok cx d sc → ∀ (s : Shared) m led ρ (S₀ : S), Inv cx f s.heap m led ρ S₀.st → LR cx sc f m led ρ S₀.lo S₀.ce → ∀ v st', bE op ga gb S₀ = some (v, st') →
    ∀ Q E, PostE cx f m led ρ st' v Q s → wpAny cx.M f.A (eval a (f.env sc)) (fun x s₁ => wpAny cx.M f.A (eval b (f.env sc)) (fun y s₂ => wpAny cx.M f.A (tree x y) Q E s₂) E s₁) E s := by
  intro f ok s m led ρ S I R v st' hg Q E P
  unfold bE at hg
  split at hg
  · rename_i x st1 ea
    split at hg
    · rename_i y st2 eb
      split at hg
      · rename_i z ez
        cases hg
        refine ha.1 f ok s m led ρ S I R x st1 ea _ _ fun wx h1 tk1 led1 ρ1 I1 G1 X1 => ?_
        refine hb.1 f ok (put s h1 tk1) m led1 ρ1 ⟨S.lo, S.ce, st1⟩ I1 (R.mono G1) y _ eb _ _ fun wy h2 tk2 led2 ρ2 I2 G2 X2 => ?_
        exact hop f.A ok.hh _ led2 ρ2 x y _ wx wy (X1.mono G2) X2 ez _ _ fun w tk X => P w h2 tk led2 ρ2 I2 (G1.trans G2) X
      · cases hg
    · cases hg
  · cases hg
theorem b_op {l r : Expr} {gl gr : SE} {o : Operator} {op : V → V → Option V} {pos : Pos} (hl : SoundE cx d sc l gl) (hr : SoundE cx d sc r gr) (hop : Bin cx op (binaryOp o)) :
    SoundE cx d sc (.BinOp l o r pos) (bE op gl gr) := ⟨fun f ok s m led ρ S I R v st' hg Q E P =>
  wpAny_BinOp (two_sound hl hr hop f ok s m led ρ S I R v st' hg Q E P)⟩
theorem b_cmp {l r : Expr} {gl gr : SE} {o : CmpOp} {op : V → V → Option V} {pos : Pos} (hl : SoundE cx d sc l gl) (hr : SoundE cx d sc r gr) (hop : Bin cx op (compareOp o)) (hm : behindInMarks o r = false) :
    SoundE cx d sc (.Compare l [o] [r] pos) (bE op gl gr) := ⟨fun f ok s m led ρ S I R v st' hg Q E P =>
  wpAny_Compare1 (two_sound hl hr hop f ok s m led ρ S I R v st' hg Q E P) hm⟩
noncomputable def addV : V → V → Option V
  | .int a, .int b => some (.int (a + b))
  | .str a, .str b => if a.length + b.length ≤ 100000 then some (.str (a ++ b)) else none
  | _, _ => none
noncomputable def subV : V → V → Option V
  | .int a, .int b => some (.int (a - b))
  | _, _ => none
noncomputable def mulV : V → V → Option V
  | .int a, .int b => if a.natAbs ≤ 100000 ∧ b.natAbs ≤ 100000 then some (.int (a * b)) else none
  | .str a, .int b => if 0 ≤ b ∧ b ≤ 1000 ∧ a.length ≤ 1000 then some (.str (List.replicate b.toNat a).flatten) else none
  | _, _ => none
noncomputable def divV : V → V → Option V
  | .int a, .int b => if 0 < b ∧ b ≤ 1000 ∧ a.natAbs ≤ 100000000 then some (.int (a / b)) else none
  | _, _ => none
noncomputable def modV : V → V → Option V
  | .int a, .int b => if 0 < b then some (.int (a % b)) else none
  | _, _ => none
noncomputable def intO (f : Int → Int → Option V) : V → V → Option V
  | .int a, .int b => f a b
  | _, _ => none
theorem intO_inv {f : Int → Int → Option V} {x y z : V} (e : intO f x y = some z) : ∃ a b, x = .int a ∧ y = .int b ∧ f a b = some z := by
  unfold intO at e
  split at e
  · exact ⟨_, _, rfl, rfl, e⟩
  · cases e
theorem VR.int_inv {led ρ a w} (X : VR cx led ρ (.int a) w) : ∃ t, w = .int a t := by
  cases X
  exact ⟨_, rfl⟩
theorem VR.str_inv {led ρ a w} (X : VR cx led ρ (.str a) w) : ∃ t, w = .str ⟨a.toArray⟩ t := by
  cases X
  exact ⟨_, rfl⟩
theorem VR.bool_inv {led ρ a w} (X : VR cx led ρ (.bool a) w) : w = .bool a := by
  cases X
  rfl
theorem VR.none_inv {led ρ w} (X : VR cx led ρ .none w) : w = .none := by
  cases X
  rfl
theorem bin_int {f : Int → Int → Option V} {tree : Value → Value → Sem Value}
    (h : ∀ (A : Around), A.handled = none → ∀ (s : Shared) led ρ a b t u z, f a b = some z → ∀ Q E, (∀ w tk, VR cx led ρ z w → Q w (put s s.heap tk)) → wpAny cx.M A (tree (.int a t) (.int b u)) Q E s) : Bin cx (intO f) tree := by
  intro A hh s led ρ x y z wx wy X Y e Q E P
  obtain ⟨a, b, rfl, rfl, e⟩ := intO_inv e
  obtain ⟨t, rfl⟩ := X.int_inv
  obtain ⟨u, rfl⟩ := Y.int_inv
  exact h A hh s led ρ a b t u z e Q E P
theorem bin_add : Bin cx addV (binaryOp .Add) := by
  intro A hh s led ρ x y z wx wy X Y e Q E P
  unfold addV at e
  split at e
  · cases e
    obtain ⟨t, rfl⟩ := X.int_inv
    obtain ⟨u, rfl⟩ := Y.int_inv
    exact add_int (P _ _ (.int _ _))
  · split at e
    · rename_i a b hb
      cases e
      obtain ⟨t, rfl⟩ := X.str_inv
      obtain ⟨u, rfl⟩ := Y.str_inv
      refine add_str (fun t' tk => ?_) (by show a.toArray.size + b.toArray.size ≤ sizeLine; rw [sizeLine_eq]; simp only [List.size_toArray]; omega)
      have : (⟨a.toArray⟩ : Str) ++ ⟨b.toArray⟩ = ⟨(a ++ b).toArray⟩ := by
        show Str.append _ _ = _
        unfold Str.append
        simp
      rw [this]
      exact P _ _ (.str _ _)
    · cases e
  · cases e
theorem bin_sub : Bin cx subV (binaryOp .Sub) := bin_int (f := fun a b => some (.int (a - b))) fun A hh s led ρ a b t u z e Q E P => by
  cases e
  exact sub_int (P _ _ (.int _ _))
theorem bin_mod : Bin cx modV (binaryOp .Mod) := bin_int (f := fun a b => if 0 < b then some (.int (a % b)) else none) fun A hh s led ρ a b t u z e Q E P => by
  split at e
  · rename_i hb
    cases e
    refine mod_int' (by omega) ?_
    rw [Int.fmod_eq_emod_of_nonneg _ (by omega)]
    exact P _ _ (.int _ _)
  · cases e
end
end Mp
namespace Mp
theorem strEq (a b : List Nat) : ((⟨a.toArray⟩ : Str) == ⟨b.toArray⟩) = (a == b) := by
  rw [Bool.eq_iff_iff]
  simp
section
variable {cx : Cx} {d : Nat} {sc : Sc}
theorem bin_mul : Bin cx mulV (binaryOp .Mult) := by
  intro A hh s led ρ x y z wx wy X Y e Q E P
  unfold mulV at e
  split at e
  · split at e
    · rename_i a b hb
      cases e
      obtain ⟨t, rfl⟩ := X.int_inv
      obtain ⟨u, rfl⟩ := Y.int_inv
      refine mul_int (P _ _ (.int _ _)) ?_
      unfold IntMulOk
      have hlog : ∀ z : Int, z.natAbs ≤ 100000 → Builtin.Int.intBits z ≤ 64 := by
        intro z hz
        unfold Builtin.Int.intBits
        split
        · omega
        · have h0 : z.natAbs ≠ 0 := by
            rename_i hn
            simp at hn
            omega
          have := (Nat.log2_lt h0 (k := 63)).mpr (Nat.lt_of_le_of_lt hz (by decide))
          omega
      have h1 := hlog a hb.1
      have hs : shortFactorBits = 64 := rfl
      rw [hs]
      simp
      omega
    · cases e
  · split at e
    · rename_i a b hb
      cases e
      obtain ⟨t, rfl⟩ := X.str_inv
      obtain ⟨u, rfl⟩ := Y.int_inv
      refine SB.mul (mulOk_of 1000 1000 (by show a.toArray.size ≤ 1000; simp; omega) (by omega) (by omega) (by decide) (by decide)) fun t' k => ?_
      have : Txt.mul ⟨a.toArray⟩ b = ⟨((List.replicate b.toNat a).flatten).toArray⟩ := by
        unfold Txt.mul
        split
        · rename_i h
          have : b.toNat = 0 := by omega
          rw [this]; rfl
        · split
          · rename_i h1 h2
            simp only [Bool.or_eq_true, beq_iff_eq] at h2
            rcases h2 with h2 | h2
            · subst h2; simp
            · have : a = [] := by
                have : a.toArray.size = 0 := h2
                simpa using this
              subst this
              simp
          · congr 1
            have key : ∀ (n : Nat) (acc : Array Nat), List.foldl (fun x1 x2 => x1 ++ x2) acc (List.replicate n a.toArray) = acc ++ (List.replicate n a).flatten.toArray := by
              intro n
              induction n with
              | zero => intro acc; simp
              | succ n ih => intro acc; rw [List.replicate_succ, List.foldl_cons, ih, List.replicate_succ, List.flatten_cons]; simp
            have := key b.toNat #[]
            simpa using this
      rw [this]
      exact P _ _ (.str _ _)
    · cases e
  · cases e
theorem bin_div : Bin cx divV (binaryOp .FloorDiv) := bin_int (f := fun a b => if 0 < b ∧ b ≤ 1000 ∧ a.natAbs ≤ 100000000 then some (.int (a / b)) else none) fun A hh s led ρ a b t u z e Q E P => by
  split at e
  · rename_i hb
    cases e
    refine floordiv_int_or hh (fun h0 => by omega) (fun _ => ?_) (fun _ => .inl (PyProof.noPylong_of_log2 ?_))
    · rw [Int.fdiv_eq_ediv_of_nonneg _ (by omega)]
      exact P _ _ (.int _ _)
    · have h0 : b.natAbs ≠ 0 := by omega
      exact (Nat.log2_lt h0).mpr (Nat.lt_of_le_of_lt (by omega : b.natAbs ≤ 1000) (Nat.lt_of_lt_of_le (by decide : 1000 < 2 ^ 10) (Nat.pow_le_pow_right (by decide) (by decide))))
  · cases e
noncomputable def powV : V → V → Option V
  | .int a, .int b => if 0 ≤ b ∧ b ≤ 20 ∧ a.natAbs ≤ 10 then some (.int (a ^ b.toNat)) else none
  | _, _ => none
theorem bin_pow : Bin cx powV (binaryOp .Pow) := by
  intro A hh s led ρ x y z wx wy X Y e Q E P
  cases X <;> cases Y <;> simp only [powV, reduceCtorEq] at e
  split at e
  · rename_i hb
    cases e
    exact pow_int_small hb.1 (by omega) (by omega) (P _ _ (.int _ _))
  · cases e
noncomputable def ltV : V → V → Option V
  | .int a, .int b => some (.bool (decide (a < b)))
  | _, _ => none
noncomputable def leV : V → V → Option V
  | .int a, .int b => some (.bool (decide (a ≤ b)))
  | _, _ => none
noncomputable def gtV : V → V → Option V
  | .int a, .int b => some (.bool (decide (b < a)))
  | _, _ => none
noncomputable def geV : V → V → Option V
  | .int a, .int b => some (.bool (decide (b ≤ a)))
  | _, _ => none
noncomputable def eqV : V → V → Option V
  | .int a, .int b => some (.bool (a == b))
  | .str a, .str b => some (.bool (a == b))
  | .bool a, .bool b => some (.bool (a == b))
  | _, _ => none
noncomputable def neV : V → V → Option V
  | .int a, .int b => some (.bool (a != b))
  | .str a, .str b => some (.bool (a != b))
  | .bool a, .bool b => some (.bool (a != b))
  | _, _ => none
noncomputable def isV : V → V → Option V
  | .undef, _ => none
  | .none, .none => some (.bool true)
  | _, .none => some (.bool false)
  | _, _ => none
noncomputable def isNotV : V → V → Option V
  | .undef, _ => none
  | .none, .none => some (.bool false)
  | _, .none => some (.bool true)
  | _, _ => none
theorem bin_lt : Bin cx ltV (compareOp .Lt) := bin_int (f := fun a b => some (.bool (decide (a < b)))) fun A hh s led ρ a b t u z e Q E P => by
  cases e
  exact lt_int (P _ s.toks (.bool _))
theorem bin_le : Bin cx leV (compareOp .LtE) := bin_int (f := fun a b => some (.bool (decide (a ≤ b)))) fun A hh s led ρ a b t u z e Q E P => by
  cases e
  exact le_int (P _ s.toks (.bool _))
theorem bin_gt : Bin cx gtV (compareOp .Gt) := bin_int (f := fun a b => some (.bool (decide (b < a)))) fun A hh s led ρ a b t u z e Q E P => by
  cases e
  exact gt_int (P _ s.toks (.bool _))
theorem bin_ge : Bin cx geV (compareOp .GtE) := bin_int (f := fun a b => some (.bool (decide (b ≤ a)))) fun A hh s led ρ a b t u z e Q E P => by
  cases e
  exact ge_int (P _ s.toks (.bool _))
theorem bin_eq : Bin cx eqV (compareOp .Eq) := by
  intro A hh s led ρ x y z wx wy X Y e Q E P
  unfold eqV at e
  split at e <;> cases e
  · obtain ⟨t, rfl⟩ := X.int_inv
    obtain ⟨u, rfl⟩ := Y.int_inv
    exact eq_int (P _ s.toks (.bool _))
  · obtain ⟨t, rfl⟩ := X.str_inv
    obtain ⟨u, rfl⟩ := Y.str_inv
    exact eq_str (by rw [strEq]; exact P _ s.toks (.bool _))
  · obtain rfl := X.bool_inv
    obtain rfl := Y.bool_inv
    exact eq_bool (P _ s.toks (.bool _))
theorem bin_ne : Bin cx neV (compareOp .NotEq) := by
  intro A hh s led ρ x y z wx wy X Y e Q E P
  unfold neV at e
  split at e <;> cases e
  · obtain ⟨t, rfl⟩ := X.int_inv
    obtain ⟨u, rfl⟩ := Y.int_inv
    exact ne_int (P _ s.toks (.bool _))
  · obtain ⟨t, rfl⟩ := X.str_inv
    obtain ⟨u, rfl⟩ := Y.str_inv
    refine ne_str ?_
    rw [bne, strEq]
    exact P _ s.toks (.bool _)
  · obtain rfl := X.bool_inv
    obtain rfl := Y.bool_inv
    exact ne_bool (P _ s.toks (.bool _))
theorem bin_is : Bin cx isV (compareOp .Is) := by
  intro A hh s led ρ x y z wx wy X Y e Q E P
  unfold isV at e
  split at e <;> cases e
  · obtain rfl := Y.none_inv
    obtain rfl := X.none_inv
    exact is_none (P _ s.toks (.bool _))
  · rename_i hn
    obtain rfl := Y.none_inv
    refine is_none ?_
    cases X <;> first | exact P _ s.toks (.bool _) | exact absurd rfl hn
theorem bin_isNot : Bin cx isNotV (compareOp .IsNot) := by
  intro A hh s led ρ x y z wx wy X Y e Q E P
  unfold isNotV at e
  split at e <;> cases e
  · obtain rfl := Y.none_inv
    obtain rfl := X.none_inv
    exact isNot_none (P _ s.toks (.bool _))
  · rename_i hn
    obtain rfl := Y.none_inv
    refine isNot_none ?_
    cases X <;> first | exact P _ s.toks (.bool _) | exact absurd rfl hn
noncomputable def tE (g : SE) : ST := fun S => match g S with
  | some (.bool b, st) => some (b, st)
  | _ => none
theorem t_val {e : Expr} {g : SE} (h : SoundE cx d sc e g)
    (hq : ∀ env whole, PySem.isTrue e env whole = (do let v ← whole; standAt e.pos; holding [v] (truthy v))) : SoundT cx d sc e (tE g) := by
  refine ⟨?_⟩
  intro f ok s m led ρ S I R b st' hg Q E P
  unfold tE at hg
  split at hg
  · rename_i b' st1 e1
    cases hg
    refine wpAny_isTrue_value (h.1 f ok s m led ρ S I R _ _ e1 _ _ fun w h' tk' led' ρ' I' G' X' => ?_) (hq _ _)
    cases X'
    exact wpAny_truthy_bool (P _ _ _ _ I' G')
  · cases hg
theorem t_cmp {l r : Expr} {gl gr : SE} {o : CmpOp} {op : V → V → Option V} {pos : Pos} (hl : SoundE cx d sc l gl) (hr : SoundE cx d sc r gr) (hop : Bin cx op (compareOp o)) (hm : behindInMarks o r = false) :
    SoundT cx d sc (.Compare l [o] [r] pos) (tE (bE op gl gr)) := by
  refine ⟨?_⟩
  intro f ok s m led ρ S I R b st' hg Q E P
  unfold tE at hg
  split at hg
  · rename_i b' st1 e1
    cases hg
    refine wpAny_isTrue_Compare1 ?_ hm
    refine wpAny_mono (two_sound hl hr hop f ok s m led ρ S I R _ _ e1 (fun c s₃ => wpAny cx.M f.A (truthy c) Q E s₃) E fun w h' tk' led' ρ' I' G' X' => ?_) (fun x s₁ hx => ?_) fun _ _ x => x
    · cases X'
      exact wpAny_truthy_bool (P _ _ _ _ I' G')
    · exact wpAny_mono hx (fun y s₂ hy => hy) fun _ _ x => x
  · cases hg
noncomputable def tN (t : ST) : ST := fun S => match t S with
  | some (b, st) => some (!b, st)
  | none => none
theorem t_not {x : Expr} {t : ST} {pos : Pos} (h : SoundT cx d sc x t) : SoundT cx d sc (.UnaryOp .Not x pos) (tN t) := by
  refine ⟨?_⟩
  intro f ok s m led ρ S I R b st' hg Q E P
  unfold tN at hg
  split at hg
  · rename_i b' st1 e1
    cases hg
    exact wpAny_isTrue_Not (h.1 f ok s m led ρ S I R _ _ e1 _ _ P)
  · cases hg
structure SoundA (cx : Cx) (d : Nat) (sc : Sc) (o : BoolOp) (es : List Expr) (g : ST) : Prop where
  out : ∀ (f : Fm), f.Ok cx d sc → ∀ (s : Shared) m led ρ (S₀ : S), Inv cx f s.heap m led ρ S₀.st → LR cx sc f m led ρ S₀.lo S₀.ce → ∀ b st', g S₀ = some (b, st') →
    ∀ Q E, PostT cx f m led ρ st' b Q s → wpAny cx.M f.A (allTrue o es (f.env sc)) Q E s
noncomputable def tB (b : Bool) : ST := fun S => some (b, S.st)
noncomputable def tAnd (a r : ST) : ST := fun S => match a S with
  | some (true, st) => r ⟨S.lo, S.ce, st⟩
  | some (false, st) => some (false, st)
  | none => none
noncomputable def tOr (a r : ST) : ST := fun S => match a S with
  | some (true, st) => some (true, st)
  | some (false, st) => r ⟨S.lo, S.ce, st⟩
  | none => none
theorem a_andNil : SoundA cx d sc .And [] (tB true) := by
  refine ⟨?_⟩
  intro f ok s m led ρ S I R b st' hg Q E P
  cases hg
  exact wpAny_allTrue_And_nil (P _ s.toks _ _ I (.refl _ _))
theorem a_orNil : SoundA cx d sc .Or [] (tB false) := by
  refine ⟨?_⟩
  intro f ok s m led ρ S I R b st' hg Q E P
  cases hg
  exact wpAny_allTrue_Or_nil (P _ s.toks _ _ I (.refl _ _))
theorem PostT.next {f : Fm} {m led ρ led1 ρ1 st' b Q} {s : Shared} {h1 tk1} (P : PostT cx f m led ρ st' b Q s) (G : Grow led ρ led1 ρ1) : PostT cx f m led1 ρ1 st' b Q (put s h1 tk1) :=
  fun h' tk' led' ρ' I' G' => P h' tk' led' ρ' I' (G.trans G')
theorem a_and {e : Expr} {es : List Expr} {a r : ST} (ha : SoundT cx d sc e a) (hr : SoundA cx d sc .And es r) : SoundA cx d sc .And (e :: es) (tAnd a r) := by
  refine ⟨?_⟩
  intro f ok s m led ρ S I R b st' hg Q E P
  refine wpAny_allTrue_And_cons ?_
  unfold tAnd at hg
  split at hg
  · rename_i st1 e1
    exact ha.1 f ok s m led ρ S I R _ _ e1 _ _ fun h1 tk1 led1 ρ1 I1 G1 => hr.1 f ok (put s h1 tk1) m led1 ρ1 ⟨S.lo, S.ce, st1⟩ I1 (R.mono G1) _ _ hg _ _ (P.next G1)
  · rename_i st1 e1
    cases hg
    exact ha.1 f ok s m led ρ S I R _ _ e1 _ _ fun h1 tk1 led1 ρ1 I1 G1 => P _ _ _ _ I1 G1
  · cases hg
theorem a_or {e : Expr} {es : List Expr} {a r : ST} (ha : SoundT cx d sc e a) (hr : SoundA cx d sc .Or es r) : SoundA cx d sc .Or (e :: es) (tOr a r) := by
  refine ⟨?_⟩
  intro f ok s m led ρ S I R b st' hg Q E P
  refine wpAny_allTrue_Or_cons ?_
  unfold tOr at hg
  split at hg
  · rename_i st1 e1
    cases hg
    exact ha.1 f ok s m led ρ S I R _ _ e1 _ _ fun h1 tk1 led1 ρ1 I1 G1 => P _ _ _ _ I1 G1
  · rename_i st1 e1
    exact ha.1 f ok s m led ρ S I R _ _ e1 _ _ fun h1 tk1 led1 ρ1 I1 G1 => hr.1 f ok (put s h1 tk1) m led1 ρ1 ⟨S.lo, S.ce, st1⟩ I1 (R.mono G1) _ _ hg _ _ (P.next G1)
  · cases hg
theorem t_bool {o : BoolOp} {es : List Expr} {t : ST} {pos : Pos} (h : SoundA cx d sc o es t) : SoundT cx d sc (.BoolOp o es pos) t :=
  ⟨fun f ok s m led ρ S I R b st' hg Q E P => wpAny_isTrue_BoolOp (h.1 f ok s m led ρ S I R b st' hg Q E P)⟩
structure SoundO (cx : Cx) (d : Nat) (sc : Sc) (o : BoolOp) (es : List Expr) (g : SE) : Prop where
  out : ∀ (f : Fm), f.Ok cx d sc → ∀ (s : Shared) m led ρ (S₀ : S), Inv cx f s.heap m led ρ S₀.st → LR cx sc f m led ρ S₀.lo S₀.ce → ∀ v st', g S₀ = some (v, st') →
    ∀ pos Q E, PostE cx f m led ρ st' v Q s → wpAny cx.M f.A (boolOp pos o (evalEach es (f.env sc))) Q E s
theorem PostE.next {f : Fm} {m led ρ led1 ρ1 st' v Q} {s : Shared} {h1 tk1} (P : PostE cx f m led ρ st' v Q s) (G : Grow led ρ led1 ρ1) : PostE cx f m led1 ρ1 st' v Q (put s h1 tk1) :=
  fun w h' tk' led' ρ' I' G' => P w h' tk' led' ρ' I' (G.trans G')
noncomputable def vAnd (a r : SE) : SE := fun S => match a S with
  | some (.bool true, st) => r ⟨S.lo, S.ce, st⟩
  | some (.bool false, st) => some (.bool false, st)
  | _ => none
noncomputable def vOr (a r : SE) : SE := fun S => match a S with
  | some (.bool true, st) => some (.bool true, st)
  | some (.bool false, st) => r ⟨S.lo, S.ce, st⟩
  | _ => none
theorem o_one {o : BoolOp} {e : Expr} {g : SE} (h : SoundE cx d sc e g) : SoundO cx d sc o [e] g :=
  ⟨fun f ok s m led ρ S I R v st' hg _ Q E P => h.1 f ok s m led ρ S I R v st' hg Q E P⟩
theorem o_and {e e' : Expr} {es : List Expr} {a r : SE} (ha : SoundE cx d sc e a) (hr : SoundO cx d sc .And (e' :: es) r) : SoundO cx d sc .And (e :: e' :: es) (vAnd a r) := by
  refine ⟨?_⟩
  intro f ok s m led ρ S I R v st' hg pos Q E P
  show wpAny _ _ (do
    let v ← eval e (f.env sc)
    standAt pos
    let t ← holding [v] (truthy v)
    match BoolOp.And, t with
    | .And, false | .Or, true => pure v
    | _, _ => boolOp pos .And (evalEach (e' :: es) (f.env sc))) Q E s
  unfold vAnd at hg
  split at hg
  · rename_i st1 e1
    refine wpAny_bind (ha.1 f ok s m led ρ S I R _ _ e1 _ _ fun w h1 tk1 led1 ρ1 I1 G1 X1 => wpAny_bind (wpAny_standAt ?_))
    cases X1
    exact wpAny_bind (wpAny_holding (wpAny_truthy_bool (hr.1 f ok (put s h1 tk1) m led1 ρ1 ⟨S.lo, S.ce, st1⟩ I1 (R.mono G1) _ _ hg _ _ _ (P.next G1))))
  · rename_i st1 e1
    cases hg
    refine wpAny_bind (ha.1 f ok s m led ρ S I R _ _ e1 _ _ fun w h1 tk1 led1 ρ1 I1 G1 X1 => wpAny_bind (wpAny_standAt ?_))
    cases X1
    exact wpAny_bind (wpAny_holding (wpAny_truthy_bool (wpAny_pure (P _ _ _ _ _ I1 G1 (.bool _)))))
  · cases hg
theorem o_or {e e' : Expr} {es : List Expr} {a r : SE} (ha : SoundE cx d sc e a) (hr : SoundO cx d sc .Or (e' :: es) r) : SoundO cx d sc .Or (e :: e' :: es) (vOr a r) := by
  refine ⟨?_⟩
  intro f ok s m led ρ S I R v st' hg pos Q E P
  show wpAny _ _ (do
    let v ← eval e (f.env sc)
    standAt pos
    let t ← holding [v] (truthy v)
    match BoolOp.Or, t with
    | .And, false | .Or, true => pure v
    | _, _ => boolOp pos .Or (evalEach (e' :: es) (f.env sc))) Q E s
  unfold vOr at hg
  split at hg
  · rename_i st1 e1
    cases hg
    refine wpAny_bind (ha.1 f ok s m led ρ S I R _ _ e1 _ _ fun w h1 tk1 led1 ρ1 I1 G1 X1 => wpAny_bind (wpAny_standAt ?_))
    cases X1
    exact wpAny_bind (wpAny_holding (wpAny_truthy_bool (wpAny_pure (P _ _ _ _ _ I1 G1 (.bool _)))))
  · rename_i st1 e1
    refine wpAny_bind (ha.1 f ok s m led ρ S I R _ _ e1 _ _ fun w h1 tk1 led1 ρ1 I1 G1 X1 => wpAny_bind (wpAny_standAt ?_))
    cases X1
    exact wpAny_bind (wpAny_holding (wpAny_truthy_bool (hr.1 f ok (put s h1 tk1) m led1 ρ1 ⟨S.lo, S.ce, st1⟩ I1 (R.mono G1) _ _ hg _ _ _ (P.next G1))))
  · cases hg
theorem b_bool {o : BoolOp} {es : List Expr} {g : SE} {pos : Pos} (h : SoundO cx d sc o es g) : SoundE cx d sc (.BoolOp o es pos) g :=
  ⟨fun f ok s m led ρ S I R v st' hg Q E P => h.1 f ok s m led ρ S I R v st' hg pos Q E P⟩
noncomputable def ifE (t : ST) (a b : SE) : SE := fun S => match t S with
  | some (true, st) => a ⟨S.lo, S.ce, st⟩
  | some (false, st) => b ⟨S.lo, S.ce, st⟩
  | none => none
theorem b_if {e a b : Expr} {t : ST} {ga gb : SE} {pos : Pos} (ht : SoundT cx d sc e t) (ha : SoundE cx d sc a ga) (hb : SoundE cx d sc b gb) : SoundE cx d sc (.IfExp e a b pos) (ifE t ga gb) := by
  refine ⟨?_⟩
  intro f ok s m led ρ S I R v st' hg Q E P
  refine wpAny_IfExp ?_
  unfold ifE at hg
  split at hg
  · rename_i st1 e1
    exact ht.1 f ok s m led ρ S I R _ _ e1 _ _ fun h1 tk1 led1 ρ1 I1 G1 => ha.1 f ok (put s h1 tk1) m led1 ρ1 ⟨S.lo, S.ce, st1⟩ I1 (R.mono G1) _ _ hg _ _ (P.next G1)
  · rename_i st1 e1
    exact ht.1 f ok s m led ρ S I R _ _ e1 _ _ fun h1 tk1 led1 ρ1 I1 G1 => hb.1 f ok (put s h1 tk1) m led1 ρ1 ⟨S.lo, S.ce, st1⟩ I1 (R.mono G1) _ _ hg _ _ (P.next G1)
  · cases hg
theorem b_neg {i : Int} {k : Nat} {p pos : Pos} : SoundE cx d sc (.UnaryOp .USub (.Constant (.int i) k p) pos) (cE (.int (-i))) := by
  refine ⟨?_⟩
  intro f ok s m led ρ S I R v st' hg Q E P
  cases hg
  refine wpAny_UnaryOp (wpAny_Constant_int (neg_int ?_))
  exact P _ _ _ _ _ I (.refl _ _) (.int _ _)
end
end Mp
namespace Mp
noncomputable def sliceL {α : Type} (xs : List α) (lo hi : Option Int) : List α :=
  (xs.drop (lo.elim 0 (clipAt xs.length))).take (hi.elim xs.length (clipAt xs.length) - lo.elim 0 (clipAt xs.length))
theorem sliceIdx_plain (lo hi : Option Int) (n : Nat) :
    Builtin.Str.strSliceIndices lo hi 1 n = (List.range (hi.elim n (clipAt n) - lo.elim 0 (clipAt n))).map (lo.elim 0 (clipAt n) + ·) := by
  rw [← sliceRange_one]
  unfold Builtin.Str.strSliceIndices
  simp only
  congr 1
  · cases lo with
    | none => simp
    | some i =>
      simp only [Option.elim]
      rw [clipAt_cast]
      simp
  · cases hi with
    | none => simp
    | some i =>
      simp only [Option.elim]
      rw [clipAt_cast]
      simp
theorem slice_str (cs : List Nat) (lo hi : Option Int) : Txt.slice ⟨cs.toArray⟩ lo hi = ⟨(sliceL cs lo hi).toArray⟩ := by
  unfold Txt.slice
  have hl : Str.length ⟨cs.toArray⟩ = cs.length := by show cs.toArray.size = _; simp
  rw [hl, sliceIdx_plain]
  split
  · rename_i h
    simp only [beq_self_eq_true, Bool.true_and, List.length_map, List.length_range, beq_iff_eq] at h
    unfold sliceL
    have hc : ∀ i, clipAt cs.length i ≤ cs.length := by intro i; unfold clipAt; omega
    have hb : hi.elim cs.length (clipAt cs.length) ≤ cs.length := by
      cases hi with
      | none => exact Nat.le_refl _
      | some i => exact hc i
    by_cases h0 : cs.length = 0
    · have : cs = [] := List.length_eq_zero_iff.mp h0
      subst this
      simp
    · have ha : lo.elim 0 (clipAt cs.length) = 0 := by omega
      rw [h, ha]
      simp
  · congr 1
    have := pick_run cs.toArray (lo.elim 0 (clipAt cs.length)) (hi.elim cs.length (clipAt cs.length) - lo.elim 0 (clipAt cs.length))
    rw [this]
    unfold sliceL
    simp
theorem VRs.slice {cx led ρ} {vs ws} (lo hi : Option Int) (h : VRs cx led ρ vs ws) : VRs cx led ρ (sliceL vs lo hi) (sliceL ws lo hi) := by
  unfold sliceL
  rw [← h.length]
  exact (h.drop _).take _
noncomputable def idx {α : Type} (xs : List α) (k : Int) : Option α :=
  if 0 ≤ k then (if k < 1000000 then xs[k.toNat]? else none)
  else if 0 ≤ k + xs.length ∧ -1000000 ≤ k then xs[(k + xs.length).toNat]? else none
theorem VR.handed {cx led ρ v w} (h : VR cx led ρ v w) : handedIn w = true := by cases h <;> rfl
section
variable {cx : Cx} {d : Nat} {sc : Sc}
noncomputable def esN : SEs := fun S => some ([], S.st)
noncomputable def esC (g : SE) (r : SEs) : SEs := fun S => match g S with
  | some (v, st) => match r ⟨S.lo, S.ce, st⟩ with
    | some (vs, st) => some (v :: vs, st)
    | none => none
  | none => none
theorem es_nil : SoundEs cx d sc [] esN := by
  refine ⟨?_⟩
  intro f ok s m led ρ S I R vs st' hg pos Q E P
  cases hg
  exact wpAny_items_nil (P _ _ s.toks _ _ I (.refl _ _) .nil)
theorem es_cons {e : Expr} {es : List Expr} {g : SE} {r : SEs} (h : SoundE cx d sc e g) (hr : SoundEs cx d sc es r)
    (hs : ∀ env, starEach (e :: es) env = (false, eval e env) :: starEach es env) : SoundEs cx d sc (e :: es) (esC g r) := by
  refine ⟨?_⟩
  intro f ok s m led ρ S I R vs st' hg pos Q E P
  unfold esC at hg
  split at hg
  · rename_i v st1 e1
    split at hg
    · rename_i vs' st2 e2
      cases hg
      refine wpAny_items_cons ?_ (hs _)
      exact h.1 f ok s m led ρ S I R _ _ e1 _ _ fun w h1 tk1 led1 ρ1 I1 G1 X1 =>
        hr.1 f ok (put s h1 tk1) m led1 ρ1 ⟨S.lo, S.ce, st1⟩ I1 (R.mono G1) _ _ e2 _ _ _ fun ws h2 tk2 led2 ρ2 I2 G2 X2 => P _ _ _ _ _ I2 (G1.trans G2) (.cons (X1.mono G2) X2)
    · cases hg
  · cases hg
noncomputable def tupE (g : SEs) : SE := fun S => match g S with
  | some (vs, st) => if vs.length ≤ 1000 then some (.tup vs, st) else none
  | none => none
theorem newTuple_ok {f : Fm} {s : Shared} {m led ρ st vs ws} (I : Inv cx f s.heap m led ρ st) (X : VRs cx led ρ vs ws) (hl : vs.length ≤ 1000) {Q E} (P : PostE cx f m led ρ st (.tup vs) Q s) :
    wpAny cx.M f.A (newTuple ws) Q E s := by
  refine newTuple_N I.F I.N (fun h' F' N' => ?_) (by rw [← X.length, sizeLine_eq]; omega)
  obtain ⟨I', G'⟩ := I.push (Fr.size_ne I.N) F' N'
  exact P _ _ s.toks _ _ I' G' (.tup vs ws _ 0 (.inl (.head _)) (X.mono G'))
theorem b_tup {es : List Expr} {g : SEs} {k : Nat} {pos : Pos} (h : SoundEs cx d sc es g) : SoundE cx d sc (.Tuple es k pos) (tupE g) := by
  refine ⟨?_⟩
  intro f ok s m led ρ S I R v st' hg Q E P
  unfold tupE at hg
  split at hg
  · rename_i vs st1 e1
    split at hg
    · rename_i hl
      cases hg
      exact Tuple_ (h.1 f ok s m led ρ S I R _ _ e1 _ _ _ fun ws h1 tk1 led1 ρ1 I1 G1 X1 => newTuple_ok (s := put s h1 tk1) I1 X1 hl (P.next G1))
    · cases hg
  · cases hg
noncomputable def listE (g : SEs) : SE := fun S => match g S with
  | some (vs, st) => if vs.length ≤ 100000 then some (.ref (ln st), ad st (.list vs)) else none
  | none => none
theorem Inv.newList {f : Fm} {h h' : Heap} {m led ρ st} (I : Inv cx f h m led ρ st) {vs : List V} {ws : List Value} {l : Addr} {n : Nat} (F' : Fr f.h₀ f.L h' m) (N' : News f.h₀ f.L h' ((l, PySem.W.listOf ws.toArray n) :: (led ++ f.kept)))
    (hl : ∀ p ∈ led ++ f.kept, p.1 < l) (X : VRs cx led ρ vs ws) :
    Inv cx f h' m ((l, PySem.W.listOf ws.toArray n) :: led) (ρ ++ [(l, l)]) (st ++ [.list vs]) ∧ Grow led ρ ((l, PySem.W.listOf ws.toArray n) :: led) (ρ ++ [(l, l)]) := by
  have hne : ∀ p ∈ led ++ f.kept, p.1 ≠ l := fun p hp => Nat.ne_of_lt (hl p hp)
  refine I.make (new := [(l, PySem.W.listOf ws.toArray n)]) F' N' ?_ (fun q hq e => ?_) ?_
  · simp only [List.singleton_append, List.map_cons, List.nodup_cons]
    exact ⟨fun q => by obtain ⟨p, hp, e⟩ := List.mem_map.mp q; exact hne p hp e, I.nd⟩
  · obtain ⟨o, ho⟩ := I.rho_mem q hq
    exact hne _ (List.mem_append_left _ ho) e
  · refine ⟨l, ws.toArray, n, by rw [← I.len]; simp, .head _, ?_⟩
    simp only []
    exact X.mono ⟨fun p h _ => .tail _ h, [(l, l)], rfl⟩
theorem b_list {es : List Expr} {g : SEs} {pos : Pos} (h : SoundEs cx d sc es g) : SoundE cx d sc (.List es pos) (listE g) := by
  refine ⟨?_⟩
  intro f ok s m led ρ S I R v st' hg Q E P
  unfold listE at hg
  try simp only [gt_eq, pt_eq, ad_eq, ln_eq] at hg
  split at hg
  · rename_i vs st1 e1
    split at hg
    · rename_i hl
      cases hg
      refine List_ (h.1 f ok s m led ρ S I R _ _ e1 _ _ _ fun ws h1 tk1 led1 ρ1 I1 G1 X1 => ?_)
      refine newList_K (s := put s h1 tk1) I1.F I1.N (fun l h' F' N' hlt => ?_) (by rw [← X1.length, sizeLine_eq]; omega)
      obtain ⟨I', G'⟩ := I1.newList F' N' hlt X1
      refine P _ _ tk1 _ _ I' (G1.trans G') (.ref _ l l ?_)
      rw [← I1.len]; simp
    · cases hg
  · cases hg
structure AttrOk (cx : Cx) (c i : Nat) (name : Str) : Prop where
  at_ : (cx.attrs c)[i]? = some name
  plain : plainGet cx.K (cx.ga c) name = true
  dict : hasDictIn cx.K (cx.ga c) = true
  cls : findIn cx.K (.ref (cx.ga c)) name = some none
noncomputable def getA (c i : Nat) (v : V) (st : List Ob) : Option V := match v with
  | .ref k => match gt st k with
    | some (.inst c' fs) => if c' = c then (match fs[i]? with
      | some .undef => none
      | some v => some v
      | none => none) else none
    | _ => none
  | _ => none
theorem getA_sound {f : Fm} {d : Nat} {sc : Sc} (ok : f.Ok cx d sc) {s : Shared} {m led ρ st} (I : Inv cx f s.heap m led ρ st) {c i : Nat} {name : Str} (a : AttrOk cx c i name) {v v' : V} {w : Value} (X : VR cx led ρ v w)
    (e : getA c i v st = some v') {Q E} {expr : Bool} (P : PostE cx f m led ρ st v' Q s) : wpAny cx.M f.A (getAttr w name expr) Q E s := by
  unfold getA at e
  try simp only [gt_eq, pt_eq, ad_eq, ln_eq] at e
  split at e
  · rename_i k
    split at e
    · rename_i c' fs hk
      split at e
      · rename_i hc
        subst hc
        split at e
        · cases e
        · rename_i v1 hne hv
          cases e
          obtain ⟨x, dx, es, n, h1, h2, h3, hl, FR⟩ := I.ob _ _ hk
          cases X with
          | ref _ x' d' hx =>
            rw [h1] at hx
            cases hx
            obtain ⟨w', hg, hr⟩ := FR.got i name _ a.at_ hv hne
            exact get_own I.F ok.X (InstAt.of_news I.N (List.mem_append_left _ h2) (List.mem_append_left _ h3)) a.plain a.dict a.cls rfl hg hr.handed (P _ _ _ _ _ I (.refl _ _) hr)
        · cases e
      · cases e
    · cases e
  · cases e
noncomputable def attrE (c i : Nat) (g : SE) : SE := fun S => match g S with
  | some (v, st) => match getA c i v st with
    | some v' => some (v', st)
    | none => none
  | none => none
theorem b_attr {e : Expr} {g : SE} {name : Str} {pos : Pos} {c i : Nat} (h : SoundE cx d sc e g) (a : AttrOk cx c i name)
    (hq : ∀ env, eval (.Attribute e name pos) env = (do
      let o ← eval e env
      standAt pos.atName
      let r ← holding [o] (getAttr o name true)
      letTemporaryGo e o r
      pure r)) : SoundE cx d sc (.Attribute e name pos) (attrE c i g) := by
  refine ⟨?_⟩
  intro f ok s m led ρ S I R v st' hg Q E P
  unfold attrE at hg
  split at hg
  · rename_i v1 st1 e1
    split at hg
    · rename_i v2 e2
      cases hg
      refine Attribute_any_ (h.1 f ok s m led ρ S I R _ _ e1 _ _ fun w h1 tk1 led1 ρ1 I1 G1 X1 => ?_) (hq _)
      exact getA_sound ok (s := put s h1 tk1) I1 a X1 e2 (P.next G1)
    · cases hg
  · cases hg
end
end Mp
namespace Mp
theorem seqIndex_at {k : Int} {n : Nat} (h0 : 0 ≤ k) (h1 : k < n) : seqIndex? k n = some k.toNat := by
  unfold seqIndex?
  have : ¬ k < 0 := by omega
  simp [this, h0, h1]
theorem idx_spec {α : Type} {xs : List α} {k : Int} {x : α} (h : idx xs k = some x) :
    ∃ j, seqIndex? k xs.length = some j ∧ xs[j]? = some x ∧ -1000000 ≤ k ∧ k < 1000000 ∧ ((0 ≤ k ∧ j = k.toNat) ∨ (k < 0 ∧ -(xs.length : Int) ≤ k ∧ j = (k + xs.length).toNat)) := by
  unfold idx at h
  split at h
  · rename_i h0
    split at h
    · rename_i h1
      have hl := (List.getElem?_eq_some_iff.mp h).1
      exact ⟨k.toNat, seqIndex_at h0 (by omega), h, by omega, h1, .inl ⟨h0, rfl⟩⟩
    · cases h
  · rename_i h0
    split at h
    · rename_i h1
      exact ⟨_, PySem.seqIndex_neg (by omega) (by omega), h, h1.2, by omega, .inr ⟨by omega, by omega, rfl⟩⟩
    · cases h
theorem idx_map {α β : Type} {g : α → β} {l : List α} {k : Int} : idx (l.map g) k = (idx l k).map g := by
  unfold idx
  simp only [List.length_map, List.getElem?_map]
  split <;> (try split) <;> rfl
noncomputable def getI (v i : V) (st : List Ob) : Option V := match v, i with
  | .tup vs, .int k => idx vs k
  | .str cs, .int k => (idx cs k).map fun c => .str [c]
  | .ref r, .int k => match gt st r with
    | some (.list vs) => idx vs k
    | some (.nums is) => (idx is k).map .int
    | _ => none
  | .ref r, .str key => match gt st r with
    | some (.dict es) => es.lookup key
    | _ => none
  | _, _ => none
theorem tup_at {cx : Cx} {f : Fm} {d sc} (ok : Fm.Ok cx d sc f) {h m led ρ st} (I : Inv cx f h m led ρ st) {a ws n} (h1 : (a, tupObj ws n) ∈ led ∨ cx.K.lookup a = some (tupObj ws n)) : IsTup h a ws.toArray := by
  rcases h1 with h1 | h1
  · exact ⟨_, (I.at_ h1).1, rfl, n, rfl⟩
  · exact ⟨_, I.F.keep _ _ (ok.X _ _ h1), rfl, n, rfl⟩
theorem list_at {cx : Cx} {f : Fm} {h m led ρ st} (I : Inv cx f h m led ρ st) {a ws n} (h1 : (a, PySem.W.listOf ws n) ∈ led) : h.IsList a ws := ⟨_, (I.at_ h1).1, rfl, n, rfl⟩
theorem isStrOf_lists (key k : List Nat) (t : Tok) : Value.isStrOf ⟨key.toArray⟩ (.str ⟨k.toArray⟩ t) = (key == k) := by
  rw [← isStr_of]
  show ((⟨k.toArray⟩ : Str) == ⟨key.toArray⟩) = _
  rw [strEq, Bool.eq_iff_iff, beq_iff_eq, beq_iff_eq]
  exact eq_comm
theorem PairsR.find {cx led ρ} {key : List Nat} {v : V} {es : List (List Nat × V)} {ds : List DictEntry} (h0 : PairsR cx led ρ es ds) : es.lookup key = some v → ∃ w, findBy Value.isStrOf ds.toArray ⟨key.toArray⟩ = some w ∧ VR cx led ρ v w := by
  induction h0 with
  | nil => intro h; cases h
  | @cons k t v' w es ds a r ih =>
    intro h
    rw [List.lookup_cons] at h
    unfold findBy at ih ⊢
    rw [List.find?_toArray] at ih ⊢
    rw [List.find?_cons]
    dsimp only
    rw [isStrOf_lists]
    cases hk : key == k with
    | true =>
      rw [hk] at h
      cases h
      exact ⟨w, rfl, a⟩
    | false =>
      rw [hk] at h
      exact ih h
theorem PairsR.keys {cx led ρ} : ∀ {es ds}, PairsR cx led ρ es ds → KeysLit cx.w.params ds
  | _, _, .nil => trivial
  | _, _, .cons _ r => ⟨⟨_, _, rfl, rfl⟩, r.keys⟩
theorem KvsR.find {cx led ρ} {key : List Nat} {v : V} {es : List (List Nat × V)} {ds : List (Str × Value)} (h0 : KvsR cx led ρ es ds) : es.lookup key = some v → ∃ w, valueAt ds ⟨key.toArray⟩ = some w ∧ VR cx led ρ v w := by
  induction h0 with
  | nil => intro h; cases h
  | @cons k v' w es ds a r ih =>
    intro h
    rw [List.lookup_cons] at h
    unfold valueAt at ih ⊢
    rw [List.find?_cons]
    by_cases hk : key = k
    · subst hk
      simp at h
      subst h
      exact ⟨w, by simp, a⟩
    · have h1 : (key == k) = false := by simpa using hk
      rw [h1] at h
      have h2 : (decide ((⟨k.toArray⟩ : Str) = ⟨key.toArray⟩)) = false := by
        rw [decide_eq_false_iff_not]
        intro e
        have := congrArg Str.cps e
        simp at this
        exact hk this.symm
      simp only [h2]
      exact ih h
theorem dict_at {cx : Cx} {f : Fm} {h m led ρ st} (I : Inv cx f h m led ρ st) {a o ds} (h1 : (a, o) ∈ led) (hd : o.IsDictOf (PySem.strKind cx.prog cx.w) ds) : h.DictOf (PySem.strKind cx.prog cx.w) a ds :=
  Heap.dictOf_iff.mpr ⟨o, (I.at_ h1).1, hd⟩
section
variable {cx : Cx} {d : Nat} {sc : Sc}
theorem getL_sound {f : Fm} {s : Shared} {m led ρ st} (I : Inv cx f s.heap m led ρ st) {vs : List V} {ws n} {a : Addr} {k : Int} {u : Tok} {v' : V} (h2 : (a, PySem.W.listOf ws n) ∈ led) (h3 : VRs cx led ρ vs ws.toList) (e : idx vs k = some v') {Q E} (P : PostE cx f m led ρ st v' Q s) :
    (∃ T id, s.TypeIs (.ref a) T ∧ typeLookup (.type T) "__getitem__" = pure (some (.builtin id))) ∧ wpAny cx.M f.A (getItem (.ref a) (.int k u)) Q E s := by
  obtain ⟨j, hj, hx, hlo, hhi, hcase⟩ := idx_spec e
  obtain ⟨w', hw, hr'⟩ := h3.get hx
  have hl := list_at I h2
  refine ⟨⟨_, _, hl.typeIs, slot_list_getitem.lookup⟩, ?_⟩
  have hw' : ws[j]? = some w' := by rw [← hw]; exact Array.getElem?_toList.symm
  have hsz : ws.size = vs.length := by rw [h3.length]; exact Array.length_toList.symm
  rcases hcase with ⟨hn, rfl⟩ | ⟨hn, hn2, rfl⟩
  · exact wpAny_getItem_list hl hn (by clear e hx hw hw' hr' h3; omega) hw' (P _ _ s.toks _ _ I (.refl _ _) hr')
  · exact wpAny_getItem_list_neg hl hn (by clear e hx hw hw' hr' h3 hj; omega) (by clear e hx hw hw' hr' h3 hj; omega) (by rw [hsz]; exact hw') (P _ _ s.toks _ _ I (.refl _ _) hr')
theorem getI_sound {f : Fm} (ok : f.Ok cx d sc) {s : Shared} {m led ρ st} (I : Inv cx f s.heap m led ρ st) {v i v' : V} {wv wi : Value} (X : VR cx led ρ v wv) (Y : VR cx led ρ i wi)
    (e : getI v i st = some v') {Q E} (P : PostE cx f m led ρ st v' Q s) :
    (∃ T id, s.TypeIs wv T ∧ typeLookup (.type T) "__getitem__" = pure (some (.builtin id))) ∧ wpAny cx.M f.A (getItem wv wi) Q E s := by
  unfold getI at e
  split at e
  · cases X with
    | tup vs ws a n h1 r =>
      obtain ⟨u, rfl⟩ := Y.int_inv
      obtain ⟨j, hj, hx, hlo, hhi, -⟩ := idx_spec e
      obtain ⟨w', hw, hr⟩ := r.get hx
      have ht := tup_at ok I h1
      exact ⟨⟨_, _, ht.typeIs, slot_tuple_getitem.lookup⟩, getItem_tuple ht (by clear e hx hw hr; omega) (by clear e hx hw hr; omega) (by rw [List.size_toArray, ← r.length]; exact hj) (by simpa using hw) (P _ _ s.toks _ _ I (.refl _ _) hr)⟩
  · obtain ⟨t, rfl⟩ := X.str_inv
    obtain ⟨u, rfl⟩ := Y.int_inv
    rename_i cs k
    obtain ⟨c, hc, rfl⟩ := Option.map_eq_some_iff.mp e
    obtain ⟨j, hj, hx, hlo, hhi, -⟩ := idx_spec hc
    refine ⟨⟨_, _, typeIs_str _ _ _, slot_str_getitem.lookup⟩, getItem_str (c := c) (by clear e hx hc; simp; omega) ?_ (P _ _ _ _ _ I (.refl _ _) (.str [c] _))⟩
    have : Str.length ⟨cs.toArray⟩ = cs.length := by show cs.toArray.size = _; simp
    rw [this, hj]
    simpa using hx
  · obtain ⟨u, rfl⟩ := Y.int_inv
    cases X with
    | ref r a dd hr =>
      try simp only [gt_eq] at e
      split at e
      · rename_i vs hst
        obtain ⟨a', ws, n, h1, h2, h3⟩ := I.ob _ _ hst
        rw [hr] at h1
        cases h1
        exact getL_sound I h2 h3 e P
      · rename_i is hst
        obtain ⟨a', ws, n, h1, h2, h3⟩ := I.ob _ _ hst
        rw [hr] at h1
        cases h1
        exact getL_sound I h2 (h3 led ρ) (by rw [idx_map]; exact e) P
      · cases e
  · obtain ⟨u, rfl⟩ := Y.str_inv
    cases X with
    | ref r a dd hr =>
      try simp only [gt_eq] at e
      split at e
      · rename_i es hst
        obtain ⟨a', o, ds, h1, h2, hd, h3⟩ := I.ob _ _ hst
        rw [hr] at h1
        cases h1
        obtain ⟨w', hw, hr'⟩ := h3.find e
        have hm := (dict_at I h2 hd).mapOf
        exact ⟨⟨_, _, hm.typeIs, slot_dict_getitem.lookup⟩, wpAny_getItem_of (strKind_is cx.prog cx.w _ u) hm hw (P _ _ _ _ _ I (.refl _ _) hr')⟩
      · cases e
  · cases e
noncomputable def subE (a b : SE) : SE := fun S => match a S with
  | some (x, st) => match b ⟨S.lo, S.ce, st⟩ with
    | some (y, st) => match getI x y st with
      | some z => some (z, st)
      | none => none
    | none => none
  | none => none
theorem b_sub {a b : Expr} {ga gb : SE} {pos : Pos} (ha : SoundE cx d sc a ga) (hb : SoundE cx d sc b gb)
    (hs : ∀ o i, subscripted b false o i = operate [o, i] (getItem o i)) : SoundE cx d sc (.Subscript a b pos) (subE ga gb) := by
  refine ⟨?_⟩
  intro f ok s m led ρ S I R v st' hg Q E P
  refine Subscript_ ?_
  unfold subE at hg
  split at hg
  · rename_i x st1 ea
    split at hg
    · rename_i y st2 eb
      split at hg
      · rename_i z ez
        cases hg
        refine ha.1 f ok s m led ρ S I R x st1 ea _ _ fun wx h1 tk1 led1 ρ1 I1 G1 X1 => ?_
        refine hb.1 f ok (put s h1 tk1) m led1 ρ1 ⟨S.lo, S.ce, st1⟩ I1 (R.mono G1) y _ eb _ _ fun wy h2 tk2 led2 ρ2 I2 G2 X2 => ?_
        have := getI_sound ok (s := put s h2 tk2) (E := E) I2 (X1.mono G2) X2 ez (P.next (G1.trans G2))
        obtain ⟨⟨T, id, hT, hl⟩, hw⟩ := this
        exact tail_any hT hl hw (hs _ _)
      · cases hg
    · cases hg
  · cases hg
noncomputable def partE (g : SE) : S → Option (Option Int × List Ob) := fun S => match g S with
  | some (.int i, st) => some (some i, st)
  | _ => none
noncomputable def partN : S → Option (Option Int × List Ob) := fun S => some (none, S.st)
structure SoundP (cx : Cx) (d : Nat) (sc : Sc) (e : Option Expr) (g : S → Option (Option Int × List Ob)) : Prop where
  out : ∀ (f : Fm), f.Ok cx d sc → ∀ (s : Shared) m led ρ (S₀ : S), Inv cx f s.heap m led ρ S₀.st → LR cx sc f m led ρ S₀.lo S₀.ce → ∀ i st', g S₀ = some (i, st') →
    ∀ (Q : Value → Shared → Prop) E, (∀ w h' tk' led' ρ', Inv cx f h' m led' ρ' st' → Grow led ρ led' ρ' → IsPart w i → Q w (put s h' tk')) → wpAny cx.M f.A (evalPart e (f.env sc)) Q E s
theorem p_none : SoundP cx d sc none partN := by
  refine ⟨?_⟩
  intro f ok s m led ρ S I R i st' hg Q E P
  cases hg
  exact evalPart_none_step (P _ _ s.toks _ _ I (.refl _ _) .none)
theorem p_some {e : Expr} {g : SE} (h : SoundE cx d sc e g) : SoundP cx d sc (some e) (partE g) := by
  refine ⟨?_⟩
  intro f ok s m led ρ S I R i st' hg Q E P
  unfold partE at hg
  split at hg
  · rename_i i' st1 e1
    cases hg
    refine evalPart_some_step (h.1 f ok s m led ρ S I R _ _ e1 _ _ fun w h' tk' led' ρ' I' G' X' => ?_)
    cases X'
    exact P _ _ _ _ _ I' G' (.int _ _)
  · cases hg
noncomputable def cutI (v : V) (lo hi : Option Int) (st : List Ob) : Option (V × List Ob) := match v with
  | .str cs => if cs.length ≤ 100000 then some (.str (sliceL cs lo hi), st) else none
  | .ref r => match gt st r with
    | some (.list vs) => if vs.length ≤ 100000 then some (.ref (ln st), ad st (.list (sliceL vs lo hi))) else none
    | _ => none
  | _ => none
noncomputable def sliE (a : SE) (lo hi : S → Option (Option Int × List Ob)) : SE := fun S => match a S with
  | some (x, st) => match lo ⟨S.lo, S.ce, st⟩ with
    | some (i, st) => match hi ⟨S.lo, S.ce, st⟩ with
      | some (j, st) => cutI x i j st
      | none => none
    | none => none
  | none => none
theorem sl_str {value slice : Expr} {A : Around} {E : Value → Shared → Prop} {s : Shared} {x : Str} {t : Tok} {h₀ : Heap} {L : Addr} {m : Str → Option Value} {news : Led} {Q : Value → Shared → Prop} {wi wj : Value} {i j : Option Int}
    (F : Fr h₀ L s.heap m) (N : News h₀ L s.heap news) (pi : IsPart wi i) (pj : IsPart wj j) (h : ∀ h' t' k, Fr h₀ L h' m → News h₀ L h' news → Q (.str (Txt.slice x i j) t') { s with heap := h', toks := k })
    (hs : subscripted slice false (.str x t) (.ref s.heap.objs.size) = operate [.ref s.heap.objs.size, .str x t] (getItem (.str x t) (.ref s.heap.objs.size))) (hsz : x.length ≤ sizeLine) :
    wpAny cx.M A (subscriptTail value slice (.str x t) (.ref s.heap.objs.size)) Q E { s with heap := s.heap.push { cls := .type "slice", data := .fields #[wi, wj, .none] } } := by
  have hlt : ∀ r, letTemporaryGo value (.str x t) r = pure () := by intro r; unfold letTemporaryGo; split <;> first | rfl | (rename_i h; cases h) | skip
  cases pi <;> cases pj
  · exact slice_strN_nn F N h hs hlt hsz
  · exact slice_strN_ns F N h hs hlt hsz
  · exact slice_strN_sn F N h hs hlt hsz
  · exact slice_strN_ss F N h hs hlt hsz
theorem b_slice {a : Expr} {lo hi : Option Expr} {ga : SE} {gl gh : S → Option (Option Int × List Ob)} {pos p : Pos} (ha : SoundE cx d sc a ga) (hl : SoundP cx d sc lo gl) (hh : SoundP cx d sc hi gh)
    (hs : ∀ o i, subscripted (.Slice lo hi none p) false o i = operate [i, o] (getItem o i)) (hn : ∀ l r, letTemporaryGo a (.ref l) r = pure ()) : SoundE cx d sc (.Subscript a (.Slice lo hi none p) pos) (sliE ga gl gh) := by
  refine ⟨?_⟩
  intro f ok s m led ρ S I R v st' hg Q E P
  refine Subscript_ ?_
  unfold sliE at hg
  split at hg
  · rename_i x st1 ea
    split at hg
    · rename_i i st2 el
      split at hg
      · rename_i j st3 eh
        refine ha.1 f ok s m led ρ S I R x st1 ea _ _ fun wx h1 tk1 led1 ρ1 I1 G1 X1 => wpAny_Slice ?_
        refine hl.1 f ok (put s h1 tk1) m led1 ρ1 ⟨S.lo, S.ce, st1⟩ I1 (R.mono G1) i _ el _ _ fun wi h2 tk2 led2 ρ2 I2 G2 X2 => ?_
        refine hh.1 f ok (put s h2 tk2) m led2 ρ2 ⟨S.lo, S.ce, st2⟩ I2 (R.mono (G1.trans G2)) j _ eh _ _ fun wj h3 tk3 led3 ρ3 I3 G3 X3 => ?_
        refine evalPart_none_step ?_
        have X1' := X1.mono (G2.trans G3)
        unfold cutI at hg
        try simp only [gt_eq, pt_eq, ad_eq, ln_eq] at hg
        cases X1' with
        | str cs t =>
          simp only at hg
          split at hg
          · rename_i hlen
            cases hg
            refine sl_str (s := put s h3 tk3) I3.F I3.N X2 X3 (fun h' t' k F' N' => ?_) (hs _ _) (by show cs.toArray.size ≤ _; rw [List.size_toArray, sizeLine_eq]; omega)
            rw [slice_str]
            exact P _ _ _ _ _ (I3.turn F' N') ((G1.trans G2).trans G3) (.str _ _)
          · cases hg
        | ref r ad dd hr =>
          simp only at hg
          split at hg
          · rename_i vs hst
            split at hg
            · rename_i hlen
              cases hg
              obtain ⟨a', ws, n, q1, q2, q3⟩ := I3.ob _ _ hst
              rw [hr] at q1
              cases q1
              refine kmk_slice (s := put s h3 tk3) I3.F I3.N (list_at I3 q2) X2 X3 (fun D h' F' N' hlt => ?_) (hs _ _) (hn _) (by have := q3.length; simp at this; rw [sizeLine_eq]; omega)
              have hp : slicePick ws i j none = (sliceL ws.toList i j).toArray := by
                rw [slicePick_plain]
                unfold sliceL
                simp
              rw [hp] at N'
              obtain ⟨I', G'⟩ := I3.newList F' N' hlt (q3.slice i j)
              exact P _ _ _ _ _ I' (((G1.trans G2).trans G3).trans G') (.ref _ D D (by rw [← I3.len]; simp))
            · cases hg
          · cases hg
        | _ => simp only [reduceCtorEq] at hg
      · cases hg
    · cases hg
  · cases hg
end
end Mp
namespace Mp
noncomputable def NoStars (es : List Expr) : Prop := ∀ env, ((starEach es env).any (·.1)) = false ∧ match es with
  | [] => True
  | e :: r => starEach (e :: r) env = (false, eval e env) :: starEach r env
section
variable {cx : Cx} {d : Nat} {sc : Sc}
theorem call_ok {fv : Value} {g : FnG} (h : CallOk cx d fv g) {f : Fm} (ok : f.Ok cx d sc) {s : Shared} {m led ρ st} (I : Inv cx f s.heap m led ρ st) {vs ws} (X : VRs cx led ρ vs ws) {v st'} (e : g vs st = some (v, st'))
    {Q E} (P : PostE cx f m led ρ st' v Q s) : wpAny cx.M f.A (call fv ws) Q E s :=
  wpAny_call (h.1 sc f ok s m led ρ st I vs ws X v st' e _ P)
structure FnName (cx : Cx) (sc : Sc) (x : Str) (n : Nat) : Prop where
  glo : GloName cx sc x (.ref (cx.ga n))
  keep : keepIn cx.K (.ref (cx.ga n)) = true
theorem callWith_any {fv : Value} {es : List Expr} {ga : SEs} (hes : SoundEs cx d sc es ga) (hs : NoStars es)
    (hk : ∀ h, cx.K.In h → ∃ k, (k = Keeper.frame ∨ k = Keeper.machine ∨ k = Keeper.boundFrame) ∧ Looks cx.M h (keeperOf fv) k)
    {f : Fm} (ok : f.Ok cx d sc) {s : Shared} {m led ρ} {S : S} (I : Inv cx f s.heap m led ρ S.st) (R : LR cx sc f m led ρ S.lo S.ce) {first : List Value}
    {vs st1} (e1 : ga S = some (vs, st1)) (hn : es = [] → vs = [] ∧ st1 = S.st) {pos : Pos} {Q E} (P : PostEs cx f m led ρ st1 vs (fun ws s' => wpAny cx.M f.A (call fv (first ++ ws)) Q E s') s) :
    wpAny cx.M f.A (callWith pos fv first (backTo pos (starEach es (f.env sc))) []) Q E s := by
  have hb : ∀ (l : List (Bool × Sem Value)), (backTo pos l).any (·.1) = l.any (·.1) := by
    intro l
    show (l.map _).any _ = _
    rw [List.any_map]
    rfl
  refine callWith_of (by rw [hb, (hs _).1]; rfl) hk ?_
  cases es with
  | nil =>
    obtain ⟨rfl, rfl⟩ := hn rfl
    exact evalArgs_nil3 ⟨ok.X.keeps I.F.keep, P _ _ s.toks _ _ I (.refl _ _) .nil⟩
  | cons e r =>
    have key : wpAny cx.M f.A (spliced (backTo pos (starEach (e :: r) (f.env sc)))) (fun ws s₁ => cx.K.In s₁.heap ∧ wpAny cx.M f.A (call fv (first ++ ws)) Q E s₁) E s :=
      hes.1 f ok s m led ρ S I R _ _ e1 pos _ _ fun ws h1 tk1 led1 ρ1 I1 G1 X1 => ⟨ok.X.keeps I1.F.keep, P _ _ _ _ _ I1 G1 X1⟩
    have h1 := (hs (f.env sc)).2
    simp only at h1
    rw [h1] at key ⊢
    exact evalArgs_plain key
noncomputable def callE (g : FnG) (a : SEs) : SE := fun S => match a S with
  | some (vs, st) => g vs st
  | none => none
noncomputable def NilOk (es : List Expr) (ga : SEs) : Prop := es = [] → ga = esN
theorem nilOk_nil : NilOk [] esN := fun _ => rfl
theorem nilOk_cons {e r ga} : NilOk (e :: r) ga := fun h => by cases h
theorem b_call {x : Str} {n : Nat} {np pos : Pos} {es : List Expr} {g : FnG} {ga : SEs} (hf : FnName cx sc x n) (hg : CallOk cx d (.ref (cx.ga n)) g) (hes : SoundEs cx d sc es ga) (hs : NoStars es) (hn : NilOk es ga)
    (hq : ∀ env, eval (.Call (.Name x np) es [] pos) env = (do
          let f ← eval (.Name x np) env
          callWith pos f [] (backTo pos (starEach es env)) (backToKw pos (keywordEach [] env)))) : SoundE cx d sc (.Call (.Name x np) es [] pos) (callE g ga) := by
  refine ⟨?_⟩
  intro f ok s m led ρ S I R v st' hg' Q E P
  unfold callE at hg'
  split at hg'
  · rename_i vs st1 e1
    refine Call_ (nameG_K I.F ok.X (topRead_of ok.T) hf.glo.at_ ?_ ok.evg ok.evk (ok.kind hf.glo.kind) hf.glo.dbg) (hq _)
    exact callWith_any hes hs (keeps_K hf.keep) ok I R e1 (fun h => by rw [hn h] at e1; cases e1; exact ⟨rfl, rfl⟩)
      fun ws h1 tk1 led1 ρ1 I1 G1 X1 => call_ok hg ok (s := put s h1 tk1) I1 X1 hg' (P.next G1)
  · cases hg'
structure TabOk (cx : Cx) (d : Nat) (tab : Nat → Option FnG) : Prop where
  call : ∀ n g, tab n = some g → CallOk cx d (.ref (cx.ga n)) g
  keep : ∀ n g, tab n = some g → keepIn cx.K (.ref (cx.ga n)) = true
noncomputable def dynE (tab : Nat → Option FnG) (fe : SE) (a : SEs) : SE := fun S => match fe S with
  | some (.g n, st) => match tab n with
    | some g => match a ⟨S.lo, S.ce, st⟩ with
      | some (vs, st) => g vs st
      | none => none
    | none => none
  | _ => none
theorem b_dyn {fe : Expr} {pos : Pos} {es : List Expr} {tab : Nat → Option FnG} {gf : SE} {ga : SEs} (hf : SoundE cx d sc fe gf) (ht : TabOk cx d tab) (hes : SoundEs cx d sc es ga) (hs : NoStars es) (hn : NilOk es ga)
    (hq : ∀ env, eval (.Call fe es [] pos) env = (do
          let f ← eval fe env
          callWith pos f [] (backTo pos (starEach es env)) (backToKw pos (keywordEach [] env)))) : SoundE cx d sc (.Call fe es [] pos) (dynE tab gf ga) := by
  refine ⟨?_⟩
  intro f ok s m led ρ S I R v st' hg' Q E P
  unfold dynE at hg'
  split at hg'
  · rename_i n st0 e0
    split at hg'
    · rename_i g eg
      split at hg'
      · rename_i vs st1 e1
        refine Call_ (hf.1 f ok s m led ρ S I R _ _ e0 _ _ fun w h0 tk0 led0 ρ0 I0 G0 X0 => ?_) (hq _)
        cases X0
        exact callWith_any (s := put s h0 tk0) (S := ⟨S.lo, S.ce, st0⟩) hes hs (keeps_K (ht.keep _ _ eg)) ok I0 (R.mono G0) e1 (fun h => by rw [hn h] at e1; cases e1; exact ⟨rfl, rfl⟩)
          fun ws h1 tk1 led1 ρ1 I1 G1 X1 => call_ok (ht.call _ _ eg) ok (s := put s h1 tk1) I1 X1 hg' (P.next (G0.trans G1))
      · cases hg'
    · cases hg'
  · cases hg'
structure MethOk (cx : Cx) (c : Nat) (name : Str) (n : Nat) : Prop where
  plain : plainGet cx.K (cx.ga c) name = true
  cls : findIn cx.K (.ref (cx.ga c)) name = some (some (.ref (cx.ga n)))
  fn : isFn cx.K (.ref (cx.ga n)) = true
  keep : keepIn cx.K (.ref (cx.ga n)) = true
  own : name ∉ cx.attrs c
noncomputable def methE (c : Nat) (g : FnG) (o : SE) (a : SEs) : SE := fun S => match o S with
  | some (.ref k, st) => match gt st k with
    | some (.inst c' _) => if c' = c then (match a ⟨S.lo, S.ce, st⟩ with
      | some (vs, st) => g (.ref k :: vs) st
      | none => none) else none
    | _ => none
  | _ => none
theorem b_meth {o : Expr} {name : Str} {apos pos : Pos} {es : List Expr} {pl : Env → Sem Bool} {c n : Nat} {g : FnG} {go : SE} {ga : SEs} (ho : SoundE cx d sc o go) (hm : MethOk cx c name n) (hg : CallOk cx d (.ref (cx.ga n)) g)
    (hes : SoundEs cx d sc es ga) (hs : NoStars es) (hn : NilOk es ga)
    (hq : ∀ env, eval (.Call (.Attribute o name apos) es [] pos) env = (do
      let ov ← eval o env
      standAt apos.atName
      let (f, first) ← holding [ov] (getMethod ov name (pl env))
      callWith pos f first (backTo pos (starEach es env)) [])) : SoundE cx d sc (.Call (.Attribute o name apos) es [] pos) (methE c g go ga) := by
  refine ⟨?_⟩
  intro f ok s m led ρ S I R v st' hg' Q E P
  unfold methE at hg'
  try simp only [gt_eq, pt_eq, ad_eq, ln_eq] at hg'
  split at hg'
  · rename_i k st0 e0
    split at hg'
    · rename_i c' fs hk
      split at hg'
      · rename_i hc
        subst hc
        split at hg'
        · rename_i vs st1 e1
          refine MethodCall_ (pl := pl f.ev) (ho.1 f ok s m led ρ S I R _ _ e0 _ _ fun w h0 tk0 led0 ρ0 I0 G0 X0 => ?_) (hq _)
          cases X0 with
          | ref _ a dd hr =>
            obtain ⟨x, dx, esd, nn, q1, q2, q3, ql, FR⟩ := I0.ob _ _ hk
            rw [hr] at q1
            cases q1
            refine method_inst I0.F ok.X (InstAt.of_news I0.N (List.mem_append_left _ q2) (List.mem_append_left _ q3)) hm.plain hm.cls hm.fn (FR.non _ hm.own) ?_
            refine callWith_any (s := put s h0 tk0) (S := ⟨S.lo, S.ce, st0⟩) hes hs (keeps_K hm.keep) ok I0 (R.mono G0) e1 (fun h => by rw [hn h] at e1; cases e1; exact ⟨rfl, rfl⟩)
              fun ws h1 tk1 led1 ρ1 I1 G1 X1 => ?_
            exact call_ok hg ok (s := put s h1 tk1) I1 (.cons (.ref _ _ _ (G1.at hr)) X1) hg' (P.next (G0.trans G1))
        · cases hg'
      · cases hg'
    · cases hg'
  · cases hg'
end
end Mp
namespace Mp
theorem isStr_str (x y : Str) (t : Tok) : Value.isStr (.str x t) y = (x == y) := rfl
theorem isStr_eq {k : Value} {x : Str} (h : k.isStr x = true) : ∃ t, k = .str x t := by
  cases k with
  | str s t =>
    have : s = x := beq_iff_eq.mp h
    subst this
    exact ⟨t, rfl⟩
  | _ => exact absurd h (by simp [Value.isStr])
theorem putL_look {x : Str} {hsh : Int} {t : Tok} {w : Value} (y : Str) : ∀ es : List DictEntry,
    ((putL x hsh (.str x t) w es).find? (·.key.isStr y)).map (·.val) = if x = y then some w else (es.find? (·.key.isStr y)).map (·.val)
  | [] => by
    simp only [putL, List.find?_cons, List.find?_nil, isStr_str]
    by_cases h : x = y
    · subst h; simp
    · have : (x == y) = false := by simpa using h
      simp [this, h]
  | e :: r => by
    simp only [putL]
    cases hk : e.key.isStr x with
    | true =>
      obtain ⟨t', e'⟩ := isStr_eq hk
      simp only [if_true, List.find?_cons, e', isStr_str]
      by_cases h : x = y
      · subst h; simp
      · have : (x == y) = false := by simpa using h
        simp [this, h]
    | false =>
      simp only [Bool.false_eq_true, if_false, List.find?_cons]
      cases hy : e.key.isStr y with
      | true =>
        have : x ≠ y := by rintro rfl; rw [hk] at hy; cases hy
        simp [this]
      | false => simpa using putL_look y r
theorem putL_ref {x : Str} {hsh : Int} {t : Tok} {w : Value} : ∀ es : List DictEntry, (putL x hsh (.str x t) w es).any (·.refKey) = es.any (·.refKey)
  | [] => by simp [putL, DictEntry.refKey]
  | e :: r => by
    simp only [putL]
    cases hk : e.key.isStr x with
    | true => simp only [if_true, List.any_cons]; rfl
    | false => simp only [Bool.false_eq_true, if_false, List.any_cons, putL_ref r]
theorem putL_len {x : Str} {hsh : Int} {t : Tok} {w : Value} : ∀ es : List DictEntry, (putL x hsh (.str x t) w es).length = if (es.find? (·.key.isStr x)).isSome then es.length else es.length + 1
  | [] => by simp [putL]
  | e :: r => by
    simp only [putL]
    cases hk : e.key.isStr x with
    | true => simp [hk]
    | false =>
      simp only [Bool.false_eq_true, if_false, List.length_cons, putL_len r, List.find?_cons, hk]
      split <;> rfl
theorem getL_find {es : List DictEntry} (h : es.any (·.refKey) = false) (y : Str) : getL y es = some ((es.find? (·.key.isStr y)).map (·.val)) := by
  unfold getL
  split
  · rename_i e he; rw [he]; rfl
  · rename_i he; rw [he, h]; rfl
theorem VR.not_undef {cx led ρ v w} (h : VR cx led ρ v w) : v ≠ V.undef := by cases h <;> simp
theorem isUndef_iff {v : V} : v.isUndef = true ↔ v = V.undef := by cases v <;> simp [V.isUndef]
theorem FieldsR.set {cx led ρ names fs es} (FR : FieldsR cx led ρ names fs es) (nd : names.Nodup) (hl : fs.length = names.length) {i : Nat} {x : Str} (hx : names[i]? = some x) {v : V} {w : Value} (X : VR cx led ρ v w) (hsh : Int) (t : Tok) :
    FieldsR cx led ρ names (fs.set i v) (putL x hsh (.str x t) w es) := by
  have hi : i < names.length := (List.getElem?_eq_some_iff.mp hx).1
  have hi' : i < fs.length := by omega
  have hr : (putL x hsh (.str x t) w es).any (·.refKey) = false := by rw [putL_ref]; exact FR.nref
  have hv : v.isUndef = false := by
    cases h : v.isUndef with
    | false => rfl
    | true => exact absurd (isUndef_iff.mp h) X.not_undef
  have look : ∀ y, getL y (putL x hsh (.str x t) w es) = if x = y then some (some w) else getL y es := by
    intro y
    rw [getL_find hr, putL_look, getL_find FR.nref]
    split <;> rfl
  refine ⟨?_, hr, fun y hy => ?_, fun j y hy hj => ?_, fun j y v' hy hj hne => ?_⟩
  · rw [putL_len, List.length_set, List.countP_set hi', hv]
    have hlen := FR.len
    have hfi : fs[i]? = some fs[i] := List.getElem?_eq_getElem hi'
    split
    · split <;> simp <;> omega
    · rename_i hnone
      have hu : fs[i].isUndef = true := by
        cases hu : fs[i].isUndef with
        | true => rfl
        | false =>
          obtain ⟨w', hw, _⟩ := FR.got i x _ hx hfi (fun e => by rw [e] at hu; cases hu)
          rw [getL_find FR.nref] at hw
          have := Option.some.inj hw
          rw [Option.map_eq_some_iff] at this
          obtain ⟨e, he, _⟩ := this
          rw [he] at hnone
          exact absurd rfl hnone
      have hpos : 0 < fs.countP V.isUndef := List.countP_pos_iff.mpr ⟨fs[i], List.getElem_mem _, hu⟩
      simp [hu]
      omega
  · rw [look, if_neg]
    · exact FR.non y hy
    · rintro rfl; exact hy (List.mem_of_getElem? hx)
  · by_cases hij : i = j
    · subst hij
      rw [List.getElem?_set_self hi'] at hj
      cases hj
      exact absurd rfl X.not_undef
    · rw [List.getElem?_set_ne hij] at hj
      rw [look, if_neg]
      · exact FR.un j y hy hj
      · rintro rfl
        exact hij ((List.getElem?_inj hi nd).mp (hx.trans hy.symm))
  · by_cases hij : i = j
    · subst hij
      rw [List.getElem?_set_self hi'] at hj
      cases hj
      rw [hx] at hy
      cases hy
      exact ⟨w, by rw [look, if_pos rfl], X⟩
    · rw [List.getElem?_set_ne hij] at hj
      obtain ⟨w', hw, q⟩ := FR.got j y v' hy hj hne
      refine ⟨w', ?_, q⟩
      rw [look, if_neg]
      · exact hw
      · rintro rfl
        exact hij ((List.getElem?_inj hi nd).mp (hx.trans hy.symm))
theorem FieldsR.mono {cx led ρ led' ρ' names fs es} (g : Grow led ρ led' ρ') (h : FieldsR cx led ρ names fs es) : FieldsR cx led' ρ' names fs es :=
  ⟨h.len, h.nref, h.non, h.un, fun i x v a b c => let ⟨w, p, q⟩ := h.got i x v a b c; ⟨w, p, q.mono g⟩⟩
section
variable {cx : Cx} {d : Nat} {sc : Sc}
structure SetOk (cx : Cx) (c i : Nat) (name : Str) : Prop where
  at_ : (cx.attrs c)[i]? = some name
  nd : (cx.attrs c).Nodup
  few : (cx.attrs c).length ≤ 100
  set : findIn cx.K (.ref (cx.ga c)) "__setattr__" = some (some (.builtin "object.__setattr__"))
  over : plainOver cx.K (cx.ga c) = true
  taker : takerIn cx.K (cx.ga c) name = some none
  dict : hasDictIn cx.K (cx.ga c) = true
noncomputable def setA (c i : Nat) (o v : V) (st : List Ob) : Option (List Ob) := match o with
  | .ref k => match gt st k with
    | some (.inst c' fs) => if c' = c then some (pt st k (.inst c (fs.set i v))) else none
    | _ => none
  | _ => none
theorem setA_sound {f : Fm} (ok : f.Ok cx d sc) {s : Shared} {m led ρ st} (I : Inv cx f s.heap m led ρ st) {c i : Nat} {name : Str} (a : SetOk cx c i name) {o v : V} {wo w : Value} (Xo : VR cx led ρ o wo) (X : VR cx led ρ v w)
    {st'} (e : setA c i o v st = some st') {Q E} (P : PostU cx f m led ρ st' Q s) : wpAny cx.M f.A (setAttr wo name w) Q E s := by
  unfold setA at e
  try simp only [gt_eq, pt_eq, ad_eq, ln_eq] at e
  split at e
  · rename_i k
    split at e
    · rename_i c' fs hk
      split at e
      · rename_i hc
        subst hc
        cases e
        obtain ⟨x, dx, es, n, h1, h2, h3, hl, FR⟩ := I.ob _ _ hk
        cases Xo with
        | ref _ x' d' hx =>
          rw [h1] at hx
          cases hx
          have hg : (getL name es).isSome = true := by rw [getL_find FR.nref]; rfl
          have FR' := FR.set a.nd hl a.at_ X (PyData.keyHash cx.w.params name) (s.toks + 1)
          refine set_dict I.F ok.X I.N (InstAt.of_news I.N (List.mem_append_left _ h2) (List.mem_append_left _ h3)) rfl a.set a.over a.taker a.dict hg rfl (I.upd h3) ?_ fun h' F' N' => ?_
          · have h4 := FR'.len
            rw [List.length_set] at h4
            have := a.few
            omega
          · obtain ⟨I', G'⟩ := I.store h1 h3 rfl F' N' (ob := .inst c' (fs.set i v)) fun g =>
              ⟨x, dx, _, _, h1, g.fz _ h2 rfl, updL_self h3, by rw [List.length_set]; exact hl, FR'.mono g⟩
            exact P _ _ _ _ I' G'
      · cases e
    · cases e
  · cases e
structure MakeOk (cx : Cx) (c n : Nat) : Prop where
  makes : makesIn cx.K (cx.ga c) = true
  init : findIn cx.K (.ref (cx.ga c)) "__init__" = some (some (.ref (cx.ga n)))
  fn : isFn cx.K (.ref (cx.ga n)) = true
  nonempty : True
noncomputable def clsE (c nf : Nat) (init : FnG) (a : SEs) : SE := fun S => match a S with
  | some (vs, st) => match init (.ref (ln st) :: vs) (ad st (.inst c (List.replicate nf .undef))) with
    | some (.none, st') => some (.ref (ln st), st')
    | _ => none
  | none => none
theorem cls_ok {f : Fm} (ok : f.Ok cx (d + 1) sc) {s : Shared} {m led ρ st} (I : Inv cx f s.heap m led ρ st) {c n nf : Nat} (mk : MakeOk cx c n) (hnf : (cx.attrs c).length = nf) {init : FnG} (hi : CallOk cx d (.ref (cx.ga n)) init)
    {vs ws} (X : VRs cx led ρ vs ws) {st'} (e : init (.ref st.length :: vs) (st ++ [.inst c (List.replicate nf .undef)]) = some (.none, st')) {Q E} (P : PostE cx f m led ρ st' (.ref st.length) Q s) :
    wpAny cx.M f.A (call (.ref (cx.ga c)) ws) Q E s := by
  refine call_cls I.F ok.X I.N mk.makes mk.init mk.fn fun x dx h' F' N' hlt hdx => ?_
  have hne : ∀ p ∈ led ++ f.kept, p.1 ≠ dx := fun p hp => Nat.ne_of_lt (hlt p hp)
  have hne' : ∀ p ∈ led ++ f.kept, p.1 ≠ x := fun p hp => Nat.ne_of_lt (Nat.lt_trans (hlt p hp) hdx)
  obtain ⟨I', G'⟩ := I.make (new := [(x, instObj (cx.ga c) dx), (dx, dictOf [] 0)]) (a := x) (d := dx) (ob := .inst c (List.replicate nf .undef)) F' N'
    (by
      simp only [List.cons_append, List.nil_append, List.map_cons, List.nodup_cons, List.mem_cons, not_or]
      refine ⟨⟨Nat.ne_of_gt hdx, fun q => ?_⟩, fun q => ?_, I.nd⟩
      · obtain ⟨p, hp, e⟩ := List.mem_map.mp q; exact hne' p hp e
      · obtain ⟨p, hp, e⟩ := List.mem_map.mp q; exact hne p hp e)
    (fun q hq e => by obtain ⟨o, ho⟩ := I.rho_mem q hq; exact hne _ (List.mem_append_left _ ho) e)
    ⟨x, dx, [], 0, by rw [← I.len]; simp, .head _, .tail _ (.head _), by simp [hnf], by have := List.countP_le_length (p := V.isUndef) (l := List.replicate nf V.undef); simpa using this, rfl, fun _ _ => rfl, fun _ _ _ _ => rfl, fun i y v h1 h2 h3 => by
      exfalso
      have := List.mem_of_getElem? h2
      rw [List.mem_replicate] at this
      exact h3 this.2⟩
  have hρ : (ρ ++ [(x, dx)])[st.length]? = some (x, dx) := by rw [← I.len]; simp
  have ok' : ({ f with A := f.A.under (.builtin "type.__call__" ⟨.ref (cx.ga c) :: ws, []⟩) } : Fm).Ok cx d sc :=
    ⟨ok.hA, ok.B, ok.X, ok.T, ok.hk, ok.evs, ok.evl, ok.evg, ok.evb, ok.evx, ok.fek, ok.fr, by
      have := ok.dep
      show Around.depth _ + d < 1000
      rw [depth_under_make]
      omega, by
      have := ok.un
      show f.A.units + 1 + 16 * d < 9800
      omega, ok.hh⟩
  refine hi.1 sc _ ok' (put s h' s.toks) m _ _ _ ⟨I'.F, I'.N, I'.nd, I'.sep, I'.len, I'.ob⟩ (.ref st.length :: vs) (.ref x :: ws) (.cons (.ref _ _ _ hρ) (X.mono G')) _ _ e _ fun w h'' tk'' led'' ρ'' I'' G'' X'' => ?_
  cases X''
  refine ⟨rfl, ?_⟩
  exact P _ _ _ _ _ ⟨I''.F, I''.N, I''.nd, I''.sep, I''.len, I''.ob⟩ (G'.trans G'') (.ref _ _ _ (G''.at hρ))
theorem b_cls {x : Str} {c n nf : Nat} {np pos : Pos} {es : List Expr} {init : FnG} {ga : SEs} (hf : FnName cx sc x c) (mk : MakeOk cx c n) (hnf : (cx.attrs c).length = nf) (hi : CallOk cx d (.ref (cx.ga n)) init) (hes : SoundEs cx (d + 1) sc es ga) (hs : NoStars es) (hn : NilOk es ga)
    (hq : ∀ env, eval (.Call (.Name x np) es [] pos) env = (do
          let f ← eval (.Name x np) env
          callWith pos f [] (backTo pos (starEach es env)) (backToKw pos (keywordEach [] env)))) : SoundE cx (d + 1) sc (.Call (.Name x np) es [] pos) (clsE c nf init ga) := by
  refine ⟨?_⟩
  intro f ok s m led ρ S I R v st' hg' Q E P
  unfold clsE at hg'
  try simp only [gt_eq, pt_eq, ad_eq, ln_eq] at hg'
  split at hg'
  · rename_i vs st1 e1
    split at hg'
    · rename_i st2 e2
      cases hg'
      refine Call_ (nameG_K I.F ok.X (topRead_of ok.T) hf.glo.at_ ?_ ok.evg ok.evk (ok.kind hf.glo.kind) hf.glo.dbg) (hq _)
      exact callWith_any hes hs (keeps_K hf.keep) ok I R e1 (fun h => by rw [hn h] at e1; cases e1; exact ⟨rfl, rfl⟩)
        fun ws h1 tk1 led1 ρ1 I1 G1 X1 => cls_ok ok (s := put s h1 tk1) I1 mk hnf hi X1 e2 (P.next G1)
    · cases hg'
  · cases hg'
end
end Mp
namespace Mp
structure SoundU (cx : Cx) (d : Nat) (sc : Sc) (t : Expr) (asg : V → S → Option S) : Prop where
  out : ∀ (f : Fm), f.Ok cx d sc → ∀ (s : Shared) m led ρ (S₀ : S), Inv cx f s.heap m led ρ S₀.st → LR cx sc f m led ρ S₀.lo S₀.ce → ∀ v w, VR cx led ρ v w → ∀ S', asg v S₀ = some S' →
    ∀ (Q : Unit → Shared → Prop) E, (∀ m' h' tk' led' ρ', Inv cx f h' m' led' ρ' S'.st → Grow led ρ led' ρ' → LR cx sc f m' led' ρ' S'.lo S'.ce → Q () (put s h' tk')) → wpAny cx.M f.A (assign t (f.env sc) w) Q E s
theorem LR.set {cx sc f m led ρ lo ce} (R : LR cx sc f m led ρ lo ce) {i : Nat} {x : Str} (hx : sc.ns[i]? = some x) {v : V} {w : Value} (X : VR cx led ρ v w) :
    LR cx sc f (fun y => if y = x then some w else m y) led ρ (lo.set i v) ce := by
  have hi : i < sc.ns.length := (List.getElem?_eq_some_iff.mp hx).1
  have hi' : i < lo.length := by rw [R.len]; exact hi
  refine ⟨R.nd, by rw [List.length_set]; exact R.len, fun j y v' hy hj hne => ?_, R.cel⟩
  by_cases hij : i = j
  · subst hij
    rw [List.getElem?_set_self hi'] at hj
    cases hj
    rw [hx] at hy
    cases hy
    exact ⟨w, by simp, X⟩
  · rw [List.getElem?_set_ne hij] at hj
    obtain ⟨w', hw, q⟩ := R.loc j y v' hy hj hne
    have : y ≠ x := by
      rintro rfl
      exact hij ((List.getElem?_inj hi R.nd).mp (hx.trans hy.symm))
    exact ⟨w', by simp [this, hw], q⟩
section
variable {cx : Cx} {d : Nat} {sc : Sc}
noncomputable def asgL (i : Nat) : V → S → Option S := fun v S => some ⟨pt S.lo i v, S.ce, S.st⟩
theorem store_loc {i : Nat} {x : Str} (h : LocName sc i x) {f : Fm} (ok : f.Ok cx d sc) {s : Shared} {m led ρ} {S : S} (I : Inv cx f s.heap m led ρ S.st) (R : LR cx sc f m led ρ S.lo S.ce) {v w} (X : VR cx led ρ v w)
    {Q : Unit → Shared → Prop} {E} (P : ∀ m' h' tk' led' ρ', Inv cx f h' m' led' ρ' S.st → Grow led ρ led' ρ' → LR cx sc f m' led' ρ' (S.lo.set i v) S.ce → Q () (put s h' tk')) :
    wpAny cx.M f.A (storeName (f.env sc) x w) Q E s :=
  wpAny_storeName_local (ok.kind h.kind) (by rw [ok.evl]; exact I.F.ns) (fun h' hn hs => by
    rw [ok.evl] at hn hs
    exact P _ _ _ _ _ (I.turn (I.F.set hn hs) (I.N.set hs)) (.refl _ _) (R.set h.at_ X))
    (by rw [ok.evk]; rfl)
theorem u_name {i : Nat} {x : Str} {pos : Pos} (h : LocName sc i x) : SoundU cx d sc (.Name x pos) (asgL i) := by
  refine ⟨?_⟩
  intro f ok s m led ρ S I R v w X S' e Q E P
  cases e
  simp only [PostU, pt_eq] at P
  exact assign_Name (store_loc h ok I R X P)
noncomputable def asgA (c i : Nat) (o : SE) : V → S → Option S := fun v S => match o S with
  | some (x, st) => match setA c i x v st with
    | some st' => some ⟨S.lo, S.ce, st'⟩
    | none => none
  | none => none
theorem u_attr {o : Expr} {go : SE} {name : Str} {pos : Pos} {c i : Nat} (h : SoundE cx d sc o go) (a : SetOk cx c i name) : SoundU cx d sc (.Attribute o name pos) (asgA c i go) := by
  refine ⟨?_⟩
  intro f ok s m led ρ S I R v w X S' e Q E P
  unfold asgA at e
  split at e
  · rename_i x st1 e1
    split at e
    · rename_i st2 e2
      cases e
      show wpAny _ _ (do
        let ov ← holding [w] (eval o (f.env sc))
        standAt pos.atName
        holding [w, ov] (setAttr ov name w)
        release [w, ov] []) Q E s
      refine wpAny_bind (wpAny_holding (h.1 f ok s m led ρ S I R _ _ e1 _ _ fun wo h1 tk1 led1 ρ1 I1 G1 X1 => ?_))
      refine wpAny_bind (wpAny_standAt (wpAny_bind (wpAny_holding (setA_sound ok (s := put s h1 tk1) I1 a X1 (X.mono G1) e2 fun h2 tk2 led2 ρ2 I2 G2 => ?_))))
      exact wpAny_release (P _ _ _ _ _ I2 (G1.trans G2) (R.mono (G1.trans G2)))
    · cases e
  · cases e
noncomputable def setI (o i v : V) (st : List Ob) : Option (List Ob) := match o, i with
  | .ref r, .int k => match gt st r with
    | some (.list vs) => if 0 ≤ k ∧ k < vs.length ∧ k < 1000000 then some (pt st r (.list (vs.set k.toNat v))) else none
    | _ => none
  | _, _ => none
theorem setI_sound {f : Fm} {s : Shared} {m led ρ st} (I : Inv cx f s.heap m led ρ st) {o i v : V} {wo wi w : Value} (Xo : VR cx led ρ o wo) (Xi : VR cx led ρ i wi) (X : VR cx led ρ v w)
    {st'} (e : setI o i v st = some st') {Q E} (P : PostU cx f m led ρ st' Q s) : wpAny cx.M f.A (setItem wo wi w) Q E s := by
  unfold setI at e
  try simp only [gt_eq, pt_eq, ad_eq, ln_eq] at e
  split at e
  · rename_i r k
    split at e
    · rename_i vs hst
      split at e
      · rename_i hk
        cases e
        obtain ⟨a, ws, n, h1, h2, h3⟩ := I.ob _ _ hst
        cases Xo with
        | ref _ a' d' hr =>
          cases Xi
          rw [h1] at hr
          cases hr
          have hsz : ws.size = vs.length := by rw [h3.length]; simp
          obtain ⟨pre, post, e1, e2, q1, q2⟩ := (I.upd (o' := PySem.W.listOf (ws.setIfInBounds k.toNat w) n) h2).split
          have z := I.at_ h2
          refine ki_setAt z.1 hk.1 (by omega) (by omega) ?_
          have N' : News f.h₀ f.L (s.heap.update a (Obj.mapSeq fun x => x.setIfInBounds k.toNat w)) (updL a (PySem.W.listOf (ws.setIfInBounds k.toNat w) n) led ++ f.kept) := by
            rw [e2]
            exact ki_turn _ (e1 ▸ I.N) q1 q2 rfl (by simp)
          have F' : Fr f.h₀ f.L (s.heap.update a (Obj.mapSeq fun x => x.setIfInBounds k.toNat w)) m := I.F.change (Heap.SameBut.update ..) z.2.1 z.2.2
          obtain ⟨I', G'⟩ := I.store h1 h2 rfl F' N' (ob := .list (vs.set k.toNat v)) fun g => ⟨a, _, n, h1, updL_self h2, by
            have := (h3.set k.toNat X).mono g
            simpa using this⟩
          exact P _ s.toks _ _ I' G'
      · cases e
    · cases e
  · cases e
noncomputable def asgI (o i : SE) : V → S → Option S := fun v S => match o S with
  | some (x, st) => match i ⟨S.lo, S.ce, st⟩ with
    | some (y, st) => match setI x y v st with
      | some st' => some ⟨S.lo, S.ce, st'⟩
      | none => none
    | none => none
  | none => none
theorem u_item {o i : Expr} {go gi : SE} {pos : Pos} (ho : SoundE cx d sc o go) (hi : SoundE cx d sc i gi) : SoundU cx d sc (.Subscript o i pos) (asgI go gi) := by
  refine ⟨?_⟩
  intro f ok s m led ρ S I R v w X S' e Q E P
  unfold asgI at e
  split at e
  · rename_i x st1 e1
    split at e
    · rename_i y st2 e2
      split at e
      · rename_i st3 e3
        cases e
        rw [arm_assign_Subscript]
        refine wpAny_bind (wpAny_holding (ho.1 f ok s m led ρ S I R _ _ e1 _ _ fun wo h1 tk1 led1 ρ1 I1 G1 X1 => ?_))
        refine wpAny_bind (wpAny_holding (hi.1 f ok (put s h1 tk1) m led1 ρ1 ⟨S.lo, S.ce, st1⟩ I1 (R.mono G1) _ _ e2 _ _ fun wi h2 tk2 led2 ρ2 I2 G2 X2 => ?_))
        refine wpAny_bind (wpAny_standAt (wpAny_bind (wpAny_holding (setI_sound (s := put s h2 tk2) I2 (X1.mono G2) X2 (X.mono (G1.trans G2)) e3 fun h3 tk3 led3 ρ3 I3 G3 => ?_))))
        exact wpAny_release (P _ _ _ _ _ I3 ((G1.trans G2).trans G3) (R.mono ((G1.trans G2).trans G3)))
      · cases e
    · cases e
  · cases e
inductive Names (sc : Sc) : List Expr → List Nat → Prop
  | nil : Names sc [] []
  | cons {i x p es is} : LocName sc i x → Names sc es is → Names sc (.Name x p :: es) (i :: is)
noncomputable def setAll : List V → List Nat → List V → List V
  | lo, i :: is, v :: vs => setAll (pt lo i v) is vs
  | lo, _, _ => lo
theorem names_in {es is} (h : Names sc es is) : ∀ {f : Fm}, f.Ok cx d sc → ∀ {s : Shared} {m led ρ} {S : S}, Inv cx f s.heap m led ρ S.st → LR cx sc f m led ρ S.lo S.ce → ∀ {vs ws}, VRs cx led ρ vs ws →
    ∀ {Q : Unit → Shared → Prop} {E}, (∀ m' h' tk' led' ρ', Inv cx f h' m' led' ρ' S.st → Grow led ρ led' ρ' → LR cx sc f m' led' ρ' (setAll S.lo is vs) S.ce → Q () (put s h' tk')) →
    wpAny cx.M f.A (assignInOrder ((assignEach es (f.env sc)).map (·.2)) ws) Q E s := by
  induction h with
  | nil =>
    intro f ok s m led ρ S I R vs ws X Q E P
    show wpAny _ _ (pure ()) Q E s
    exact wpAny_pure (P _ _ s.toks _ _ I (.refl _ _) (by unfold setAll; exact R))
  | @cons i x p es is hx _ ih =>
    intro f ok s m led ρ S I R vs ws X Q E P
    cases X with
    | nil =>
      show wpAny _ _ (pure ()) Q E s
      exact wpAny_pure (P _ _ s.toks _ _ I (.refl _ _) (by unfold setAll; exact R))
    | cons X Xs =>
      rename_i v w vs ws
      show wpAny _ _ (do holding ws (assign (.Name x p) (f.env sc) w); assignInOrder ((assignEach es (f.env sc)).map (·.2)) ws) Q E s
      refine wpAny_bind (wpAny_holding (assign_Name (store_loc hx ok I R X fun m1 h1 tk1 led1 ρ1 I1 G1 R1 => ?_)))
      refine ih ok (s := put s h1 tk1) (S := ⟨S.lo.set i v, S.ce, S.st⟩) I1 R1 (Xs.mono G1) fun m2 h2 tk2 led2 ρ2 I2 G2 R2 => ?_
      exact P _ _ _ _ _ I2 (G1.trans G2) (by unfold setAll; rw [pt_eq]; exact R2)
theorem names_len {es is} (h : Names sc es is) (env : Env) : (assignEach es env).length = is.length ∧ (assignEach es env).findIdx? (·.1) = none := by
  induction h with
  | nil => exact ⟨rfl, rfl⟩
  | @cons i x p es is _ _ ih =>
    have : assignEach (.Name x p :: es) env = (false, assign (.Name x p) env) :: assignEach es env := rfl
    rw [this, List.length_cons, List.length_cons, ih.1, List.findIdx?_cons]
    refine ⟨rfl, ?_⟩
    simp [ih.2]
noncomputable def asgT (is : List Nat) : V → S → Option S := fun v S => match v with
  | .tup vs => if vs.length = is.length then some ⟨setAll S.lo is vs, S.ce, S.st⟩ else none
  | _ => none
theorem u_tup {es : List Expr} {is : List Nat} {k : Nat} {pos : Pos} (h : Names sc es is) : SoundU cx d sc (.Tuple es k pos) (asgT is) := by
  refine ⟨?_⟩
  intro f ok s m led ρ S I R v w X S' e Q E P
  unfold asgT at e
  split at e
  · rename_i vs
    split at e
    · rename_i hl
      cases e
      cases X with
      | tup _ ws a n h1 r =>
        obtain ⟨q1, q2⟩ := names_len h (f.env sc)
        refine unpackN_ I.F I.N (tup_at ok I h1) ok.hh (by rw [q1, ← hl, r.length]; simp) q2 fun h' F' N' => ?_
        have I' := I.turn F' N'
        exact names_in (s := put s h' s.toks) h ok I' R r fun m2 h2 tk2 led2 ρ2 I2 G2 R2 => P _ _ _ _ _ I2 G2 R2
    · cases e
  · cases e
noncomputable def asgS (asg : V → S → Option S) (g : SE) : SS := fun S => match g S with
  | some (v, st) => match asg v ⟨S.lo, S.ce, st⟩ with
    | some S' => some (.next, S')
    | none => none
  | none => none
theorem s_asg {t e : Expr} {asg : V → S → Option S} {g : SE} {pos : Pos} (hu : SoundU cx d sc t asg) (h : SoundE cx d sc e g)
    (hq1 : ∀ env, swapsWithSole [t] e pos.line env = pure false) (hq2 : ∀ env : Env, swappedStores [t] e { env with scope := sc.cs } = pure none) (hq3 : ∀ env, (assignEach [t] env).map (·.2) = [assign t env]) :
    SoundS cx d sc (.Assign [t] e pos) (asgS asg g) := by
  refine ⟨?_⟩
  intro f ok s m led ρ S I R fl S' hg Q E P
  unfold asgS at hg
  split at hg
  · rename_i v st1 e1
    split at hg
    · rename_i S1 e2
      cases hg
      refine wpAny_Assign_stores ?_ (hq1 _) (by have := hq2 f.ev; rw [← ok.evs] at this; exact this)
      refine h.1 f ok s m led ρ S I R _ _ e1 _ _ fun w h1 tk1 led1 ρ1 I1 G1 X1 => ?_
      rw [hq3]
      exact hu.1 f ok (put s h1 tk1) m led1 ρ1 ⟨S.lo, S.ce, st1⟩ I1 (R.mono G1) v w X1 _ e2 _ _ fun m2 h2 tk2 led2 ρ2 I2 G2 R2 => P _ _ _ _ _ _ I2 (G1.trans G2) R2 .next
    · cases hg
  · cases hg
noncomputable def retS (g : SE) : SS := fun S => match g S with
  | some (v, st) => some (.ret v, ⟨S.lo, S.ce, st⟩)
  | none => none
theorem s_ret {e : Expr} {g : SE} {pos : Pos} (h : SoundE cx d sc e g) : SoundS cx d sc (.Return (some e) pos) (retS g) := by
  refine ⟨?_⟩
  intro f ok s m led ρ S I R fl S' hg Q E P
  unfold retS at hg
  split at hg
  · rename_i v st1 e1
    cases hg
    exact wpAny_Return_some (h.1 f ok s m led ρ S I R _ _ e1 _ _ fun w h1 tk1 led1 ρ1 I1 G1 X1 => P _ _ _ _ _ _ I1 G1 (R.mono G1) (.ret X1))
  · cases hg
noncomputable def exprS (g : SE) : SS := fun S => match g S with
  | some (.none, st) => some (.next, ⟨S.lo, S.ce, st⟩)
  | some (.int _, st) => some (.next, ⟨S.lo, S.ce, st⟩)
  | some (.bool _, st) => some (.next, ⟨S.lo, S.ce, st⟩)
  | some (.str _, st) => some (.next, ⟨S.lo, S.ce, st⟩)
  | _ => none
theorem s_expr {e : Expr} {g : SE} {pos : Pos} (h : SoundE cx d sc e g) (hs : ∀ env, swapsWith e none pos.line env = pure false) : SoundS cx d sc (.Expr e pos) (exprS g) := by
  refine ⟨?_⟩
  intro f ok s m led ρ S I R fl S' hg Q E P
  unfold exprS at hg
  split at hg <;> first | (cases hg; done) | skip
  all_goals
    rename_i e1
    cases hg
    refine wpAny_Expr (h.1 f ok s m led ρ S I R _ _ e1 _ _ fun w h1 tk1 led1 ρ1 I1 G1 X1 => ?_) (by unfold interactive; rw [ok.evk]; rfl) (hs _)
    cases X1
    exact P _ _ _ _ _ _ I1 G1 (R.mono G1) .next
noncomputable def nilS : SS := fun S => some (.next, S)
noncomputable def seqS (a b : SS) : SS := fun S => match a S with
  | some (.next, S') => b S'
  | some (fl, S') => some (fl, S')
  | none => none
theorem sb_nil : SoundB cx d sc [] nilS := by
  refine ⟨?_⟩
  intro f ok s m led ρ S I R fl S' hg Q E P
  cases hg
  exact wpAny_execs_nil (P _ _ _ s.toks _ _ I (.refl _ _) R .next)
theorem PostS.next {f : Fm} {led ρ led1 ρ1 S' fl Q} {s : Shared} {h1 tk1} (P : PostS cx sc f led ρ S' fl Q s) (G : Grow led ρ led1 ρ1) : PostS cx sc f led1 ρ1 S' fl Q (put s h1 tk1) :=
  fun fw m' h' tk' led' ρ' I' G' => P fw m' h' tk' led' ρ' I' (G.trans G')
theorem sb_cons {t : Stmt} {r : List Stmt} {a b : SS} (ha : SoundS cx d sc t a) (hb : SoundB cx d sc r b) : SoundB cx d sc (t :: r) (seqS a b) := by
  refine ⟨?_⟩
  intro f ok s m led ρ S I R fl S' hg Q E P
  rw [execs_cons]
  unfold seqS at hg
  split at hg
  · rename_i S1 e1
    refine wpAny_bind (ha.1 f ok s m led ρ S I R _ _ e1 _ _ fun fw m1 h1 tk1 led1 ρ1 I1 G1 R1 X1 => ?_)
    cases X1
    exact hb.1 f ok (put s h1 tk1) m1 led1 ρ1 S1 I1 R1 _ _ hg _ _ (P.next G1)
  · rename_i fl1 S1 hne e1
    cases hg
    refine wpAny_bind (ha.1 f ok s m led ρ S I R _ _ e1 _ _ fun fw m1 h1 tk1 led1 ρ1 I1 G1 R1 X1 => ?_)
    cases X1 with
    | next => exact (hne rfl).elim
    | brk => exact wpAny_pure (P _ _ _ _ _ _ I1 G1 R1 .brk)
    | cont => exact wpAny_pure (P _ _ _ _ _ _ I1 G1 R1 .cont)
    | ret X => exact wpAny_pure (P _ _ _ _ _ _ I1 G1 R1 (.ret X))
  · cases hg
noncomputable def ifS (t : ST) (a b : SS) : SS := fun S => match t S with
  | some (true, st) => a ⟨S.lo, S.ce, st⟩
  | some (false, st) => b ⟨S.lo, S.ce, st⟩
  | none => none
theorem s_if {e : Expr} {a b : List Stmt} {t : ST} {ga gb : SS} {pos : Pos} (ht : SoundT cx d sc e t) (ha : SoundB cx d sc a ga) (hb : SoundB cx d sc b gb) : SoundS cx d sc (.If e a b pos) (ifS t ga gb) := by
  refine ⟨?_⟩
  intro f ok s m led ρ S I R fl S' hg Q E P
  refine wpAny_If ?_
  unfold ifS at hg
  split at hg
  · rename_i st1 e1
    exact ht.1 f ok s m led ρ S I R _ _ e1 _ _ fun h1 tk1 led1 ρ1 I1 G1 => ha.1 f ok (put s h1 tk1) m led1 ρ1 ⟨S.lo, S.ce, st1⟩ I1 (R.mono G1) _ _ hg _ _ (P.next G1)
  · rename_i st1 e1
    exact ht.1 f ok s m led ρ S I R _ _ e1 _ _ fun h1 tk1 led1 ρ1 I1 G1 => hb.1 f ok (put s h1 tk1) m led1 ρ1 ⟨S.lo, S.ce, st1⟩ I1 (R.mono G1) _ _ hg _ _ (P.next G1)
  · cases hg
end
end Mp
namespace Mp
section
variable {cx : Cx} {d : Nat} {sc : Sc}
noncomputable def whileS (t : ST) (b : SS) : Nat → SS
  | 0, _ => none
  | n + 1, S => match t S with
    | some (true, st) => match b ⟨S.lo, S.ce, st⟩ with
      | some (.next, S') => whileS t b n S'
      | some (.cont, S') => whileS t b n S'
      | some (.brk, S') => some (.next, S')
      | some (.ret v, S') => some (.ret v, S')
      | none => none
    | some (false, st) => some (.next, ⟨S.lo, S.ce, st⟩)
    | none => none
theorem s_while {e : Expr} {body : List Stmt} {t : ST} {b : SS} {pos : Pos} (n : Nat) (ht : SoundT cx d sc e t) (hb : SoundB cx d sc body b) : SoundS cx d sc (.While e body [] pos) (whileS t b n) := by
  refine ⟨?_⟩
  intro f ok s m led ρ S I R fl S' hg Q E P
  refine wpAny_While (codeAny_whileLoop (fun n s' => ∃ h tk m1 led1 ρ1 S1, s' = put s h tk ∧ Inv cx f h m1 led1 ρ1 S1.st ∧ Grow led ρ led1 ρ1 ∧ LR cx sc f m1 led1 ρ1 S1.lo S1.ce ∧ whileS t b n S1 = some (fl, S')) ?_ n
    ⟨s.heap, s.toks, m, led, ρ, S, rfl, I, .refl _ _, R, hg⟩)
  intro n s' hI
  obtain ⟨h1, tk1, m1, led1, ρ1, S1, rfl, I1, G1, R1, e1⟩ := hI
  cases n with
  | zero => simp [whileS] at e1
  | succ n =>
    unfold whileS at e1
    split at e1
    · rename_i st2 e2
      refine ht.1 f ok (put s h1 tk1) m1 led1 ρ1 S1 I1 R1 _ _ e2 _ _ fun h2 tk2 led2 ρ2 I2 G2 => ?_
      rw [if_pos rfl]
      split at e1
      · rename_i S3 e3
        refine hb.1 f ok (put s h2 tk2) m1 led2 ρ2 ⟨S1.lo, S1.ce, st2⟩ I2 (R1.mono G2) _ _ e3 _ _ fun fw m3 h3 tk3 led3 ρ3 I3 G3 R3 X3 => ?_
        cases X3
        exact ⟨n, Nat.lt_succ_self _, h3, tk3, m3, led3, ρ3, S3, rfl, I3, (G1.trans G2).trans G3, R3, e1⟩
      · rename_i S3 e3
        refine hb.1 f ok (put s h2 tk2) m1 led2 ρ2 ⟨S1.lo, S1.ce, st2⟩ I2 (R1.mono G2) _ _ e3 _ _ fun fw m3 h3 tk3 led3 ρ3 I3 G3 R3 X3 => ?_
        cases X3
        exact ⟨n, Nat.lt_succ_self _, h3, tk3, m3, led3, ρ3, S3, rfl, I3, (G1.trans G2).trans G3, R3, e1⟩
      · rename_i S3 e3
        cases e1
        refine hb.1 f ok (put s h2 tk2) m1 led2 ρ2 ⟨S1.lo, S1.ce, st2⟩ I2 (R1.mono G2) _ _ e3 _ _ fun fw m3 h3 tk3 led3 ρ3 I3 G3 R3 X3 => ?_
        cases X3
        exact P _ _ _ _ _ _ I3 ((G1.trans G2).trans G3) R3 .next
      · rename_i v S3 e3
        cases e1
        refine hb.1 f ok (put s h2 tk2) m1 led2 ρ2 ⟨S1.lo, S1.ce, st2⟩ I2 (R1.mono G2) _ _ e3 _ _ fun fw m3 h3 tk3 led3 ρ3 I3 G3 R3 X3 => ?_
        cases X3 with
        | ret X => exact P _ _ _ _ _ _ I3 ((G1.trans G2).trans G3) R3 (.ret X)
      · cases e1
    · rename_i st2 e2
      cases e1
      refine ht.1 f ok (put s h1 tk1) m1 led1 ρ1 S1 I1 R1 _ _ e2 _ _ fun h2 tk2 led2 ρ2 I2 G2 => ?_
      rw [if_neg (by decide)]
      exact wpAny_execs_nil (P _ _ _ _ _ _ I2 (G1.trans G2) (R1.mono G2) .next)
    · cases e1
theorem lookup_zip {names : List Str} (nd : names.Nodup) : ∀ {ws : List Value} {i : Nat} {x : Str} {w : Value}, names[i]? = some x → ws[i]? = some w → (names.zip ws).lookup x = some w := by
  induction names with
  | nil => intro ws i x w h; simp at h
  | cons n r ih =>
    intro ws i x w h1 h2
    cases ws with
    | nil => simp at h2
    | cons v ws =>
      simp only [List.nodup_cons] at nd
      rw [List.zip_cons_cons, List.lookup_cons]
      cases i with
      | zero =>
        simp at h1 h2
        subst h1 h2
        simp
      | succ i =>
        simp only [List.getElem?_cons_succ] at h1 h2
        have : x ≠ n := by rintro rfl; exact nd.1 (List.mem_of_getElem? h1)
        have hb : (x == n) = false := by simpa using this
        rw [hb]
        exact ih nd.2 h1 h2
theorem lookup_rev {l : List (Str × Value)} (nd : (l.map (·.1)).Nodup) (x : Str) : l.reverse.lookup x = l.lookup x := by
  induction l with
  | nil => rfl
  | cons p r ih =>
    simp only [List.map_cons, List.nodup_cons] at nd
    rw [List.reverse_cons, List.lookup_append, ih nd.2, List.lookup_cons]
    obtain ⟨y, v⟩ := p
    by_cases h : x = y
    · subst h
      have hn : r.lookup x = none := by
        rw [List.lookup_eq_none_iff]
        intro q hq
        have : x ≠ q.1 := fun e => nd.1 (List.mem_map.mpr ⟨q, hq, e.symm⟩)
        simpa using this
      simp [hn]
    · have hb : (x == y) = false := by simpa using h
      simp [hb, List.lookup_cons]
noncomputable def runB (ars : List Nat) (np ns : Nat) (dflt : List V) (g : SS) : FnG := fun vs st =>
  if ars.contains vs.length then
    match g ⟨(vs ++ dflt.drop (vs.length + dflt.length - np)) ++ List.replicate (ns - np) .undef, [], st⟩ with
    | some (.ret v, S) => some (v, S.st)
    | some (.next, S) => some (.none, S.st)
    | _ => none
  else none
structure FnOk (cx : Cx) (n : Nat) (params : List Str) (sc : Sc) (ars : List Nat) (dflt : List V) (name qual : Str) (ps : Arguments) (body : List Stmt) (dV kV doc pm cdv ct oc : Value) (an od : Option Addr) (osl : Array (Option Value)) : Prop where
  at_ : cx.K.lookup (cx.ga n) = some ⟨oc, od, .func (fnOf name qual ps body sc.cs dV kV doc pm an cdv ct), osl⟩
  code : codeIn cx.K cdv qual = true
  bind : ∀ (h : Heap), cx.K.In h → ∀ led ρ (s : Shared) vs ws, s.heap = h → VRs cx led ρ vs ws → vs.length ∈ ars →
    ∃ es, VRs cx led ρ (dflt.drop (vs.length + dflt.length - params.length)) es ∧ BindsTo s (fnOf name qual ps body sc.cs dV kV doc pm an cdv ct) ⟨ws, []⟩ (params.zip (ws ++ es))
  ars : ∀ k ∈ ars, k ≤ params.length ∧ params.length ≤ k + dflt.length
  pre : ∃ r, sc.ns = params ++ r
  nd : sc.ns.Nodup
  loc : ∀ x ∈ params, sc.cs.names.lookup x = some .local
  cell : ∀ x ∈ sc.cs.names, x.2 ≠ .cell
  nocns : sc.cns = []
  co : sc.cs.isCoroutine = false
  gen : sc.cs.isGenerator = false
  kind : sc.cs.kind = .function
  ex : ∀ L, sc.ex (envOf qual sc.cs L (cx.ga n) cdv)
theorem real_frame {f : Fm} (ok : f.Ok cx d sc) {h : Heap} {m led ρ st} (I : Inv cx f h m led ρ st) :
    ∃ Lr mr K2, f.fe.frame = some Lr ∧ Fr f.h₀ Lr h mr ∧ News f.h₀ Lr h (led ++ K2) ∧ ((led ++ K2).map (·.1)).Nodup ∧
      ∀ h2 (led2 : Led), Fr f.h₀ Lr h2 mr → News f.h₀ Lr h2 (led2 ++ K2) → ((led2 ++ K2).map (·.1)).Nodup → (∀ o, h.get? Lr = some o → h2.get? Lr = some o) →
        Fr f.h₀ f.L h2 m ∧ News f.h₀ f.L h2 (led2 ++ f.kept) ∧ ((led2 ++ f.kept).map (·.1)).Nodup := by
  rcases ok.fr with hf | ⟨Lr, oL, mo, hf, hk, hns, hge⟩
  · exact ⟨f.L, m, f.kept, hf, I.F, I.N, I.nd, fun h2 led2 F N nd _ => ⟨F, N, nd⟩⟩
  · have hL := I.N _ (List.mem_append_right led hk)
    obtain ⟨es, ep, n1, n2, n3⟩ := hns
    obtain ⟨oC, esC, epC, c1, c2, c3, c4⟩ := I.F.ns
    have hnd := I.nd
    rw [List.map_append, List.nodup_append] at hnd
    obtain ⟨nd1, nd2, nd3⟩ := hnd
    have sub : ∀ p, p ∈ f.kept.filter (fun p => decide (p.1 ≠ Lr)) → p ∈ f.kept ∧ p.1 ≠ Lr := fun p hp => by
      obtain ⟨q1, q2⟩ := List.mem_filter.mp hp
      exact ⟨q1, by simpa using q2⟩
    have hCk : ∀ p ∈ led ++ f.kept, p.1 ≠ f.L := fun p hp => (I.N p hp).2.1
    have hC0 : f.h₀.get? f.L = none := by
      cases q : f.h₀.get? f.L with
      | none => rfl
      | some o => exact absurd (Nat.lt_of_lt_of_le (Heap.lt_size q) I.F.above) (Nat.lt_irrefl _)
    have hLC : f.L ≠ Lr := fun e => hL.2.1 e.symm
    refine ⟨Lr, mo, f.kept.filter (fun p => decide (p.1 ≠ Lr)) ++ [(f.L, oC)], hf, ⟨⟨oL, es, ep, hL.1, n1, n2, n3⟩, I.F.keep, hge⟩, fun p hp => ?_, ?_, fun h2 led2 F N nd hx => ?_⟩
    · rcases List.mem_append.mp hp with hp | hp
      · have z := I.at_ hp
        refine ⟨z.1, fun e => ?_, z.2.2⟩
        exact nd3 p.1 (List.mem_map_of_mem hp) Lr (List.mem_map.mpr ⟨_, hk, rfl⟩) e
      · rcases List.mem_append.mp hp with hp | hp
        · obtain ⟨q1, q2⟩ := sub p hp
          have z := I.N p (List.mem_append_right _ q1)
          exact ⟨z.1, q2, z.2.2⟩
        · rw [List.mem_singleton.mp hp]
          exact ⟨c1, hLC, hC0⟩
    · rw [List.map_append, List.nodup_append]
      refine ⟨nd1, ?_, ?_⟩
      · rw [List.map_append, List.nodup_append]
        have hsub : (f.kept.filter (fun p => decide (p.1 ≠ Lr))).Sublist f.kept := List.filter_sublist
        refine ⟨(hsub.map (·.1)).nodup nd2, by simp, fun x hx y hy => ?_⟩
        obtain ⟨p, hp, rfl⟩ := List.mem_map.mp hx
        simp only [List.map_cons, List.map_nil, List.mem_singleton] at hy
        rw [hy]
        exact hCk p (List.mem_append_right _ (sub p hp).1)
      · intro x hx y hy
        obtain ⟨p, hp, rfl⟩ := List.mem_map.mp hx
        obtain ⟨q, hq, rfl⟩ := List.mem_map.mp hy
        rcases List.mem_append.mp hq with hq | hq
        · exact nd3 p.1 (List.mem_map_of_mem hp) q.1 (List.mem_map_of_mem (sub q hq).1)
        · rw [List.mem_singleton.mp hq]
          exact hCk p (List.mem_append_left _ hp)
    · have hnd2 := nd
      rw [List.map_append, List.nodup_append] at hnd2
      obtain ⟨e1, e2, e3⟩ := hnd2
      have hC2 := N (f.L, oC) (List.mem_append_right _ (List.mem_append_right _ (.head _)))
      have hkeep : ∀ p ∈ f.kept, p.1 ≠ Lr → p ∈ f.kept.filter (fun p => decide (p.1 ≠ Lr)) ++ [(f.L, oC)] := fun p hp hne => List.mem_append_left _ (List.mem_filter.mpr ⟨hp, by simpa using hne⟩)
      refine ⟨⟨⟨oC, esC, epC, hC2.1, c2, c3, c4⟩, F.keep, I.F.above⟩, fun p hp => ?_, ?_⟩
      · rcases List.mem_append.mp hp with hp | hp
        · have z := N p (List.mem_append_left _ hp)
          refine ⟨z.1, fun e => ?_, z.2.2⟩
          exact e3 p.1 (List.mem_map_of_mem hp) f.L (List.mem_map.mpr ⟨_, List.mem_append_right _ (.head _), rfl⟩) e
        · have z := I.N p (List.mem_append_right _ hp)
          by_cases hne : p.1 = Lr
          · have := hx _ (hne ▸ z.1)
            exact ⟨hne ▸ this, z.2.1, z.2.2⟩
          · exact ⟨(N p (List.mem_append_right _ (hkeep p hp hne))).1, z.2.1, z.2.2⟩
      · rw [List.map_append, List.nodup_append]
        refine ⟨e1, nd2, fun x hx y hy => ?_⟩
        obtain ⟨p, hp, rfl⟩ := List.mem_map.mp hx
        obtain ⟨q, hq, rfl⟩ := List.mem_map.mp hy
        by_cases hne : q.1 = Lr
        · intro e
          exact (N p (List.mem_append_left _ hp)).2.1 (e.trans hne)
        · exact e3 p.1 (List.mem_map_of_mem hp) q.1 (List.mem_map_of_mem (hkeep q hq hne))
theorem fn_ok {n : Nat} {params : List Str} {sc' : Sc} {ars : List Nat} {dflt : List V} {name qual : Str} {ps : Arguments} {body : List Stmt} {dV kV doc pm cdv ct oc : Value} {an od : Option Addr} {osl : Array (Option Value)}
    (hf : FnOk cx n params sc' ars dflt name qual ps body dV kV doc pm cdv ct oc an od osl) {g : SS} (hb : SoundB cx d sc' body g) :
    CallOk cx (d + 1) (.ref (cx.ga n)) (runB ars params.length sc'.ns.length dflt g) := by
  refine ⟨?_⟩
  intro sc f ok s m led ρ st I vs ws X v st' e R P
  unfold runB at e
  split at e
  · rename_i hl0
    have hl1 : vs.length ∈ ars := by simpa using hl0
    have hl := hf.ars _ hl1
    obtain ⟨es, Xe, hbind⟩ := hf.bind s.heap (ok.X.keeps I.F.keep) led ρ s vs ws rfl X hl1
    have Xa := X.append Xe
    have hlen : (vs ++ dflt.drop (vs.length + dflt.length - params.length)).length = params.length := by
      rw [List.length_append, List.length_drop]
      omega
    have hlw : (ws ++ es).length = params.length := by rw [← Xa.length, hlen]
    have ndp : params.Nodup := by
      obtain ⟨r, hr⟩ := hf.pre
      have := hf.nd
      rw [hr, List.nodup_append] at this
      exact this.1
    have hz : (params.zip (ws ++ es)).map (·.1) = params := by
      rw [List.map_fst_zip]
      omega
    obtain ⟨Lr, mr, K2, hfr, FR, NR, ndR, back⟩ := real_frame ok I
    refine code_defG ok.B FR ok.X NR ok.T ok.hA hfr ok.fek hf.at_ hf.code (Nat.lt_of_le_of_lt (Nat.le_add_right _ _) ok.dep) hbind (fun y hy => ?_) (fun gh L' h₁ FG F' N' B' X' T' hG => ?_) hf.co hf.gen hf.kind hf.cell
    · have : y.1 ∈ params := by
        have := List.mem_map_of_mem (f := (·.1)) hy
        rw [hz] at this
        exact this
      exact hf.loc _ this
    · let f' : Fm := ⟨f.A.deeper (envOf qual sc'.cs L' (cx.ga n) cdv), f.A, f.base, gh, f.fe :: f.outer, L', K2, envOf qual sc'.cs L' (cx.ga n) cdv, envOf qual sc'.cs L' (cx.ga n) cdv⟩
      have ok' : f'.Ok cx d sc' := ⟨Around.frames_deeper B'.stack, B', X', T', hf.kind, rfl, rfl, rfl, rfl, hf.ex _, hf.kind, .inl rfl, by
        have := ok.dep
        show f.A.depth + 1 + d < 1000
        omega, by
        have := ok.un
        show f.A.units + 3 + 16 * d < 9800
        omega, ok.hh⟩
      have I' : Inv cx f' h₁ (fun y => (params.zip (ws ++ es)).reverse.lookup y) led ρ st := ⟨F', N', ndR, I.sep, I.len, I.ob⟩
      have R' : LR cx sc' f' (fun y => (params.zip (ws ++ es)).reverse.lookup y) led ρ ((vs ++ dflt.drop (vs.length + dflt.length - params.length)) ++ List.replicate (sc'.ns.length - params.length) .undef) [] := by
        obtain ⟨r, hr⟩ := hf.pre
        refine ⟨hf.nd, ?_, fun i x v' hx hv hne => ?_, fun i x hx => by rw [hf.nocns] at hx; simp at hx⟩
        · rw [List.length_append, hlen, List.length_replicate, hr, List.length_append]
          omega
        · by_cases hi : i < params.length
          · rw [List.getElem?_append_left (by omega)] at hv
            rw [hr, List.getElem?_append_left hi] at hx
            obtain ⟨w', hw, q⟩ := Xa.get hv
            exact ⟨w', by rw [lookup_rev (by rw [hz]; exact ndp)]; exact lookup_zip ndp hx hw, q⟩
          · rw [List.getElem?_append_right (by omega)] at hv
            have := List.mem_of_getElem? hv
            rw [List.mem_replicate] at this
            exact absurd this.2 hne
      have fin : ∀ {w' : Value} {h2 : Heap} {tk2 : Nat} {led2 : Led} {ρ2 : Rho} {m2 : Str → Option Value}, Inv cx f' h2 m2 led2 ρ2 st' → Grow led ρ led2 ρ2 → VR cx led2 ρ2 v w' → LeaveK f.h₀ Lr mr gh R w' (put s h2 tk2) :=
        fun I2 G2 X2 => leaveK_ I2.F I2.N fun F3 N3 => by
          obtain ⟨b1, b2, b3⟩ := back _ _ F3 N3 I2.nd fun o ho => I2.F.keep _ _ (hG _ _ ho fun hm => by
            obtain ⟨p, hp, e⟩ := List.mem_map.mp hm
            exact (NR p hp).2.1 e)
          exact P _ _ _ _ _ ⟨b1, b2, b3, I2.sep, I2.len, I2.ob⟩ G2 X2
      split at e
      · rename_i v' S1 e1
        cases e
        refine hb.1 f' ok' (put s h₁ (s.toks + (params.zip (ws ++ es)).length)) _ led ρ ⟨_, [], st⟩ I' R' _ _ e1 _ _ fun fw m2 h2 tk2 led2 ρ2 I2 G2 R2 X2 => ?_
        cases X2 with
        | ret X2 => exact fin I2 G2 X2
      · rename_i S1 e1
        cases e
        refine hb.1 f' ok' (put s h₁ (s.toks + (params.zip (ws ++ es)).length)) _ led ρ ⟨_, [], st⟩ I' R' _ _ e1 _ _ fun fw m2 h2 tk2 led2 ρ2 I2 G2 R2 X2 => ?_
        cases X2
        exact fin I2 G2 .none
      · cases e
  · cases e
noncomputable def obOf (K : Frag) (a : Addr) : Obj := match K.lookup a with
  | some o => o
  | none => { cls := .none, data := .plain }
noncomputable def fdOf (K : Frag) (a : Addr) : FuncData := match (obOf K a).data with
  | .func fd => fd
  | _ => fnOf "" "" { posonlyargs := [], args := [], vararg := none, kwonlyargs := [], kw_defaults := [], kwarg := none, defaults := [] } [] { kind := .function, names := [], isGenerator := false, isCoroutine := false, more := [] } .none .none .none .none none .none .none
noncomputable def stOf (K : Frag) (a : Addr) : List Stmt := match (fdOf K a).body with
  | .stmts b => b
  | _ => []
structure FnK (cx : Cx) (n : Nat) (params : List Str) (ns : List Str) (ars : List Nat) (dflt : List V) : Prop where
  at_ : cx.K.lookup (cx.ga n) = some ⟨(obOf cx.K (cx.ga n)).cls, (obOf cx.K (cx.ga n)).dict, .func (fdOf cx.K (cx.ga n)), (obOf cx.K (cx.ga n)).slots⟩
  isF : (fdOf cx.K (cx.ga n)).body = .stmts (stOf cx.K (cx.ga n)) ∧ (fdOf cx.K (cx.ga n)).globals = mainGlobals ∧ (fdOf cx.K (cx.ga n)).closure = [] ∧ (fdOf cx.K (cx.ga n)).builtins = builtinsNs
  code : codeIn cx.K (fdOf cx.K (cx.ga n)).code (fdOf cx.K (cx.ga n)).qualname = true
  bind : ∀ (h : Heap), cx.K.In h → ∀ led ρ (s : Shared) vs ws, s.heap = h → VRs cx led ρ vs ws → vs.length ∈ ars →
    ∃ es, VRs cx led ρ (dflt.drop (vs.length + dflt.length - params.length)) es ∧ BindsTo s (fdOf cx.K (cx.ga n)) ⟨ws, []⟩ (params.zip (ws ++ es))
  ars : ∀ k ∈ ars, k ≤ params.length ∧ params.length ≤ k + dflt.length
  pre : ∃ r, ns = params ++ r
  nd : ns.Nodup
  loc : (params.all fun x => decide ((fdOf cx.K (cx.ga n)).scope.names.lookup x = some .local)) = true
  cell : ((fdOf cx.K (cx.ga n)).scope.names.all fun x => decide (x.2 ≠ .cell)) = true
  co : (fdOf cx.K (cx.ga n)).scope.isCoroutine = false
  gen : (fdOf cx.K (cx.ga n)).scope.isGenerator = false
  kind : (fdOf cx.K (cx.ga n)).scope.kind = .function
theorem fn_okK {n : Nat} {params ns : List Str} {ars : List Nat} {dflt : List V} (hf : FnK cx n params ns ars dflt) {g : SS} {ex : Env → Prop} (hb : SoundB cx d ⟨(fdOf cx.K (cx.ga n)).scope, ns, [], ex⟩ (stOf cx.K (cx.ga n)) g) (hex : ∀ L, ex (envOf (fdOf cx.K (cx.ga n)).qualname (fdOf cx.K (cx.ga n)).scope L (cx.ga n) (fdOf cx.K (cx.ga n)).code) := by intro _; trivial) :
    CallOk cx (d + 1) (.ref (cx.ga n)) (runB ars params.length ns.length dflt g) := by
  have he : fdOf cx.K (cx.ga n) = fnOf (fdOf cx.K (cx.ga n)).name (fdOf cx.K (cx.ga n)).qualname (fdOf cx.K (cx.ga n)).params (stOf cx.K (cx.ga n)) (fdOf cx.K (cx.ga n)).scope (fdOf cx.K (cx.ga n)).defaults (fdOf cx.K (cx.ga n)).kwdefaults (fdOf cx.K (cx.ga n)).doc (fdOf cx.K (cx.ga n)).pyModule (fdOf cx.K (cx.ga n)).annotations (fdOf cx.K (cx.ga n)).code (fdOf cx.K (cx.ga n)).closureTuple := by
    obtain ⟨h1, h2, h3, h4⟩ := hf.isF
    unfold fnOf
    rw [← h1, ← h2, ← h3, ← h4]
  exact fn_ok (sc' := ⟨(fdOf cx.K (cx.ga n)).scope, ns, [], ex⟩) (params := params) (dflt := dflt)
    { at_ := by rw [← he]; exact hf.at_, code := hf.code, bind := by rw [← he]; exact hf.bind, ars := hf.ars, pre := hf.pre, nd := hf.nd, loc := fun x hx => of_decide_eq_true (List.all_eq_true.mp hf.loc x hx), cell := fun x hx => of_decide_eq_true (List.all_eq_true.mp hf.cell x hx), nocns := rfl, co := hf.co, gen := hf.gen, kind := hf.kind, ex := hex } hb
end
end Mp
namespace Mp
section
variable {cx : Cx} {d : Nat} {sc : Sc}
theorem Inv.rho_obj {cx f h m led ρ st} (I : Inv cx f h m led ρ st) : ∀ q ∈ ρ, ∃ o, (q.2, o) ∈ led ∧ (Frz o = false ∨ Frz2 o = true) := by
  intro q hq
  obtain ⟨i, hi⟩ := List.getElem?_of_mem hq
  have hl : i < st.length := by rw [← I.len]; exact (List.getElem?_eq_some_iff.mp hi).1
  have ho := I.ob i st[i] (List.getElem?_eq_getElem hl)
  cases e : st[i] with
  | list vs => rw [e] at ho; obtain ⟨a, ws, n, h1, h2, _⟩ := ho; rw [hi] at h1; cases h1; exact ⟨_, h2, .inl rfl⟩
  | nums is => rw [e] at ho; obtain ⟨a, ws, n, h1, h2, _⟩ := ho; rw [hi] at h1; cases h1; exact ⟨_, h2, .inl rfl⟩
  | inst c fs => rw [e] at ho; obtain ⟨a, d, es, n, h1, _, h3, _⟩ := ho; rw [hi] at h1; cases h1; exact ⟨_, h3, .inl rfl⟩
  | cell v => rw [e] at ho; obtain ⟨a, o, w, h1, h2, h3, _⟩ := ho; rw [hi] at h1; cases h1; exact ⟨_, h2, .inl (by unfold Frz; rw [h3])⟩
  | dict es => rw [e] at ho; obtain ⟨a, o', ds, h1, h2, ⟨es', ep, _, h3, _⟩, _⟩ := ho; rw [hi] at h1; cases h1; exact ⟨_, h2, .inl (by unfold Frz; rw [h3])⟩
  | clo n cells => rw [e] at ho; obtain ⟨a, cl, c', doc, pm, ctv, h1, h2, _⟩ := ho; rw [hi] at h1; cases h1; exact ⟨_, h2, .inr rfl⟩
  | tab n made =>
    rw [e] at ho
    obtain ⟨P, ps, h1, h2, h3, h4⟩ := ho
    rw [hi] at h1
    cases h1
    refine ⟨_, h2, .inl ?_⟩
    rcases h4 with ⟨_, rfl⟩ | ⟨_, c', rfl, _⟩ <;> rfl
  | junk => rw [e] at ho; obtain ⟨a, d, o, h1, h2, h3⟩ := ho; rw [hi] at h1; cases h1; exact ⟨_, h2, h3⟩
theorem Inv.rho_ne {f : Fm} {h m led ρ st} (I : Inv cx f h m led ρ st) {it : Addr} {o : Obj} (ho : (it, o) ∈ led) (h1 : Frz o = true) (h2 : Frz2 o = false) : ∀ q ∈ ρ, q.2 ≠ it := by
  intro q hq e
  obtain ⟨o', ho', hz⟩ := I.rho_obj q hq
  rw [e] at ho'
  have := I.uniq ho ho'
  subst this
  rcases hz with hz | hz
  · rw [h1] at hz; cases hz
  · rw [h2] at hz; cases hz
theorem Inv.iter {f : Fm} {h h' m led ρ st} (I : Inv cx f h m led ρ st) {it : Addr} {o o' : Obj} (ho : (it, o) ∈ led) (h1 : Frz o = true) (h2 : Frz2 o = false) (hs : Heap.SameBut it h h') (ho' : h'.get? it = some o') :
    Inv cx f h' m (updL it o' led) ρ st ∧ Grow2 led ρ (updL it o' led) ρ := by
  have z := I.at_ ho
  obtain ⟨pre, post, e1, e2, q1, q2⟩ := (I.upd (o' := o') ho).split
  exact I.step ho h2 (I.rho_ne ho h1 h2) (I.F.change hs z.2.1 z.2.2) (by rw [e2]; exact news_set (e1 ▸ I.N) q1 q2 hs ho')
theorem Inv.drop {f : Fm} {h h' m led ρ st} (I : Inv cx f h m led ρ st) {it : Addr} {o : Obj} (ho : (it, o) ∈ led) (h1 : Frz o = true) (h2 : Frz2 o = false) (hs : Heap.ExtBut it h h') :
    Inv cx f h' m (led.filter fun p => p.1 ≠ it) ρ st ∧ Grow2 led ρ (led.filter fun p => p.1 ≠ it) ρ := by
  have z := I.at_ ho
  have keep : ∀ p ∈ led, p.1 ≠ it → p ∈ led.filter fun p => p.1 ≠ it := fun p hp hne => List.mem_filter.mpr ⟨hp, by simpa using hne⟩
  have g : Grow2 led ρ (led.filter fun p => p.1 ≠ it) ρ := ⟨fun p hp hf => keep p hp fun e => (by
    obtain ⟨b, x⟩ := p
    simp only at e
    subst e
    rw [I.uniq hp ho, h2] at hf
    exact Bool.noConfusion hf), [], (by simp)⟩
  obtain ⟨oL, es, ep, q1, q2, q3, q4⟩ := I.F.ns
  refine ⟨⟨⟨⟨oL, es, ep, hs _ _ (Ne.symm z.2.1) q1, q2, q3, q4⟩, fun b x e => hs _ _ (fun q => ?_) (I.F.keep b x e), I.F.above⟩, fun p hp => ?_, ?_, I.sep, I.len, fun j x e => (I.ob j x e).mono2 g fun p hp b hb => keep p hp fun e' => I.rho_ne ho h1 h2 _ (List.mem_of_getElem? hb) e'⟩, g⟩
  · have := z.2.2
    rw [← q] at this
    rw [this] at e
    cases e
  · rcases List.mem_append.mp hp with hp | hp
    · obtain ⟨hp1, hp2⟩ := List.mem_filter.mp hp
      have hne : p.1 ≠ it := by simpa using hp2
      exact ⟨hs _ _ hne (I.at_ hp1).1, (I.at_ hp1).2⟩
    · have zz := I.N p (List.mem_append_right _ hp)
      exact ⟨hs _ _ (I.out ho p hp) zz.1, zz.2⟩
  · have hsub : (led.filter (fun p => decide (p.1 ≠ it)) ++ f.kept).Sublist (led ++ f.kept) := List.Sublist.append List.filter_sublist (List.Sublist.refl _)
    exact (hsub.map (·.1)).nodup I.nd
noncomputable def forS (item : Nat → List Ob → Option (Option V)) (asg : V → S → Option S) (b : SS) : Nat → Nat → SS
  | 0, _, _ => none
  | n + 1, i, S => match item i S.st with
    | none => none
    | some none => some (.next, S)
    | some (some v) => match asg v S with
      | none => none
      | some S1 => match b S1 with
        | some (.next, S2) => forS item asg b n (i + 1) S2
        | some (.cont, S2) => forS item asg b n (i + 1) S2
        | some (.brk, S2) => some (.next, S2)
        | some (.ret v, S2) => some (.ret v, S2)
        | none => none
structure ItOk (cx : Cx) (d : Nat) (sc : Sc) (item : Nat → List Ob → Option (Option V)) (P : Nat → Obj → Prop) (C : Led → Rho → Prop) (target : Expr) : Prop where
  ctx : ∀ led ρ led' ρ', Grow2 led ρ led' ρ' → C led ρ → C led' ρ'
  fz : ∀ i o, P i o → Frz o = true ∧ Frz2 o = false
  next : ∀ (f : Fm), f.Ok cx d sc → ∀ (s : Shared) m led ρ st it i o v, Inv cx f s.heap m led ρ st → C led ρ → (it, o) ∈ led → P i o → item i st = some (some v) → ∀ (Q : Option Value → Shared → Prop) E,
    (∀ w h' o' tk, Heap.SameBut it s.heap h' → h'.get? it = some o' → P (i + 1) o' → VR cx led ρ v w → Q (some w) (put s h' tk)) → wpAny cx.M f.A (pyNext (.ref it)) Q E s
  last : ∀ (f : Fm), f.Ok cx d sc → ∀ (s : Shared) m led ρ st it i o, Inv cx f s.heap m led ρ st → C led ρ → (it, o) ∈ led → P i o → item i st = some none → ∀ (Q : Option Value → Shared → Prop) E,
    (∀ h' tk, Heap.ExtBut it s.heap h' → Q none (put s h' tk)) → wpAny cx.M f.A (pyNext (.ref it)) Q E s
  go : ∀ (A : Around) (s : Shared) it i o w, s.heap.get? it = some o → P i o → ∀ (Q : Unit → Shared → Prop) E, Q () s → wpAny cx.M A (letOwnedTupleGo target (.ref it) w) Q E s
theorem grow_upd {led0 led ρ0 ρ it o'} (g : Grow led0 ρ0 led ρ) (h : ∀ p ∈ led0, p.1 ≠ it) : Grow led0 ρ0 (updL it o' led) ρ :=
  ⟨fun p hp hf => updL_ne (g.fz p hp hf) (h p hp), g.rho⟩
theorem grow_drop {led0 led ρ0 ρ it} (g : Grow led0 ρ0 led ρ) (h : ∀ p ∈ led0, p.1 ≠ it) : Grow led0 ρ0 (led.filter fun p => p.1 ≠ it) ρ :=
  ⟨fun p hp hf => List.mem_filter.mpr ⟨g.fz p hp hf, by simpa using h p hp⟩, g.rho⟩
theorem for_loop {item P C target asg body b} (T : ItOk cx d sc item P C target) (hu : SoundU cx d sc target asg) (hb : SoundB cx d sc body b) {f : Fm} (ok : f.Ok cx d sc) {s : Shared} {led0 ρ0} {it : Addr} (hit : ∀ p ∈ led0, p.1 ≠ it)
    {fl S'} {Q : Flow → Shared → Prop} {E' : Value → Shared → Prop} (Pq : PostS cx sc f led0 ρ0 S' fl Q s) (n : Nat) {i : Nat} {h1 : Heap} {tk1 : Nat} {m1 led1 ρ1} {S1 : S} {o : Obj} (I1 : Inv cx f h1 m1 led1 ρ1 S1.st) (G1 : Grow led0 ρ0 led1 ρ1) (R1 : LR cx sc f m1 led1 ρ1 S1.lo S1.ce) (ho : (it, o) ∈ led1) (hP : P i o)
    (hC : C led1 ρ1) (e : forS item asg b n i S1 = some (fl, S')) :
    codeAny cx.M f.A (.forLoop target (.ref it) body [] (f.env sc)) (fun r s' => match r with | .ok fl => Q fl s' | .error e => E' e s') (put s h1 tk1) := by
  refine codeAny_forLoop_any (fun n s' => ∃ h tk m1 led1 ρ1 S1 i o, s' = put s h tk ∧ Inv cx f h m1 led1 ρ1 S1.st ∧ Grow led0 ρ0 led1 ρ1 ∧ LR cx sc f m1 led1 ρ1 S1.lo S1.ce ∧ (it, o) ∈ led1 ∧ P i o ∧ C led1 ρ1 ∧ forS item asg b n i S1 = some (fl, S')) ?_ n
    ⟨h1, tk1, m1, led1, ρ1, S1, i, o, rfl, I1, G1, R1, ho, hP, hC, e⟩
  clear e hC hP ho R1 G1 I1
  intro n s' hI
  obtain ⟨h1, tk1, m1, led1, ρ1, S1, i, o, rfl, I1, G1, R1, ho, hP, hC, e⟩ := hI
  obtain ⟨z1, z2⟩ := T.fz _ _ hP
  cases n with
  | zero => simp [forS] at e
  | succ n =>
    unfold forS at e
    split at e
    · cases e
    · rename_i ei
      cases e
      refine T.last f ok (put s h1 tk1) m1 led1 ρ1 _ it i o I1 hC ho hP ei _ _ fun h' tk hx => ?_
      obtain ⟨I2, g2⟩ := I1.drop ho z1 z2 hx
      exact wpAny_execs_nil (Pq _ _ _ tk _ _ I2 (grow_drop G1 hit) (R1.mono2 g2) .next)
    · rename_i v ei
      refine T.next f ok (put s h1 tk1) m1 led1 ρ1 S1.st it i o v I1 hC ho hP ei _ _ fun w h2 o' tk2 hsb ho' hP' X => ?_
      obtain ⟨I2, g2⟩ := I1.iter ho z1 z2 hsb ho'
      have hm2 : (it, o') ∈ updL it o' led1 := updL_self ho
      obtain ⟨z1', z2'⟩ := T.fz _ _ hP'
      refine T.go f.A (put s h2 tk2) it (i + 1) o' w (I2.at_ hm2).1 hP' _ _ ?_
      split at e
      · cases e
      · rename_i S2 e2
        refine hu.1 f ok (put s h2 tk2) m1 _ ρ1 S1 I2 (R1.mono2 g2) v w (X.mono2 g2) S2 e2 _ _ fun m3 h3 tk3 led3 ρ3 I3 G3 R3 => ?_
        have G03 : Grow led0 ρ0 led3 ρ3 := (grow_upd G1 hit).trans G3
        have hC3 := T.ctx _ _ _ _ G3.to2 (T.ctx _ _ _ _ g2 hC)
        have hm3 := G3.fz _ hm2 z1'
        split at e
        · rename_i S4 e4
          refine hb.1 f ok (put s h3 tk3) m3 led3 ρ3 S2 I3 R3 _ _ e4 _ _ fun fw m4 h4 tk4 led4 ρ4 I4 G4 R4 X4 => ?_
          cases X4
          exact ⟨n, Nat.lt_succ_self _, h4, tk4, m4, led4, ρ4, S4, i + 1, o', rfl, I4, G03.trans G4, R4, G4.fz _ hm3 z1', hP', T.ctx _ _ _ _ G4.to2 hC3, e⟩
        · rename_i S4 e4
          refine hb.1 f ok (put s h3 tk3) m3 led3 ρ3 S2 I3 R3 _ _ e4 _ _ fun fw m4 h4 tk4 led4 ρ4 I4 G4 R4 X4 => ?_
          cases X4
          exact ⟨n, Nat.lt_succ_self _, h4, tk4, m4, led4, ρ4, S4, i + 1, o', rfl, I4, G03.trans G4, R4, G4.fz _ hm3 z1', hP', T.ctx _ _ _ _ G4.to2 hC3, e⟩
        · rename_i S4 e4
          cases e
          refine hb.1 f ok (put s h3 tk3) m3 led3 ρ3 S2 I3 R3 _ _ e4 _ _ fun fw m4 h4 tk4 led4 ρ4 I4 G4 R4 X4 => ?_
          cases X4
          exact Pq _ _ _ _ _ _ I4 (G03.trans G4) R4 .next
        · rename_i v4 S4 e4
          cases e
          refine hb.1 f ok (put s h3 tk3) m3 led3 ρ3 S2 I3 R3 _ _ e4 _ _ fun fw m4 h4 tk4 led4 ρ4 I4 G4 R4 X4 => ?_
          cases X4 with
          | ret X4 => exact Pq _ _ _ _ _ _ I4 (G03.trans G4) R4 (.ret X4)
        · cases e
end
end Mp
namespace Mp
noncomputable def GoT (t : Expr) : Prop := (∀ it v, letOwnedTupleGo t it v = pure ()) ∨ ∃ es k p, t = .Tuple es k p
theorem go_ok {M : Model} {A : Around} {s : Shared} {it : Addr} {o : Obj} {w : Value} {t : Expr} (ht : GoT t) (ho : s.heap.get? it = some o) {T : String} (hc : o.cls = .type T)
    (hT : ["enumerate", "zip", "dict_itemiterator", "dict_reverseitemiterator", "odict_iterator", "itertools.zip_longest", "itertools.pairwise"].contains T = false)
    {Q : Unit → Shared → Prop} {E} (h : Q () s) : wpAny M A (letOwnedTupleGo t (.ref it) w) Q E s := by
  rcases ht with ht | ⟨es, k, p, rfl⟩
  · rw [ht]; exact wpAny_pure h
  · unfold letOwnedTupleGo
    cases w with
    | ref a =>
      refine wpAny_bind (wpAny_load ho ?_)
      rw [hc]
      split
      · rename_i n vs e1 e2
        cases e1
        simp only [hT, Bool.false_and, Bool.false_eq_true, if_false]
        exact wpAny_pure h
      · exact wpAny_pure h
    | _ => exact wpAny_pure h
section
variable {cx : Cx} {d : Nat} {sc : Sc}
noncomputable def itemV (v : V) (i : Nat) (st : List Ob) : Option (Option V) := match v with
  | .tup vs => some vs[i]?
  | .ref r => match gt st r with
    | some (.list vs) => some vs[i]?
    | _ => none
  | .str cs => if cs.all (· < 128) then some (cs[i]?.map fun c => .str [c]) else none
  | _ => none
theorem it_tup {t : Addr} {vs : List V} {ws : List Value} {n : Nat} {tg : Expr} (hg : GoT tg) :
    ItOk cx d sc (itemV (.tup vs)) (fun i o => o.cls = .type "tuple_iterator" ∧ o.data = .fields #[.ref t, .int (i : Nat) 0]) (fun led ρ => ((t, tupObj ws n) ∈ led ∨ cx.K.lookup t = some (tupObj ws n)) ∧ VRs cx led ρ vs ws) tg where
  ctx := fun led ρ led' ρ' g h => ⟨h.1.elim (fun h => .inl (g.fz _ h rfl)) .inr, h.2.mono2 g⟩
  fz := fun i o h => by unfold Frz Frz2; rw [h.2, h.1]; exact ⟨rfl, rfl⟩
  next := by
    intro f ok s m led ρ st it i o v I hC ho hP e Q E P
    have ht := tup_at ok I hC.1
    simp only [itemV, Option.some.injEq, gt_eq, pt_eq, ad_eq, ln_eq] at e
    obtain ⟨w, hw, X⟩ := hC.2.get e
    refine wpAny_pyNext_tuple_item ⟨o, (I.at_ ho).1, hP.1, hP.2⟩ ht (by simpa using hw) fun h' hi hs => ?_
    obtain ⟨o', q1, q2, q3⟩ := hi
    exact P w h' o' s.toks hs q1 ⟨q2, q3⟩ X
  last := by
    intro f ok s m led ρ st it i o I hC ho hP e Q E P
    have ht := tup_at ok I hC.1
    simp only [itemV, Option.some.injEq, gt_eq, pt_eq, ad_eq, ln_eq] at e
    refine wpAny_pyNext_tuple_end ok.hh ⟨o, (I.at_ ho).1, hP.1, hP.2⟩ ht ?_ fun h' hs => P h' s.toks hs
    have := hC.2.length
    simp only [List.getElem?_eq_none_iff] at e
    simp
    omega
  go := fun A s it i o w ho hP Q E h => go_ok hg ho hP.1 (by decide) h
theorem it_list {r : Nat} {l : Addr} {tg : Expr} (hg : GoT tg) :
    ItOk cx d sc (itemV (.ref r)) (fun i o => o.cls = .type "list_iterator" ∧ o.data = .fields #[.ref l, .int (i : Nat) 0]) (fun led ρ => ρ[r]? = some (l, l)) tg where
  ctx := fun led ρ led' ρ' g h => g.at h
  fz := fun i o h => by unfold Frz Frz2; rw [h.2, h.1]; exact ⟨rfl, rfl⟩
  next := by
    intro f ok s m led ρ st it i o v I hC ho hP e Q E P
    simp only [itemV, gt_eq, pt_eq, ad_eq, ln_eq] at e
    split at e
    · rename_i vs hst
      simp only [Option.some.injEq] at e
      obtain ⟨a, ws, n, h1, h2, h3⟩ := I.ob _ _ hst
      rw [hC] at h1
      cases h1
      obtain ⟨w, hw, X⟩ := h3.get e
      refine wpAny_pyNext_list_item ⟨o, (I.at_ ho).1, hP.1, hP.2⟩ (list_at I h2) (by simpa using hw) fun h' hi hs => ?_
      obtain ⟨o', q1, q2, q3⟩ := hi
      exact P w h' o' s.toks hs q1 ⟨q2, q3⟩ X
    · cases e
  last := by
    intro f ok s m led ρ st it i o I hC ho hP e Q E P
    simp only [itemV, gt_eq, pt_eq, ad_eq, ln_eq] at e
    split at e
    · rename_i vs hst
      simp only [Option.some.injEq] at e
      obtain ⟨a, ws, n, h1, h2, h3⟩ := I.ob _ _ hst
      rw [hC] at h1
      cases h1
      refine wpAny_pyNext_list_end ok.hh ⟨o, (I.at_ ho).1, hP.1, hP.2⟩ (list_at I h2) ?_ fun h' hs => P h' s.toks hs
      have := h3.length
      simp only [List.getElem?_eq_none_iff] at e
      simp at this ⊢
      omega
    · cases e
  go := fun A s it i o w ho hP Q E h => go_ok hg ho hP.1 (by decide) h
theorem it_str {cs : List Nat} {t : Tok} {tg : Expr} (hg : GoT tg) :
    ItOk cx d sc (itemV (.str cs)) (fun i o => o.cls = .type "str_ascii_iterator" ∧ o.data = .fields #[.str ⟨cs.toArray⟩ t, .int (i : Nat) 0]) (fun led ρ => True) tg where
  ctx := fun led ρ led' ρ' g h => h
  fz := fun i o h => by unfold Frz Frz2; rw [h.2, h.1]; exact ⟨rfl, rfl⟩
  next := by
    intro f ok s m led ρ st it i o v I hC ho hP e Q E P
    simp only [itemV, gt_eq, pt_eq, ad_eq, ln_eq] at e
    split at e
    · simp only [Option.some.injEq] at e
      obtain ⟨c, hc, rfl⟩ := Option.map_eq_some_iff.mp e
      refine wpAny_pyNext_ascii_item ⟨o, (I.at_ ho).1, hP.1, hP.2⟩ (c := c) (by simpa using hc) fun h' hi hs => ?_
      obtain ⟨o', q1, q2, q3⟩ := hi
      exact P _ h' o' _ hs q1 ⟨q2, q3⟩ (.str [c] _)
    · cases e
  last := by
    intro f ok s m led ρ st it i o I hC ho hP e Q E P
    simp only [itemV, gt_eq, pt_eq, ad_eq, ln_eq] at e
    split at e
    · simp only [Option.some.injEq, Option.map_eq_none_iff] at e
      refine wpAny_pyNext_ascii_end ok.hh ⟨o, (I.at_ ho).1, hP.1, hP.2⟩ (by simpa using e) fun h' hs => P h' s.toks hs
    · cases e
  go := fun A s it i o w ho hP Q E h => go_ok hg ho hP.1 (by decide) h
noncomputable def forVS (g : SE) (asg : V → S → Option S) (b : SS) (n : Nat) : SS := fun S => match g S with
  | some (v, st) => forS (itemV v) asg b n 0 ⟨S.lo, S.ce, st⟩
  | none => none
theorem forS_item {item asg b n i S r} (h : forS item asg b n i S = some r) : ∃ x, item i S.st = some x := by
  cases n with
  | zero => simp [forS] at h
  | succ n =>
    unfold forS at h
    split at h
    · cases h
    · exact ⟨_, ‹_›⟩
    · exact ⟨_, ‹_›⟩
theorem s_for {t iter : Expr} {body : List Stmt} {g : SE} {asg b} {pos : Pos} (n : Nat) (hi : SoundE cx d sc iter g) (hu : SoundU cx d sc t asg) (hb : SoundB cx d sc body b) (hg : GoT t)
    (hs : ∀ env x, foldedSetIterable iter env x = pure x) : SoundS cx d sc (.For t iter body [] pos) (forVS g asg b n) := by
  refine ⟨?_⟩
  intro f ok s m led ρ S I R fl S' hg' Q E P
  unfold forVS at hg'
  split at hg'
  · rename_i v st1 e1
    refine wpAny_For (hi.1 f ok s m led ρ S I R _ _ e1 _ _ fun w h1 tk1 led1 ρ1 I1 G1 X1 => ?_) (hs _)
    obtain ⟨x0, hx0⟩ := forS_item hg'
    cases X1 with
    | tup vs ws a k hm r =>
      refine wpAny_pyIter_tuple (tup_at ok I1 hm) ?_
      obtain ⟨I2, G2⟩ := I1.push (Fr.size_ne I1.N) (I1.F.push _) (I1.N.push I1.F ({ cls := .type "tuple_iterator", data := .fields #[.ref a, .int 0 0] } : Obj))
      exact for_loop (s := s) (led0 := led1) (ρ0 := ρ1) (S1 := ⟨S.lo, S.ce, st1⟩) (it_tup (t := a) (ws := ws) (n := k) hg) hu hb ok (fun p hp => Fr.size_ne I1.N p (List.mem_append_left _ hp)) (fun fw m' h' tk' led' ρ' I' G' => P fw m' h' tk' led' ρ' I' (G1.trans G')) n (i := 0) I2 G2 ((R.mono G1).mono G2) (.head _) ⟨rfl, rfl⟩
        ⟨hm.elim (fun h => .inl (.tail _ h)) .inr, r.mono G2⟩ hg'
    | ref r a dd hr =>
      simp only [itemV, gt_eq, pt_eq, ad_eq, ln_eq] at hx0
      split at hx0
      · rename_i vs hst
        obtain ⟨a', ws, k, q1, q2, q3⟩ := I1.ob _ _ hst
        rw [hr] at q1
        cases q1
        refine wpAny_pyIter_list (list_at I1 q2) ?_
        obtain ⟨I2, G2⟩ := I1.push (Fr.size_ne I1.N) (I1.F.push _) (I1.N.push I1.F ({ cls := .type "list_iterator", data := .fields #[.ref a, .int 0 0] } : Obj))
        exact for_loop (s := s) (led0 := led1) (ρ0 := ρ1) (S1 := ⟨S.lo, S.ce, st1⟩) (it_list (r := r) (l := a) hg) hu hb ok (fun p hp => Fr.size_ne I1.N p (List.mem_append_left _ hp)) (fun fw m' h' tk' led' ρ' I' G' => P fw m' h' tk' led' ρ' I' (G1.trans G')) n (i := 0) I2 G2 ((R.mono G1).mono G2) (.head _) ⟨rfl, rfl⟩
          hr hg'
      · cases hx0
    | str cs tk =>
      simp only [itemV, gt_eq, pt_eq, ad_eq, ln_eq] at hx0
      split at hx0
      · rename_i hall
        refine wpAny_pyIter_ascii (by simpa using hall) ?_
        obtain ⟨I2, G2⟩ := I1.push (Fr.size_ne I1.N) (I1.F.push _) (I1.N.push I1.F ({ cls := .type "str_ascii_iterator", data := .fields #[.str ⟨cs.toArray⟩ tk, .int 0 0] } : Obj))
        exact for_loop (s := s) (led0 := led1) (ρ0 := ρ1) (S1 := ⟨S.lo, S.ce, st1⟩) (it_str (cs := cs) (t := tk) hg) hu hb ok (fun p hp => Fr.size_ne I1.N p (List.mem_append_left _ hp)) (fun fw m' h' tk' led' ρ' I' G' => P fw m' h' tk' led' ρ' I' (G1.trans G')) n (i := 0) I2 G2 ((R.mono G1).mono G2) (.head _) ⟨rfl, rfl⟩
          trivial hg'
      · cases hx0
    | _ => simp only [itemV, reduceCtorEq, gt_eq, pt_eq, ad_eq, ln_eq] at hx0
  · cases hg'
structure GlOk (cx : Cx) (n : Nat) (vs : List V) (ws : List Value) (k : Nat) : Prop where
  at_ : cx.K.lookup (cx.ga n) = some (PySem.W.listOf ws.toArray k)
  is : ∀ led ρ, VRs cx led ρ vs ws
noncomputable def itemG (vs : List V) (i : Nat) (_ : List Ob) : Option (Option V) := some vs[i]?
theorem it_gl {n k : Nat} {vs : List V} {ws : List Value} {tg : Expr} (hl : GlOk cx n vs ws k) (hg : GoT tg) :
    ItOk cx d sc (itemG vs) (fun i o => o.cls = .type "list_iterator" ∧ o.data = .fields #[.ref (cx.ga n), .int (i : Nat) 0]) (fun led ρ => True) tg where
  ctx := fun led ρ led' ρ' g h => h
  fz := fun i o h => by unfold Frz Frz2; rw [h.2, h.1]; exact ⟨rfl, rfl⟩
  next := by
    intro f ok s m led ρ st it i o v I hC ho hP e Q E P
    simp only [itemG, Option.some.injEq] at e
    obtain ⟨w, hw, X⟩ := (hl.is led ρ).get e
    refine wpAny_pyNext_list_item ⟨o, (I.at_ ho).1, hP.1, hP.2⟩ ⟨_, I.F.keep _ _ (ok.X _ _ hl.at_), rfl, _, rfl⟩ (by simpa using hw) fun h' hi hs => ?_
    obtain ⟨o', q1, q2, q3⟩ := hi
    exact P w h' o' s.toks hs q1 ⟨q2, q3⟩ X
  last := by
    intro f ok s m led ρ st it i o I hC ho hP e Q E P
    simp only [itemG, Option.some.injEq] at e
    refine wpAny_pyNext_list_end ok.hh ⟨o, (I.at_ ho).1, hP.1, hP.2⟩ ⟨_, I.F.keep _ _ (ok.X _ _ hl.at_), rfl, _, rfl⟩ ?_ fun h' hs => P h' s.toks hs
    have := (hl.is led ρ).length
    simp only [List.getElem?_eq_none_iff] at e
    simp
    omega
  go := fun A s it i o w ho hP Q E h => go_ok hg ho hP.1 (by decide) h
noncomputable def forGS (vs : List V) (asg : V → S → Option S) (b : SS) (n : Nat) : SS := fun S => forS (itemG vs) asg b n 0 S
theorem s_forG {t : Expr} {x : Str} {xp : Pos} {body : List Stmt} {asg b} {pos : Pos} {gn k : Nat} {vs : List V} {ws : List Value} (n : Nat) (hx : GloName cx sc x (.ref (cx.ga gn))) (hl : GlOk cx gn vs ws k) (hu : SoundU cx d sc t asg) (hb : SoundB cx d sc body b) (hg : GoT t)
    (hs : ∀ env v, foldedSetIterable (.Name x xp) env v = pure v) : SoundS cx d sc (.For t (.Name x xp) body [] pos) (forGS vs asg b n) := by
  refine ⟨?_⟩
  intro f ok s m led ρ S I R fl S' hg' Q E P
  unfold forGS at hg'
  refine wpAny_For (nameG_K I.F ok.X (topRead_of ok.T) hx.at_ ?_ ok.evg ok.evk (ok.kind hx.kind) hx.dbg) (hs _)
  refine wpAny_pyIter_list ⟨_, I.F.keep _ _ (ok.X _ _ hl.at_), rfl, _, rfl⟩ ?_
  obtain ⟨I2, G2⟩ := I.push (Fr.size_ne I.N) (I.F.push _) (I.N.push I.F ({ cls := .type "list_iterator", data := .fields #[.ref (cx.ga gn), .int 0 0] } : Obj))
  exact for_loop (s := s) (led0 := led) (ρ0 := ρ) (tk1 := s.toks) (it_gl hl hg) hu hb ok (fun p hp => Fr.size_ne I.N p (List.mem_append_left _ hp)) P n (i := 0) I2 G2 (R.mono G2) (.head _) ⟨rfl, rfl⟩ trivial hg'
noncomputable def itemR (a b : Int) (i : Nat) (_ : List Ob) : Option (Option V) := some (if a + i < b then some (.int (a + i)) else none)
theorem it_range {a b : Int} {tg : Expr} (hg : GoT tg) :
    ItOk cx d sc (itemR a b) (fun i o => o = { cls := .type "range_iterator", dict := none, data := .fields #[rawInt (a + i), rawInt (max 0 (b - a) - i), rawInt 1], slots := #[] }) (fun led ρ => True) tg where
  ctx := fun led ρ led' ρ' g h => h
  fz := fun i o h => by subst h; exact ⟨rfl, rfl⟩
  next := by
    intro f ok s m led ρ st it i o v I hC ho hP e Q E P
    subst hP
    simp only [itemR, Option.some.injEq] at e
    split at e
    · rename_i hlt
      cases e
      refine wpAny_pyNext_range_item (I.at_ ho).1 (by omega) fun h' hi hs => ?_
      refine P _ h' _ _ hs hi ?_ (.int _ _)
      have e1 : a + (i : Int) + 1 = a + ((i + 1 : Nat) : Int) := by omega
      have e2 : max 0 (b - a) - (i : Int) - 1 = max 0 (b - a) - ((i + 1 : Nat) : Int) := by omega
      rw [e1, e2]
    · cases e
  last := by
    intro f ok s m led ρ st it i o I hC ho hP e Q E P
    subst hP
    simp only [itemR, Option.some.injEq] at e
    split at e
    · cases e
    · exact wpAny_pyNext_range_end ok.hh (I.at_ ho).1 (by omega) fun h' hs => P h' s.toks hs
  go := fun A s it i o w ho hP Q E h => go_ok (T := "range_iterator") hg ho (by subst hP; rfl) (by decide) h
noncomputable def forRS (lo hi : SE) (asg : V → S → Option S) (b : SS) (n : Nat) : SS := fun S => match lo S with
  | some (.int i, st) => match hi ⟨S.lo, S.ce, st⟩ with
    | some (.int j, st) => if i.natAbs ≤ 1000000 ∧ j.natAbs ≤ 1000000 then forS (itemR i j) asg b n 0 ⟨S.lo, S.ce, st⟩ else none
    | _ => none
  | _ => none
theorem range_small {a b : Int} (h1 : a.natAbs ≤ 1000000) (h2 : b.natAbs ≤ 1000000) : Builtin.Range.small a b 1 = true ∧ Builtin.Range.rangeSize a b 1 = max 0 (b - a) := by
  have hs : Builtin.Range.rangeSize a b 1 = max 0 (b - a) := by
    unfold Builtin.Range.rangeSize
    simp
    split <;> omega
  refine ⟨?_, hs⟩
  unfold Builtin.Range.small
  rw [hs]
  unfold Builtin.Range.rangeFitsLong
  simp
  omega
structure BltName (cx : Cx) (sc : Sc) (x : Str) (v : Value) : Prop where
  no : nsIn cx.K mainGlobals x = some none
  boot : bootBuiltins x = some v
  name : x ≠ "__name__"
  kind : sc.cs.names.lookup x = some .globalImplicit
  dbg : (x == ("__debug__" : Str)) = false
theorem for_range {f : Fm} (ok : f.Ok cx d sc) {t : Expr} {body : List Stmt} {asg b} {r : Addr} {i j : Int} {t₁ u₁ v₁ : Tok} (n : Nat) (hu : SoundU cx d sc t asg) (hb : SoundB cx d sc body b) (hg : GoT t) {s : Shared} {h1 : Heap} {tk : Nat} {m led0 ρ0 led1 ρ1} {S : S} (I1 : Inv cx f h1 m led1 ρ1 S.st)
    (G1 : Grow led0 ρ0 led1 ρ1) (R1 : LR cx sc f m led1 ρ1 S.lo S.ce) (hr : IsRange h1 r i j 1 t₁ u₁ v₁) (h2 : i.natAbs ≤ 1000000) (h3 : j.natAbs ≤ 1000000) {fl S' Q} {E E' : Value → Shared → Prop} (P : PostS cx sc f led0 ρ0 S' fl Q s) (e : forS (itemR i j) asg b n 0 S = some (fl, S')) :
    wpAny cx.M f.A (pyIter (.ref r)) (fun it s₂ => codeAny cx.M f.A (.forLoop t it body [] (f.env sc)) (fun r s' => match r with | .ok fl => Q fl s' | .error e => E' e s') s₂) E (put s h1 tk) := by
  obtain ⟨q1, q2⟩ := range_small h2 h3
  refine wpAny_pyIter_range hr q1 ?_
  rw [q2]
  obtain ⟨I2, G2⟩ := I1.push (Fr.size_ne I1.N) (I1.F.push _) (I1.N.push I1.F ({ cls := .type "range_iterator", data := .fields #[rawInt i, rawInt (max 0 (j - i)), rawInt 1] } : Obj))
  exact for_loop (s := s) (led0 := led1) (ρ0 := ρ1) (tk1 := tk) (it_range hg) hu hb ok (fun p hp => Fr.size_ne I1.N p (List.mem_append_left _ hp)) (fun fw m' h' tk' led' ρ' I' G' => P fw m' h' tk' led' ρ' I' (G1.trans G')) n (i := 0) I2 G2 (R1.mono G2) (.head _) (by simp) trivial e
theorem s_for1 {t e1 : Expr} {x : Str} {xp cp : Pos} {body : List Stmt} {g : SE} {asg b} {pos : Pos} (n : Nat) (hx : BltName cx sc x (.type "range")) (h1 : SoundE cx d sc e1 g) (hu : SoundU cx d sc t asg) (hb : SoundB cx d sc body b) (hg : GoT t)
    (hs : ∀ env v, foldedSetIterable (.Call (.Name x xp) [e1] [] cp) env v = pure v) (hns : NoStars [e1])
    (hq : ∀ env, eval (.Call (.Name x xp) [e1] [] cp) env = (do
          let f ← eval (.Name x xp) env
          callWith cp f [] (backTo cp (starEach [e1] env)) (backToKw cp (keywordEach [] env)))) : SoundS cx d sc (.For t (.Call (.Name x xp) [e1] [] cp) body [] pos) (forRS (cE (.int 0)) g asg b n) := by
  refine ⟨?_⟩
  intro f ok s m led ρ S I R fl S' hg' Q E P
  unfold forRS cE at hg'
  simp only at hg'
  split at hg'
  · rename_i j st1 ej
    split at hg'
    · rename_i hb'
      refine wpAny_For (Call_ (nameB ok I hx.no hx.boot hx.name hx.kind hx.dbg ?_) (hq _)) (hs _)
      refine PyProof.Rows.callWith_type1 ?_ (hns _).2 rfl
      refine wpAny_items_cons (h1.1 f ok s m led ρ S I R _ _ ej _ _ fun w h1 tk1 led1 ρ1 I1 G1 X1 => wpAny_items_nil ?_) (hns _).2
      cases X1
      refine range1_rows (s := put s h1 tk1) I1.F I1.N fun h' tk t₁ u₁ v₁ hr F' N' _ => ?_
      exact for_range (s := s) (S := ⟨S.lo, S.ce, st1⟩) ok n hu hb hg (I1.turn F' N') G1 (R.mono G1) hr hb'.1 hb'.2 P hg'
    · cases hg'
  · cases hg'
theorem s_for2 {t e1 e2 : Expr} {x : Str} {xp cp : Pos} {body : List Stmt} {g1 g2 : SE} {asg b} {pos : Pos} (n : Nat) (hx : BltName cx sc x (.type "range")) (h1 : SoundE cx d sc e1 g1) (h2 : SoundE cx d sc e2 g2) (hu : SoundU cx d sc t asg) (hb : SoundB cx d sc body b) (hg : GoT t)
    (hs : ∀ env v, foldedSetIterable (.Call (.Name x xp) [e1, e2] [] cp) env v = pure v) (hns : NoStars [e1, e2]) (hns2 : NoStars [e2])
    (hq : ∀ env, eval (.Call (.Name x xp) [e1, e2] [] cp) env = (do
          let f ← eval (.Name x xp) env
          callWith cp f [] (backTo cp (starEach [e1, e2] env)) (backToKw cp (keywordEach [] env)))) : SoundS cx d sc (.For t (.Call (.Name x xp) [e1, e2] [] cp) body [] pos) (forRS g1 g2 asg b n) := by
  refine ⟨?_⟩
  intro f ok s m led ρ S I R fl S' hg' Q E P
  unfold forRS at hg'
  split at hg'
  · rename_i i st1 ei
    split at hg'
    · rename_i j st2 ej
      split at hg'
      · rename_i hb'
        refine wpAny_For (Call_ (nameB ok I hx.no hx.boot hx.name hx.kind hx.dbg ?_) (hq _)) (hs _)
        have hb2 : ∀ (p : Pos) (l : List (Bool × Sem Value)), (backTo p l).any (·.1) = l.any (·.1) := by
          intro p l
          show (l.map _).any _ = _
          rw [List.any_map]
          rfl
        refine PyProof.Rows.callWith_type1 ?_ (hns _).2 (by rw [hb2]; exact (hns2 _).1)
        refine wpAny_items_cons (h1.1 f ok s m led ρ S I R _ _ ei _ _ fun w1 hh1 tk1 led1 ρ1 I1 G1 X1 => ?_) (hns _).2
        refine wpAny_items_cons (h2.1 f ok (put s hh1 tk1) m led1 ρ1 ⟨S.lo, S.ce, st1⟩ I1 (R.mono G1) _ _ ej _ _ fun w2 hh2 tk2 led2 ρ2 I2 G2 X2 => wpAny_items_nil ?_) (hns2 _).2
        cases X1
        cases X2
        refine range2_rows (s := put s hh2 tk2) I2.F I2.N fun h' tk t₁ u₁ v₁ hr F' N' _ => ?_
        exact for_range (s := s) (S := ⟨S.lo, S.ce, st2⟩) ok n hu hb hg (I2.turn F' N') (G1.trans G2) (R.mono (G1.trans G2)) hr hb'.1 hb'.2 P hg'
      · cases hg'
    · cases hg'
  · cases hg'
end
end Mp
namespace Mp
section
variable {cx : Cx} {d : Nat} {sc : Sc}
noncomputable def iaddV : V → V → Option V
  | .int a, .int b => some (.int (a + b))
  | _, _ => none
noncomputable def isubV : V → V → Option V
  | .int a, .int b => some (.int (a - b))
  | _, _ => none
theorem bin_iadd : Bin cx iaddV (inplaceOp .Add) := bin_int (f := fun a b => some (.int (a + b))) fun A hh s led ρ a b t u z e Q E P => by
  cases e
  exact iadd_int (P _ _ (.int _ _))
theorem bin_isub : Bin cx isubV (inplaceOp .Sub) := bin_int (f := fun a b => some (.int (a - b))) fun A hh s led ρ a b t u z e Q E P => by
  cases e
  exact isub_int (P _ _ (.int _ _))
noncomputable def augL (i : Nat) (op : V → V → Option V) (g : SE) : SS := fun S => match bE op (lE i) g S with
  | some (v, st) => some (.next, ⟨pt S.lo i v, S.ce, st⟩)
  | none => none
theorem s_augL {i : Nat} {x : Str} {o : Operator} {op : V → V → Option V} {e : Expr} {g : SE} {np pos : Pos} (hx : LocName sc i x) (h : SoundE cx d sc e g) (hop : Bin cx op (inplaceOp o)) : SoundS cx d sc (.AugAssign (.Name x np) o e pos) (augL i op g) := by
  refine ⟨?_⟩
  intro f ok s m led ρ S I R fl S' hg Q E P
  unfold augL at hg
  try simp only [gt_eq, pt_eq, ad_eq, ln_eq] at hg
  split at hg
  · rename_i v st1 e1
    cases hg
    refine wpAny_AugAssign_Name ?_
    unfold bE lE at e1
    try simp only [gt_eq, pt_eq, ad_eq, ln_eq] at e1
    split at e1
    · rename_i x' st2 e2
      split at e2
      · cases e2
      · rename_i v' hne hv
        cases e2
        obtain ⟨w, hw, hr⟩ := R.loc i x _ hx.at_ hv hne
        refine wpAny_loadName_local ok.evk (ok.kind hx.kind) (by rw [ok.evl]; exact I.F.ns) hw ?_
        split at e1
        · rename_i y st3 e3
          split at e1
          · rename_i z ez
            cases e1
            refine h.1 f ok s m led ρ S I R _ _ e3 _ _ fun wy h2 tk2 led2 ρ2 I2 G2 X2 => ?_
            refine hop f.A ok.hh (put s h2 tk2) led2 ρ2 _ _ _ _ _ (hr.mono G2) X2 ez _ _ fun wz tk3 X3 => ?_
            exact store_loc hx ok (s := put s h2 tk3) (S := ⟨S.lo, S.ce, st1⟩) I2 (R.mono G2) X3 fun m4 h4 tk4 led4 ρ4 I4 G4 R4 => P _ _ _ _ _ _ I4 (G2.trans G4) R4 .next
          · cases e1
        · cases e1
      · cases e2
    · cases e1
  · cases hg
noncomputable def augA (c i : Nat) (op : V → V → Option V) (o g : SE) : SS := fun S => match o S with
  | some (x, st) => match getA c i x st with
    | some old => match g ⟨S.lo, S.ce, st⟩ with
      | some (y, st) => match op old y with
        | some z => match setA c i x z st with
          | some st => some (.next, ⟨S.lo, S.ce, st⟩)
          | none => none
        | none => none
      | none => none
    | none => none
  | none => none
theorem s_augA {c i : Nat} {name : Str} {o e : Expr} {op' : Operator} {op : V → V → Option V} {go g : SE} {tp pos : Pos} (ho : SoundE cx d sc o go) (a : AttrOk cx c i name) (b : SetOk cx c i name) (h : SoundE cx d sc e g) (hop : Bin cx op (inplaceOp op')) :
    SoundS cx d sc (.AugAssign (.Attribute o name tp) op' e pos) (augA c i op go g) := by
  refine ⟨?_⟩
  intro f ok s m led ρ S I R fl S' hg Q E P
  unfold augA at hg
  split at hg
  · rename_i x st1 e1
    split at hg
    · rename_i old e2
      split at hg
      · rename_i y st3 e3
        split at hg
        · rename_i z e4
          split at hg
          · rename_i st5 e5
            cases hg
            refine wpAny_AugAssign_AttributeAny (ho.1 f ok s m led ρ S I R _ _ e1 _ _ fun wo h1 tk1 led1 ρ1 I1 G1 X1 => ?_)
            refine getA_sound ok (s := put s h1 tk1) I1 a X1 e2 fun wold h2 tk2 led2 ρ2 I2 G2 X2 => ?_
            refine h.1 f ok (put s h2 tk2) m led2 ρ2 ⟨S.lo, S.ce, st1⟩ I2 (R.mono (G1.trans G2)) _ _ e3 _ _ fun wy h3 tk3 led3 ρ3 I3 G3 X3 => ?_
            refine hop f.A ok.hh (put s h3 tk3) led3 ρ3 _ _ _ _ _ (X2.mono G3) X3 e4 _ _ fun wz tk4 X4 => ?_
            refine setA_sound ok (s := put s h3 tk4) I3 b ((X1.mono G2).mono G3) X4 e5 fun h5 tk5 led5 ρ5 I5 G5 => ?_
            exact P _ _ _ _ _ _ I5 (((G1.trans G2).trans G3).trans G5) (R.mono (((G1.trans G2).trans G3).trans G5)) .next
          · cases hg
        · cases hg
      · cases hg
    · cases hg
  · cases hg
noncomputable def augI (op : V → V → Option V) (o i g : SE) : SS := fun S => match o S with
  | some (x, st) => match i ⟨S.lo, S.ce, st⟩ with
    | some (k, st) => match getI x k st with
      | some old => match g ⟨S.lo, S.ce, st⟩ with
        | some (y, st) => match op old y with
          | some z => match setI x k z st with
            | some st => some (.next, ⟨S.lo, S.ce, st⟩)
            | none => none
          | none => none
        | none => none
      | none => none
    | none => none
  | none => none
theorem s_augI {o i e : Expr} {op' : Operator} {op : V → V → Option V} {go gi g : SE} {tp pos : Pos} (ho : SoundE cx d sc o go) (hi : SoundE cx d sc i gi) (h : SoundE cx d sc e g) (hop : Bin cx op (inplaceOp op'))
    (hq : ∀ (ov iv new : Value), augStore i ov iv new = do
            holding [new, ov, iv] (setItem ov iv new)
            release [new, ov, iv] []
            pure Flow.next) :
    SoundS cx d sc (.AugAssign (.Subscript o i tp) op' e pos) (augI op go gi g) := by
  refine ⟨?_⟩
  intro f ok s m led ρ S I R fl S' hg Q E P
  unfold augI at hg
  split at hg
  · rename_i x st1 e1
    split at hg
    · rename_i k st2 e2
      split at hg
      · rename_i old e3
        split at hg
        · rename_i y st4 e4
          split at hg
          · rename_i z e5
            split at hg
            · rename_i st6 e6
              cases hg
              refine wpAny_AugAssign_SubscriptAny (ho.1 f ok s m led ρ S I R _ _ e1 _ _ fun wo h1 tk1 led1 ρ1 I1 G1 X1 => ?_) hq
              refine hi.1 f ok (put s h1 tk1) m led1 ρ1 ⟨S.lo, S.ce, st1⟩ I1 (R.mono G1) _ _ e2 _ _ fun wi h2 tk2 led2 ρ2 I2 G2 X2 => ?_
              refine (getI_sound ok (s := put s h2 tk2) I2 (X1.mono G2) X2 e3 fun wold h3 tk3 led3 ρ3 I3 G3 X3 => ?_).2
              refine h.1 f ok (put s h3 tk3) m led3 ρ3 ⟨S.lo, S.ce, st2⟩ I3 (R.mono ((G1.trans G2).trans G3)) _ _ e4 _ _ fun wy h4 tk4 led4 ρ4 I4 G4 X4 => ?_
              refine hop f.A ok.hh (put s h4 tk4) led4 ρ4 _ _ _ _ _ (X3.mono G4) X4 e5 _ _ fun wz tk5 X5 => ?_
              refine setI_sound (s := put s h4 tk5) I4 (X1.mono ((G2.trans G3).trans G4)) (X2.mono (G3.trans G4)) X5 e6 fun h6 tk6 led6 ρ6 I6 G6 => ?_
              exact P _ _ _ _ _ _ I6 ((((G1.trans G2).trans G3).trans G4).trans G6) (R.mono ((((G1.trans G2).trans G3).trans G4).trans G6)) .next
            · cases hg
          · cases hg
        · cases hg
      · cases hg
    · cases hg
  · cases hg
noncomputable def FnStep (cx : Cx) (id : Value) (g : List V → List Ob → Option V) : Prop :=
  ∀ (d : Nat) (sc : Sc) (f : Fm), f.Ok cx d sc → ∀ (s : Shared) m led ρ st, Inv cx f s.heap m led ρ st → ∀ vs ws, VRs cx led ρ vs ws → ∀ v, g vs st = some v →
    ∀ Q E, PostE cx f m led ρ st v Q s → wpAny cx.M f.A (call id ws) Q E s
noncomputable def bltE (g : List V → List Ob → Option V) (a : SEs) : SE := fun S => match a S with
  | some (vs, st) => match g vs st with
    | some v => some (v, st)
    | none => none
  | none => none
theorem b_blt {x : Str} {id : String} {xp pos : Pos} {e : Expr} {es : List Expr} {g} {ga : SEs} (hx : BltName cx sc x (.builtin id)) (hf : FnStep cx (.builtin id) g) (hes : SoundEs cx d sc (e :: es) ga) (hs : NoStars (e :: es)) (hs2 : NoStars es)
    (hq : ∀ env, eval (.Call (.Name x xp) (e :: es) [] pos) env = (do
          let f ← eval (.Name x xp) env
          callWith pos f [] (backTo pos (starEach (e :: es) env)) (backToKw pos (keywordEach [] env)))) : SoundE cx d sc (.Call (.Name x xp) (e :: es) [] pos) (bltE g ga) := by
  refine ⟨?_⟩
  intro f ok s m led ρ S I R v st' hg Q E P
  unfold bltE at hg
  split at hg
  · rename_i vs st1 e1
    split at hg
    · rename_i v' e2
      cases hg
      refine Call_ (nameB ok I hx.no hx.boot hx.name hx.kind hx.dbg ?_) (hq _)
      have hb2 : ∀ (p : Pos) (l : List (Bool × Sem Value)), (backTo p l).any (·.1) = l.any (·.1) := by
        intro p l
        show (l.map _).any _ = _
        rw [List.any_map]
        rfl
      refine PyProof.Rows.callWith_builtin1 ?_ (hs _).2 (by rw [hb2]; exact (hs2 _).1)
      exact hes.1 f ok s m led ρ S I R _ _ e1 _ _ _ fun ws h1 tk1 led1 ρ1 I1 G1 X1 => hf d sc f ok (put s h1 tk1) m led1 ρ1 _ I1 _ _ X1 _ e2 _ _ (P.next G1)
    · cases hg
  · cases hg
theorem b_bltT {x : Str} {id : String} {xp pos : Pos} {e : Expr} {es : List Expr} {g} {ga : SEs} (hx : BltName cx sc x (.type id)) (hf : FnStep cx (.type id) g) (hes : SoundEs cx d sc (e :: es) ga) (hs : NoStars (e :: es)) (hs2 : NoStars es)
    (hq : ∀ env, eval (.Call (.Name x xp) (e :: es) [] pos) env = (do
          let f ← eval (.Name x xp) env
          callWith pos f [] (backTo pos (starEach (e :: es) env)) (backToKw pos (keywordEach [] env)))) : SoundE cx d sc (.Call (.Name x xp) (e :: es) [] pos) (bltE g ga) := by
  refine ⟨?_⟩
  intro f ok s m led ρ S I R v st' hg Q E P
  unfold bltE at hg
  split at hg
  · rename_i vs st1 e1
    split at hg
    · rename_i v' e2
      cases hg
      refine Call_ (nameB ok I hx.no hx.boot hx.name hx.kind hx.dbg ?_) (hq _)
      have hb2 : ∀ (p : Pos) (l : List (Bool × Sem Value)), (backTo p l).any (·.1) = l.any (·.1) := by
        intro p l
        show (l.map _).any _ = _
        rw [List.any_map]
        rfl
      refine PyProof.Rows.callWith_type1 ?_ (hs _).2 (by rw [hb2]; exact (hs2 _).1)
      exact hes.1 f ok s m led ρ S I R _ _ e1 _ _ _ fun ws h1 tk1 led1 ρ1 I1 G1 X1 => hf d sc f ok (put s h1 tk1) m led1 ρ1 _ I1 _ _ X1 _ e2 _ _ (P.next G1)
    · cases hg
  · cases hg
noncomputable def lenG (vs : List V) (st : List Ob) : Option V := match vs with
  | [.str cs] => if cs.length ≤ 1000000 then some (.int cs.length) else none
  | [.tup xs] => if xs.length ≤ 1000000 then some (.int xs.length) else none
  | [.ref r] => match gt st r with
    | some (.list xs) => if xs.length ≤ 1000000 then some (.int xs.length) else none
    | some (.nums xs) => if xs.length ≤ 1000000 then some (.int xs.length) else none
    | _ => none
  | _ => none
theorem f_len : FnStep cx (.builtin "len") lenG := by
  intro d sc f ok s m led ρ st I vs ws X v e Q E P
  cases X with
  | nil => simp [lenG] at e
  | cons a r =>
    cases r with
    | cons b r => cases a <;> simp [lenG] at e
    | nil =>
      cases a <;> simp only [lenG, reduceCtorEq, gt_eq, pt_eq, ad_eq, ln_eq] at e
      · split at e
        · rename_i hl
          cases e
          rename_i cs t
          have hlen : Str.length ⟨cs.toArray⟩ = cs.length := by show cs.toArray.size = _; simp
          refine len_str (by rw [hlen]; omega) ?_
          rw [hlen]
          exact P _ _ _ _ _ I (.refl _ _) (.int _ _)
        · cases e
      · rename_i r a dd hr
        split at e
        · rename_i xs hst
          split at e
          · rename_i hl
            cases e
            obtain ⟨a', ws, n, h1, h2, h3⟩ := I.ob _ _ hst
            rw [hr] at h1
            cases h1
            have hsz : ws.size = xs.length := by rw [h3.length]; simp
            refine call_len_list (list_at I h2) (by rw [hsz]; omega) ?_
            rw [hsz]
            exact P _ _ _ _ _ I (.refl _ _) (.int _ _)
          · cases e
        · rename_i xs hst
          split at e
          · rename_i hl
            cases e
            obtain ⟨a', ws, n, h1, h2, h3⟩ := I.ob _ _ hst
            rw [hr] at h1
            cases h1
            have hsz : ws.size = xs.length := by have := (h3 led ρ).length; simp at this; omega
            refine call_len_list (list_at I h2) (by rw [hsz]; omega) ?_
            rw [hsz]
            exact P _ _ _ _ _ I (.refl _ _) (.int _ _)
          · cases e
        · cases e
      · rename_i xs ws a n hm r
        split at e
        · rename_i hl
          cases e
          have hsz : ws.length = xs.length := r.length.symm
          refine len_tuple (tup_at ok I hm) (by rw [List.size_toArray, hsz]; omega) ?_
          rw [List.size_toArray, hsz]
          exact P _ _ _ _ _ I (.refl _ _) (.int _ _)
        · cases e
noncomputable def minG (vs : List V) (_ : List Ob) : Option V := match vs with
  | [.int a, .int b] => some (.int (if b < a then b else a))
  | _ => none
theorem f_min : FnStep cx (.builtin "min") minG := by
  intro d sc f ok s m led ρ st I vs ws X v e Q E P
  unfold minG at e
  split at e
  · rename_i a b
    cases e
    cases X with
    | cons X1 X =>
      cases X with
      | cons X2 X =>
        cases X
        cases X1
        cases X2
        exact min_two_N ok.hh I.F I.N fun h' tk F' N' => P _ _ _ _ _ (I.turn F' N') (.refl _ _) (.int _ _)
  · cases e
noncomputable def ordG (vs : List V) (_ : List Ob) : Option V := match vs with
  | [.str [c]] => some (.int c)
  | _ => none
theorem f_ord : FnStep cx (.builtin "ord") ordG := by
  intro d sc f ok s m led ρ st I vs ws X v e Q E P
  unfold ordG at e
  split at e
  · rename_i c
    cases e
    cases X with
    | cons X1 X =>
      cases X
      cases X1
      exact ord_of_one rfl (P _ _ _ _ _ I (.refl _ _) (.int _ _))
  · cases e
noncomputable def intG (vs : List V) (_ : List Ob) : Option V := match vs with
  | [.bool b] => some (.int (if b then 1 else 0))
  | _ => none
theorem f_int : FnStep cx (.type "int") intG := by
  intro d sc f ok s m led ρ st I vs ws X v e Q E P
  unfold intG at e
  split at e
  · rename_i b
    cases e
    cases X with
    | cons X1 X =>
      cases X
      cases X1
      exact call_int_bool (P _ _ _ _ _ I (.refl _ _) (.int _ _))
  · cases e
noncomputable def inV : V → V → Option V
  | .str [c], .str x => some (.bool (x.contains c))
  | _, _ => none
theorem bin_in : Bin cx inV (compareOp .In) := by
  intro A hh s led ρ x y z wx wy X Y e Q E P
  unfold inV at e
  split at e
  · rename_i c xs
    cases e
    cases X
    cases Y
    refine in_str ?_
    have := StrLaws.found_one ⟨xs.toArray⟩ c
    rw [show (⟨[c].toArray⟩ : Str) = ⟨#[c]⟩ from rfl, this]
    have hd : decide (c ∈ (⟨xs.toArray⟩ : Str).cps.toList) = xs.contains c := by
      rw [Bool.eq_iff_iff]
      simp
    rw [hd]
    exact P _ s.toks (.bool _)
  · cases e
theorem notIn_of {M : Model} {A : Around} {a b : Value} {Q : Value → Shared → Prop} {E} {s : Shared} (h : wpAny M A (compareOp .In a b) (fun v s' => ∀ c, v = .bool c → Q (.bool (!c)) s') E s) : wpAny M A (compareOp .NotIn a b) Q E s := by
  intro Γ p hΓ
  have := h Γ p hΓ
  show Sem.wp M Γ (contains b a >>= fun r => pure (Value.bool !r)) _ _ p s
  rw [Sem.wp_bind']
  have h2 : Sem.wp M Γ (contains b a >>= fun r => pure (Value.bool r)) (fun v x s' => ∀ c, v = .bool c → Q (.bool (!c)) s') (fun e x s' => E e s') p s := this
  rw [Sem.wp_bind'] at h2
  refine Sem.wp_mono M Γ _ (fun r p' s' hr => ?_) (fun _ _ _ x => x) p s h2
  simp only [Sem.wp_pure'] at hr ⊢
  exact hr r rfl
noncomputable def notV (op : V → V → Option V) : V → V → Option V := fun a b => match op a b with
  | some (.bool c) => some (.bool (!c))
  | _ => none
theorem bin_notIn {op} (h : Bin cx op (compareOp .In)) : Bin cx (notV op) (compareOp .NotIn) := by
  intro A hh s led ρ x y z wx wy X Y e Q E P
  unfold notV at e
  split at e
  · rename_i c e1
    cases e
    refine notIn_of (h A hh s led ρ x y _ wx wy X Y e1 _ _ fun w tk X' c' hc => ?_)
    cases X'
    cases hc
    exact P _ tk (.bool _)
  · cases e
end
end Mp
namespace Mp
theorem list_ne_lengths (l b : Addr) (items items2 : Array Value) (n n2 : Nat) (hc0 : (items.size != items2.size) = true) :
    Meets (Builtin.«list.__ne__» ⟨[.ref l, .ref b], []⟩)
      (fun _ R s => s.heap.get? l = some { cls := .type "list", data := .seq items n } ∧ s.heap.get? b = some { cls := .type "list", data := .seq items2 n2 } ∧
        R (.ok (.ret (.bool true))) s) :=
  .of_wp fun prog w A R s h => by
    obtain ⟨hp, g, d, tk, os⟩ := s; obtain ⟨hl, hb, h⟩ := h
    have f3 := AutoSeq1.sub_list_list
    wp_walk using wpAny_loadPart' hl, wpAny_loadPart' hb
    exact ⟨_, rfl, h⟩
theorem eq_loop_plain : plainId "list.__eq__.loop" = true := by decide +kernel
theorem eq_loop_entry : entryFor table "list.__eq__.loop" = some Builtin.«list.__eq__.loop» := entryFor_of_fast (by kernel_rfl)
theorem ne_loop_empty (l b : Addr) (n n2 : Nat) :
    Meets (Builtin.«list.__eq__.loop» ⟨[.ref l, .ref b, rawInt 0, rawInt 3], []⟩)
      (fun _ R s => s.heap.get? l = some { cls := .type "list", data := .seq #[] n } ∧ s.heap.get? b = some { cls := .type "list", data := .seq #[] n2 } ∧
        R (.ok (.ret (.bool false))) s) := by
  intro prog w A R s h
  obtain ⟨hp, g, d, tk, os⟩ := s; obtain ⟨hl, hb, h⟩ := h
  wp_walk using wpAny_loadPart' hl, wpAny_loadPart' hb
  exact h
theorem list_ne_empty (l b : Addr) (n n2 : Nat) :
    Meets (Builtin.«list.__ne__» ⟨[.ref l, .ref b], []⟩)
      (fun _ R s => s.heap.get? l = some { cls := .type "list", data := .seq #[] n } ∧ s.heap.get? b = some { cls := .type "list", data := .seq #[] n2 } ∧
        R (.ok (.ret (.bool false))) s) := by
  intro prog w A R s h
  obtain ⟨hp, g, d, tk, os⟩ := s; obtain ⟨hl, hb, h⟩ := h
  have f3 := AutoSeq1.sub_list_list
  wp_walk using wpAny_loadPart' hl, wpAny_loadPart' hb
  exact ⟨plainId_quiet eq_loop_plain _, codeAny_builtin eq_loop_entry (by
    rw [Around.under_plainId eq_loop_plain _]
    exact ne_loop_empty l b n n2 prog w A R _ ⟨hl, hb, by simpa using h⟩)⟩
end Mp
namespace Mp
noncomputable def BinH (cx : Cx) (op : V → V → List Ob → Option (V × List Ob)) (tree : Value → Value → Sem Value) : Prop :=
  ∀ (d : Nat) (sc : Sc) (f : Fm), f.Ok cx d sc → ∀ (s : Shared) m led ρ st, Inv cx f s.heap m led ρ st → ∀ x y z st' wx wy, VR cx led ρ x wx → VR cx led ρ y wy → op x y st = some (z, st') →
    ∀ Q E, PostE cx f m led ρ st' z Q s → wpAny cx.M f.A (tree wx wy) Q E s
noncomputable def hE (op : V → V → List Ob → Option (V × List Ob)) (a b : SE) : SE := fun S => match a S with
  | some (x, st) => match b ⟨S.lo, S.ce, st⟩ with
    | some (y, st) => op x y st
    | none => none
  | none => none
section
variable {cx : Cx} {d : Nat} {sc : Sc}
theorem two_h {a b : Expr} {ga gb : SE} {op} {tree : Value → Value → Sem Value} (ha : SoundE cx d sc a ga) (hb : SoundE cx d sc b gb) (hop : BinH cx op tree) :
    ∀ (f : Fm), f.Ok cx d sc → ∀ (s : Shared) m led ρ (S₀ : S), Inv cx f s.heap m led ρ S₀.st → LR cx sc f m led ρ S₀.lo S₀.ce → ∀ v st', hE op ga gb S₀ = some (v, st') →
    ∀ Q E, PostE cx f m led ρ st' v Q s → wpAny cx.M f.A (eval a (f.env sc)) (fun x s₁ => wpAny cx.M f.A (eval b (f.env sc)) (fun y s₂ => wpAny cx.M f.A (tree x y) Q E s₂) E s₁) E s := by
  intro f ok s m led ρ S I R v st' hg Q E P
  unfold hE at hg
  split at hg
  · rename_i x st1 ea
    split at hg
    · rename_i y st2 eb
      refine ha.1 f ok s m led ρ S I R x st1 ea _ _ fun wx h1 tk1 led1 ρ1 I1 G1 X1 => ?_
      refine hb.1 f ok (put s h1 tk1) m led1 ρ1 ⟨S.lo, S.ce, st1⟩ I1 (R.mono G1) y _ eb _ _ fun wy h2 tk2 led2 ρ2 I2 G2 X2 => ?_
      exact hop d sc f ok (put s h2 tk2) m led2 ρ2 st2 I2 x y _ _ wx wy (X1.mono G2) X2 hg _ _ (P.next (G1.trans G2))
    · cases hg
  · cases hg
theorem h_op {l r : Expr} {gl gr : SE} {o : Operator} {op} {pos : Pos} (hl : SoundE cx d sc l gl) (hr : SoundE cx d sc r gr) (hop : BinH cx op (binaryOp o)) :
    SoundE cx d sc (.BinOp l o r pos) (hE op gl gr) := ⟨fun f ok s m led ρ S I R v st' hg Q E P =>
  wpAny_BinOp (two_h hl hr hop f ok s m led ρ S I R v st' hg Q E P)⟩
theorem ht_cmp {l r : Expr} {gl gr : SE} {o : CmpOp} {op} {pos : Pos} (hl : SoundE cx d sc l gl) (hr : SoundE cx d sc r gr) (hop : BinH cx op (compareOp o)) (hm : behindInMarks o r = false) :
    SoundT cx d sc (.Compare l [o] [r] pos) (tE (hE op gl gr)) := by
  refine ⟨?_⟩
  intro f ok s m led ρ S I R b st' hg Q E P
  unfold tE at hg
  split at hg
  · rename_i b' st1 e1
    cases hg
    refine wpAny_isTrue_Compare1 ?_ hm
    refine wpAny_mono (two_h hl hr hop f ok s m led ρ S I R _ _ e1 (fun c s₃ => wpAny cx.M f.A (truthy c) Q E s₃) E fun w h' tk' led' ρ' I' G' X' => ?_) (fun x s₁ hx => ?_) fun _ _ x => x
    · cases X'
      exact wpAny_truthy_bool (P _ _ _ _ I' G')
    · exact wpAny_mono hx (fun y s₂ hy => hy) fun _ _ x => x
  · cases hg
theorem PostE.here {f : Fm} {m led ρ st v Q} {s : Shared} {tk} (I : Inv cx f s.heap m led ρ st) (P : PostE cx f m led ρ st v Q s) {w} (X : VR cx led ρ v w) : Q w (put s s.heap tk) := P _ _ _ _ _ I (.refl _ _) X
noncomputable def neL (a b : V) (st : List Ob) : Option (V × List Ob) := match a, b with
  | .ref r, .ref q => match gt st r, gt st q with
    | some (.list xs), some (.list ys) => if xs.length ≠ ys.length then some (.bool true, st) else if xs.length = 0 then some (.bool false, st) else none
    | _, _ => none
  | _, _ => none
noncomputable def eqL (a b : V) (st : List Ob) : Option (V × List Ob) := match a, b with
  | .ref r, .ref q => match gt st r, gt st q with
    | some (.list xs), some (.list ys) => if xs.length ≠ ys.length then some (.bool false, st) else if xs.length = 0 then some (.bool true, st) else none
    | _, _ => none
  | _, _ => none
theorem binh_ne : BinH cx neL (compareOp .NotEq) := by
  intro d sc f ok s m led ρ st I x y z st' wx wy X Y e Q E P
  unfold neL at e
  try simp only [gt_eq, pt_eq, ad_eq, ln_eq] at e
  split at e
  · rename_i r q
    split at e
    · rename_i xs ys h1 h2
      cases X with
      | ref _ a _ hr =>
        cases Y with
        | ref _ b _ hq =>
          obtain ⟨a', ws, n, p1, p2, p3⟩ := I.ob _ _ h1
          obtain ⟨b', us, k, q1, q2, q3⟩ := I.ob _ _ h2
          rw [hr] at p1
          rw [hq] at q1
          cases p1
          cases q1
          have hsz : ws.size = xs.length := by rw [p3.length]; simp
          have hsz2 : us.size = ys.length := by rw [q3.length]; simp
          have ha := (I.at_ p2).1
          have hb := (I.at_ q2).1
          have hu : f.A.units < 9900 := by have := ok.un; omega
          show wpAny cx.M f.A (richCompare .NotEq (.ref a) (.ref b)) Q E s
          split at e
          · rename_i hne
            cases e
            exact richCompare_meets_room (op := .NotEq) ⟨_, ha, rfl⟩ ⟨_, hb, rfl⟩ F.slot_list_ne F.entry_list_ne (F.args_list_ne_2 _ _) (list_ne_lengths a b ws us n k (by simp [hsz, hsz2, hne]))
              ⟨ha, hb, show Value.bool true ≠ Value.notImplemented ∧ Q (.bool true) s from ⟨(fun x => nomatch x), P.here (tk := s.toks) I (.bool _)⟩⟩ hu
          · split at e
            · rename_i hne h0
              cases e
              have : xs.length = ys.length := by omega
              have e1 : ws = #[] := Array.size_eq_zero_iff.mp (by omega)
              have e2 : us = #[] := Array.size_eq_zero_iff.mp (by omega)
              subst e1
              subst e2
              exact richCompare_meets_room (op := .NotEq) ⟨_, ha, rfl⟩ ⟨_, hb, rfl⟩ F.slot_list_ne F.entry_list_ne (F.args_list_ne_2 _ _) (list_ne_empty a b n k)
                ⟨ha, hb, show Value.bool false ≠ Value.notImplemented ∧ Q (.bool false) s from ⟨(fun x => nomatch x), P.here (tk := s.toks) I (.bool _)⟩⟩ hu
            · cases e
    · cases e
  · cases e
theorem binh_eq : BinH cx eqL (compareOp .Eq) := by
  intro d sc f ok s m led ρ st I x y z st' wx wy X Y e Q E P
  unfold eqL at e
  try simp only [gt_eq, pt_eq, ad_eq, ln_eq] at e
  split at e
  · rename_i r q
    split at e
    · rename_i xs ys h1 h2
      cases X with
      | ref _ a _ hr =>
        cases Y with
        | ref _ b _ hq =>
          obtain ⟨a', ws, n, p1, p2, p3⟩ := I.ob _ _ h1
          obtain ⟨b', us, k, q1, q2, q3⟩ := I.ob _ _ h2
          rw [hr] at p1
          rw [hq] at q1
          cases p1
          cases q1
          have hsz : ws.size = xs.length := by rw [p3.length]; simp
          have hsz2 : us.size = ys.length := by rw [q3.length]; simp
          have hu : f.A.units < cLine := by have := ok.un; show f.A.units < 9900; omega
          split at e
          · rename_i hne
            cases e
            exact SeqAt.eq_list_lengthsAt (list_at I p2) (list_at I q2) (by simp [hsz, hsz2, hne]) hu (P.here (tk := s.toks) I (.bool _))
          · split at e
            · rename_i hne h0
              cases e
              have : xs.length = ys.length := by omega
              have e1 : ws = #[] := Array.size_eq_zero_iff.mp (by omega)
              have e2 : us = #[] := Array.size_eq_zero_iff.mp (by omega)
              subst e1
              subst e2
              exact SeqAt.eq_listAt (e := fun _ => true) (list_at I p2) (list_at I q2) rfl hu (fun j h1 => absurd h1 (Nat.not_lt_zero _)) (P.here (tk := s.toks) I (.bool true))
            · cases e
    · cases e
  · cases e
noncomputable def strsOf : List V → Option (List (List Nat))
  | [] => some []
  | .str a :: r => (strsOf r).map (a :: ·)
  | _ => none
theorem strsAre_of {cx led ρ vs ws ys} (X : VRs cx led ρ vs ws) (h : strsOf vs = some ys) : StrsAre ws (ys.map fun y => ⟨y.toArray⟩) := by
  induction vs generalizing ws ys with
  | nil => cases X; cases h; exact .nil
  | cons v vs ih =>
    cases X with
    | cons a r =>
      cases a <;> simp only [strsOf, reduceCtorEq] at h
      obtain ⟨zs, hz, rfl⟩ := Option.map_eq_some_iff.mp h
      exact .cons _ _ (ih r hz)
noncomputable def inT (a b : V) (st : List Ob) : Option (V × List Ob) := match a, b with
  | .str x, .tup vs => match strsOf vs with
    | some ys => some (.bool (ys.contains x), st)
    | none => none
  | _, _ => none
theorem binh_in : BinH cx inT (compareOp .In) := by
  intro d sc f ok s m led ρ st I x y z st' wx wy X Y e Q E P
  unfold inT at e
  split at e
  · rename_i xs vs
    split at e
    · rename_i ys hy
      cases e
      cases X
      cases Y with
      | tup _ ws a n hm r =>
        refine in_tuple_strs (tup_at ok I hm) (by simpa using strsAre_of r hy) ?_
        have : ((ys.map fun y => (⟨y.toArray⟩ : Str)).any fun z => z == ⟨xs.toArray⟩) = ys.contains xs := by
          rw [List.any_map, Bool.eq_iff_iff]
          simp [Function.comp_def]
        rw [this]
        exact P.here (tk := s.toks) I (.bool _)
    · cases e
  · cases e
noncomputable def notH (op : V → V → List Ob → Option (V × List Ob)) : V → V → List Ob → Option (V × List Ob) := fun a b st => match op a b st with
  | some (.bool c, st) => some (.bool (!c), st)
  | _ => none
theorem binh_notIn {op} (h : BinH cx op (compareOp .In)) : BinH cx (notH op) (compareOp .NotIn) := by
  intro d sc f ok s m led ρ st I x y z st' wx wy X Y e Q E P
  unfold notH at e
  split at e
  · rename_i c st1 e1
    cases e
    refine notIn_of (h d sc f ok s m led ρ st I x y _ _ wx wy X Y e1 _ _ fun w h' tk led' ρ' I' G' X' c' hc => ?_)
    cases X'
    cases hc
    exact P _ _ _ _ _ I' G' (.bool _)
  · cases e
noncomputable def mulL (a b : V) (st : List Ob) : Option (V × List Ob) := match a, b with
  | .ref r, .int n => match gt st r with
    | some (.list [v]) => if 0 ≤ n ∧ n ≤ 1000 then some (.ref (ln st), ad st (.list (List.replicate n.toNat v))) else none
    | _ => none
  | _, _ => none
theorem VRs.replicate {cx led ρ v w} (X : VR cx led ρ v w) : ∀ n, VRs cx led ρ (List.replicate n v) (List.replicate n w)
  | 0 => .nil
  | n + 1 => .cons X (VRs.replicate X n)
theorem binh_mul : BinH cx mulL (binaryOp .Mult) := by
  intro d sc f ok s m led ρ st I x y z st' wx wy X Y e Q E P
  unfold mulL at e
  try simp only [gt_eq, pt_eq, ad_eq, ln_eq] at e
  split at e
  · rename_i r n
    split at e
    · rename_i v h1
      split at e
      · rename_i hn
        cases e
        cases X with
        | ref _ a _ hr =>
          cases Y
          obtain ⟨a', ws, k, p1, p2, p3⟩ := I.ob _ _ h1
          rw [hr] at p1
          cases p1
          have hsz : ws.size = 1 := by have := p3.length; simp at this; omega
          obtain ⟨w, hw⟩ : ∃ w, ws = #[w] := by
            obtain ⟨l⟩ := ws
            cases l with
            | nil => simp at hsz
            | cons w l => cases l with
              | nil => exact ⟨w, rfl⟩
              | cons _ _ => simp at hsz
          subst hw
          cases p3 with
          | cons X1 _ =>
            refine mul_list I.F I.N (I.at_ p2).1 (by omega) (by omega) (by simp; omega) fun h' F' N' => ?_
            have hfold : List.foldl (fun x1 x2 => x1 ++ x2) #[] (List.replicate (if (#[w] : Array Value).isEmpty = true then 0 else n.toNat) #[w]) = (List.replicate n.toNat w).toArray := by
              have key : ∀ (k : Nat) (acc : List Value), List.foldl (fun x1 x2 => x1 ++ x2) acc.toArray (List.replicate k #[w]) = (acc ++ List.replicate k w).toArray := by
                intro k
                induction k with
                | zero => intro acc; simp
                | succ k ih =>
                  intro acc
                  rw [List.replicate_succ, List.foldl_cons]
                  have : acc.toArray ++ #[w] = (acc ++ [w]).toArray := by simp
                  rw [this, ih]
                  simp [List.replicate_succ]
              have := key n.toNat []
              simpa using this
            rw [hfold] at N'
            obtain ⟨I', G'⟩ := I.newList F' N' (fun p hp => Heap.lt_size (I.N p hp).1) (VRs.replicate X1 n.toNat)
            exact P _ _ s.toks _ _ I' G' (.ref _ _ s.heap.objs.size (by rw [← I.len]; simp))
      · cases e
    · cases e
  · cases e
end
end Mp
namespace Mp
noncomputable def MethForm (o : Expr) (name : Str) (apos pos : Pos) (es : List Expr) (pl : Env → Sem Bool) : Prop := ∀ env, eval (.Call (.Attribute o name apos) es [] pos) env = (do
      let ov ← eval o env
      standAt apos.atName
      let (f, first) ← holding [ov] (getMethod ov name (pl env))
      callWith pos f first (backTo pos (starEach es env)) [])
section
variable {cx : Cx} {d : Nat} {sc : Sc}
noncomputable def isListAt (r : Nat) (st : List Ob) : Bool := match gt st r with
  | some (.list _) => true
  | _ => false
theorem isListAt_get {f : Fm} {h m led ρ st} (I : Inv cx f h m led ρ st) {r : Nat} {a dd : Addr} (hr : ρ[r]? = some (a, dd)) (hl : isListAt r st = true) : ∃ ws n, (a, PySem.W.listOf ws n) ∈ led := by
  unfold isListAt at hl
  try simp only [gt_eq, pt_eq, ad_eq, ln_eq] at hl
  split at hl
  · rename_i vs hst
    obtain ⟨a', ws, n, h1, h2, _⟩ := I.ob _ _ hst
    rw [hr] at h1
    cases h1
    exact ⟨ws, n, h2⟩
  · cases hl
noncomputable def appendE (o a : SE) : SE := fun S => match o S with
  | some (.ref r, st) => if isListAt r st then (match a ⟨S.lo, S.ce, st⟩ with
    | some (v, st) => match gt st r with
      | some (.list vs) => if vs.length ≤ 1000000 then some (.none, pt st r (.list (vs ++ [v]))) else none
      | _ => none
    | none => none) else none
  | _ => none
theorem b_append {o e : Expr} {apos pos : Pos} {go ga : SE} {pl : Env → Sem Bool} (ho : SoundE cx d sc o go) (he : SoundE cx d sc e ga) (hs : NoStars [e]) (hq : MethForm o "append" apos pos [e] pl) : SoundE cx d sc (.Call (.Attribute o "append" apos) [e] [] pos) (appendE go ga) := by
  refine ⟨?_⟩
  intro f ok s m led ρ S I R v st' hg Q E P
  unfold appendE at hg
  try simp only [gt_eq, pt_eq, ad_eq, ln_eq] at hg
  split at hg
  · rename_i r st1 e1
    split at hg
    · rename_i hl1
      split at hg
      · rename_i v2 st2 e2
        split at hg
        · rename_i vs hst
          split at hg
          · rename_i hlen
            cases hg
            refine MethodCall_ (pl := pl f.ev) (ho.1 f ok s m led ρ S I R _ _ e1 _ _ fun w h1 tk1 led1 ρ1 I1 G1 X1 => ?_) (hq _)
            cases X1 with
            | ref _ a dd hr =>
              obtain ⟨ws0, n0, hm0⟩ := isListAt_get I1 hr hl1
              refine kl_method I1.N (List.mem_append_left _ hm0) F.slot_list_append F.type_list_append ?_
              refine PyProof.Rows.callWith_method1 ?_ (hs _).2 rfl
              refine wpAny_items_cons (he.1 f ok (put s h1 tk1) m led1 ρ1 ⟨S.lo, S.ce, st1⟩ I1 (R.mono G1) _ _ e2 _ _ fun w2 h2 tk2 led2 ρ2 I2 G2 X2 => wpAny_items_nil ?_) (hs _).2
              obtain ⟨a', ws, n, q1, q2, q3⟩ := I2.ob _ _ hst
              rw [G2.at hr] at q1
              cases q1
              refine append_K (s := put s h2 tk2) I2.F I2.N (I2.upd q2) (fun h' F' N' => ?_) (by have := q3.length; simp at this; rw [sizeLine_eq]; omega)
              obtain ⟨I', G'⟩ := I2.store (G2.at hr) q2 rfl F' N' (ob := .list (vs ++ [v2])) fun g => ⟨a, _, _, G2.at hr, updL_self q2, by
                have := (q3.append (VRs.cons X2 .nil)).mono g
                simpa using this⟩
              exact P _ _ _ _ _ I' ((G1.trans G2).trans G') .none
          · cases hg
        · cases hg
      · cases hg
    · cases hg
  · cases hg
noncomputable def popE (o : SE) : SE := fun S => match o S with
  | some (.ref r, st) => match gt st r with
    | some (.list vs) => match vs.getLast? with
      | some v => if vs.length ≤ 1000000 then some (v, pt st r (.list vs.dropLast)) else none
      | none => none
    | _ => none
  | _ => none
theorem VRs.last {cx led ρ} {vs ws} {v : V} (X : VRs cx led ρ vs ws) (h : vs.getLast? = some v) : ∃ p w, ws = p ++ [w] ∧ VR cx led ρ v w ∧ VRs cx led ρ vs.dropLast p := by
  have hne : vs ≠ [] := by rintro rfl; simp at h
  have hl := X.length
  have hpos : 0 < vs.length := List.length_pos_iff.mpr hne
  have hwne : ws ≠ [] := by intro hws; rw [hws] at hl; simp at hl; exact hne hl
  obtain ⟨w, hw, hws⟩ : ∃ w, ws.getLast? = some w ∧ ws = ws.dropLast ++ [w] := ⟨ws.getLast hwne, List.getLast?_eq_some_getLast hwne, (List.dropLast_concat_getLast hwne).symm⟩
  refine ⟨ws.dropLast, w, hws, ?_, ?_⟩
  · rw [List.getLast?_eq_getElem?] at h hw
    obtain ⟨w', q1, q2⟩ := X.get h
    rw [hl] at q1
    rw [hw] at q1
    cases q1
    exact q2
  · rw [List.dropLast_eq_take, List.dropLast_eq_take, ← hl]
    exact X.take _
theorem b_pop {o : Expr} {apos pos : Pos} {go : SE} {pl : Env → Sem Bool} (ho : SoundE cx d sc o go) (hq : MethForm o "pop" apos pos [] pl) : SoundE cx d sc (.Call (.Attribute o "pop" apos) [] [] pos) (popE go) := by
  refine ⟨?_⟩
  intro f ok s m led ρ S I R v st' hg Q E P
  unfold popE at hg
  try simp only [gt_eq, pt_eq, ad_eq, ln_eq] at hg
  split at hg
  · rename_i r st1 e1
    split at hg
    · rename_i vs hst
      split at hg
      · rename_i v2 hlast
        split at hg
        · rename_i hlen
          cases hg
          refine MethodCall_ (pl := pl f.ev) (ho.1 f ok s m led ρ S I R _ _ e1 _ _ fun w h1 tk1 led1 ρ1 I1 G1 X1 => ?_) (hq _)
          cases X1 with
          | ref _ a dd hr =>
            obtain ⟨a', ws, n, q1, q2, q3⟩ := I1.ob _ _ hst
            rw [hr] at q1
            cases q1
            obtain ⟨p, w', hw, X2, X3⟩ := q3.last hlast
            refine kl_method I1.N (List.mem_append_left _ q2) F.slot_list_pop F.type_list_pop ?_
            refine PyProof.Rows.callWith_method0 ?_
            refine kl_pop (s := put s h1 tk1) I1.F I1.N (p := p) (y := w') (by rw [hw]; exact kpa_last w' p) (I1.upd q2) (by have := q3.length; rw [sizeLine_eq]; omega) fun h' F' N' => ?_
            obtain ⟨I', G'⟩ := I1.store hr q2 rfl F' N' (ob := .list vs.dropLast) fun g => ⟨a, _, _, hr, updL_self q2, by simpa using X3.mono g⟩
            exact P _ _ _ _ _ I' (G1.trans G') (X2.mono G')
        · cases hg
      · cases hg
    · cases hg
  · cases hg
noncomputable def extendE (o a : SE) : SE := fun S => match o S with
  | some (.ref r, st) => if isListAt r st then (match a ⟨S.lo, S.ce, st⟩ with
    | some (.ref q, st) => match gt st r, gt st q with
      | some (.list vs), some (.list us) => if vs.length + us.length ≤ 1000000 then some (.none, pt st r (.list (vs ++ us))) else none
      | _, _ => none
    | _ => none) else none
  | _ => none
theorem b_extend {o e : Expr} {apos pos : Pos} {go ga : SE} {pl : Env → Sem Bool} (ho : SoundE cx d sc o go) (he : SoundE cx d sc e ga) (hs : NoStars [e]) (hq : MethForm o "extend" apos pos [e] pl) : SoundE cx d sc (.Call (.Attribute o "extend" apos) [e] [] pos) (extendE go ga) := by
  refine ⟨?_⟩
  intro f ok s m led ρ S I R v st' hg Q E P
  unfold extendE at hg
  try simp only [gt_eq, pt_eq, ad_eq, ln_eq] at hg
  split at hg
  · rename_i r st1 e1
    split at hg
    · rename_i hl1
      split at hg
      · rename_i q st2 e2
        split at hg
        · rename_i vs us hst hsu
          split at hg
          · rename_i hlen
            cases hg
            refine MethodCall_ (pl := pl f.ev) (ho.1 f ok s m led ρ S I R _ _ e1 _ _ fun w h1 tk1 led1 ρ1 I1 G1 X1 => ?_) (hq _)
            cases X1 with
            | ref _ a dd hr =>
              obtain ⟨ws0, n0, hm0⟩ := isListAt_get I1 hr hl1
              refine kl_method I1.N (List.mem_append_left _ hm0) F.slot_list_extend F.type_list_extend ?_
              refine PyProof.Rows.callWith_method1 ?_ (hs _).2 rfl
              refine wpAny_items_cons (he.1 f ok (put s h1 tk1) m led1 ρ1 ⟨S.lo, S.ce, st1⟩ I1 (R.mono G1) _ _ e2 _ _ fun w2 h2 tk2 led2 ρ2 I2 G2 X2 => wpAny_items_nil ?_) (hs _).2
              cases X2 with
              | ref _ b _ hqq =>
                obtain ⟨a', ws, n, q1, q2, q3⟩ := I2.ob _ _ hst
                rw [G2.at hr] at q1
                cases q1
                obtain ⟨b', zs, k, p1, p2, p3⟩ := I2.ob _ _ hsu
                rw [hqq] at p1
                cases p1
                obtain ⟨pre, post, z1, z2, z3, z4⟩ := (I2.upd (o' := PySem.W.listOf (ws.toList ++ zs.toList).toArray 0) q2).split
                have hN := I2.N
                rw [z1] at hN
                obtain ⟨wl⟩ := ws
                have hsz : wl.toArray.size + zs.size ≤ sizeLine := by
                  have h5 := q3.length
                  have h6 := p3.length
                  have h7 : zs.size = us.length := by rw [h6]; simp
                  rw [sizeLine_eq]
                  simp at h5
                  simp
                  omega
                refine extend_in (s := put s h2 tk2) (ys := wl) I2.F hN z3 z4 (I2.at_ p2).1 (fun h' n' F' N' => ?_) hsz
                obtain ⟨pre', post', y1, y2, y3, y4⟩ := (I2.upd (o' := PySem.W.listOf (wl ++ zs.toList).toArray n') q2).split
                have hsame : pre' = pre ∧ post' = post := by
                  have e3 : pre ++ (a, PySem.W.listOf wl.toArray n) :: post = pre' ++ (a, PySem.W.listOf wl.toArray n) :: post' := z1.symm.trans y1
                  have key : ∀ (pre pre' : Led), (∀ p ∈ pre, p.1 ≠ a) → (∀ p ∈ pre', p.1 ≠ a) → pre ++ (a, PySem.W.listOf wl.toArray n) :: post = pre' ++ (a, PySem.W.listOf wl.toArray n) :: post' → pre' = pre ∧ post' = post := by
                    intro pre
                    induction pre with
                    | nil =>
                      intro pre' _ h2 e
                      cases pre' with
                      | nil => simp at e; exact ⟨rfl, e.symm⟩
                      | cons p r => simp at e; exact absurd (e.1 ▸ rfl) (h2 p (.head _))
                    | cons p r ih =>
                      intro pre' h1 h2 e
                      cases pre' with
                      | nil => simp at e; exact absurd (e.1 ▸ rfl) (h1 p (.head _))
                      | cons p' r' =>
                        simp only [List.cons_append, List.cons.injEq] at e
                        obtain ⟨i1, i2⟩ := ih r' (fun q hq => h1 q (.tail _ hq)) (fun q hq => h2 q (.tail _ hq)) e.2
                        exact ⟨by rw [e.1, i1], i2⟩
                  exact key pre pre' z3 y3 e3
                obtain ⟨rfl, rfl⟩ := hsame
                rw [← y2] at N'
                obtain ⟨I', G'⟩ := I2.store (G2.at hr) q2 rfl F' N' (ob := .list (vs ++ us)) fun g => ⟨a, _, _, G2.at hr, updL_self q2, by
                  have := (q3.append p3).mono g
                  simpa using this⟩
                exact P _ _ _ _ _ I' ((G1.trans G2).trans G') .none
          · cases hg
        · cases hg
      · cases hg
    · cases hg
  · cases hg
end
end Mp
namespace Mp
theorem join_empty (ys : List (List Nat)) : Txt.join ⟨([] : List Nat).toArray⟩ (ys.map fun y => ⟨y.toArray⟩) = ⟨ys.flatten.toArray⟩ := by
  unfold Txt.join PySem.Builtin.Str.glued
  cases ys with
  | nil => rfl
  | cons y r =>
    have key : ∀ (r : List (List Nat)) (acc : List Nat), List.foldl (fun (acc : Array Nat) (p : Str) => acc ++ (⟨([] : List Nat).toArray⟩ : Str).cps ++ p.cps) acc.toArray (r.map fun y => (⟨y.toArray⟩ : Str)) = (acc ++ r.flatten).toArray := by
      intro r
      induction r with
      | nil => intro acc; simp
      | cons z r ih =>
        intro acc
        rw [List.map_cons, List.foldl_cons]
        have : acc.toArray ++ (⟨([] : List Nat).toArray⟩ : Str).cps ++ (⟨z.toArray⟩ : Str).cps = (acc ++ z).toArray := by simp
        rw [this, ih]
        simp
    have := key r y
    simpa using this
section
variable {cx : Cx} {d : Nat} {sc : Sc}
noncomputable def joinE (o a : SE) : SE := fun S => match o S with
  | some (.str [], st) => match a ⟨S.lo, S.ce, st⟩ with
    | some (.ref r, st) => match gt st r with
      | some (.list vs) => match strsOf vs with
        | some ys => if (ys.map List.length).sum ≤ 100000 then some (.str ys.flatten, st) else none
        | none => none
      | _ => none
    | _ => none
  | _ => none
theorem b_join {o e : Expr} {apos pos : Pos} {go ga : SE} {pl : Env → Sem Bool} (ho : SoundE cx d sc o go) (he : SoundE cx d sc e ga) (hs : NoStars [e]) (hq : MethForm o "join" apos pos [e] pl) : SoundE cx d sc (.Call (.Attribute o "join" apos) [e] [] pos) (joinE go ga) := by
  refine ⟨?_⟩
  intro f ok s m led ρ S I R v st' hg Q E P
  unfold joinE at hg
  try simp only [gt_eq, pt_eq, ad_eq, ln_eq] at hg
  split at hg
  · rename_i st1 e1
    split at hg
    · rename_i r st2 e2
      split at hg
      · rename_i vs hst
        split at hg
        · rename_i ys hy
          split at hg
          · rename_i hlen
            cases hg
            refine MethodCall_ (pl := pl f.ev) (ho.1 f ok s m led ρ S I R _ _ e1 _ _ fun w h1 tk1 led1 ρ1 I1 G1 X1 => ?_) (hq _)
            cases X1
            refine GM.join ?_
            refine PyProof.Rows.callWith_method1 ?_ (hs _).2 rfl
            refine wpAny_items_cons (he.1 f ok (put s h1 tk1) m led1 ρ1 ⟨S.lo, S.ce, st1⟩ I1 (R.mono G1) _ _ e2 _ _ fun w2 h2 tk2 led2 ρ2 I2 G2 X2 => wpAny_items_nil ?_) (hs _).2
            cases X2 with
            | ref _ a dd hr =>
              obtain ⟨a', ws, n, q1, q2, q3⟩ := I2.ob _ _ hst
              rw [hr] at q1
              cases q1
              refine join_list (list_at I2 q2) (strsAre_of q3 hy) ?_ fun t' k => ?_
              · have e1 : (⟨([] : List Nat).toArray⟩ : Str).length = 0 := rfl
                rw [e1, List.map_map]
                have e2 : (Str.length ∘ fun (y : List Nat) => (⟨y.toArray⟩ : Str)) = List.length := by funext y; show y.toArray.size = _; simp
                rw [e2]
                omega
              · rw [join_empty]
                exact P _ _ _ _ _ I2 (G1.trans G2) (.str _ _)
          · cases hg
        · cases hg
      · cases hg
    · cases hg
  · cases hg
noncomputable def lowerE (o : SE) : SE := fun S => match o S with
  | some (.str cs, st) => if cs.length ≤ 1000 ∧ cs.all (fun c => 48 ≤ c && c ≤ 57) then some (.str cs, st) else none
  | _ => none
theorem b_lower {o : Expr} {apos pos : Pos} {go : SE} {pl : Env → Sem Bool} (ho : SoundE cx d sc o go) (hq : MethForm o "lower" apos pos [] pl) : SoundE cx d sc (.Call (.Attribute o "lower" apos) [] [] pos) (lowerE go) := by
  refine ⟨?_⟩
  intro f ok s m led ρ S I R v st' hg Q E P
  unfold lowerE at hg
  split at hg
  · rename_i cs st1 e1
    split at hg
    · rename_i hcs
      cases hg
      refine MethodCall_ (pl := pl f.ev) (ho.1 f ok s m led ρ S I R _ _ e1 _ _ fun w h1 tk1 led1 ρ1 I1 G1 X1 => ?_) (hq _)
      cases X1 with
      | str _ t =>
        refine GM.lower ?_
        refine PyProof.Rows.callWith_method0 ?_
        have hd : ∀ c ∈ cs, 48 ≤ c ∧ c ≤ 57 := by simpa using hcs.2
        have hl : Txt.lower ⟨cs.toArray⟩ = ⟨cs.toArray⟩ := by
          rw [lower_ascii (fun c hc => by have := hd c (by simpa using hc); omega)]
          congr 1
          have : List.map lo1 cs = cs := by
            refine (List.map_congr_left (g := id) fun c hc => ?_).trans (List.map_id cs)
            have := hd c hc
            unfold lo1
            rw [if_neg (by omega)]
            rfl
          simp [this]
        refine SC.lower (by rw [hl]; show PySem.Builtin.Str.tooLong cs.toArray.size = false; unfold PySem.Builtin.Str.tooLong; rw [decide_eq_false_iff_not, sizeLine_eq]; simp; omega) ?_
        rw [hl]
        exact P _ _ _ _ _ I1 G1 (.str _ _)
    · cases hg
  · cases hg
noncomputable def indexE (o a : SE) : SE := fun S => match o S with
  | some (.str cs, st) => match a ⟨S.lo, S.ce, st⟩ with
    | some (.str [c], st) => match cs.findIdx? (· == c) with
      | some i => some (.int i, st)
      | none => none
    | _ => none
  | _ => none
theorem b_index {o e : Expr} {apos pos : Pos} {go ga : SE} {pl : Env → Sem Bool} (ho : SoundE cx d sc o go) (he : SoundE cx d sc e ga) (hs : NoStars [e]) (hq : MethForm o "index" apos pos [e] pl) : SoundE cx d sc (.Call (.Attribute o "index" apos) [e] [] pos) (indexE go ga) := by
  refine ⟨?_⟩
  intro f ok s m led ρ S I R v st' hg Q E P
  unfold indexE at hg
  split at hg
  · rename_i cs st1 e1
    split at hg
    · rename_i c st2 e2
      split at hg
      · rename_i i hi
        cases hg
        refine MethodCall_ (pl := pl f.ev) (ho.1 f ok s m led ρ S I R _ _ e1 _ _ fun w h1 tk1 led1 ρ1 I1 G1 X1 => ?_) (hq _)
        cases X1
        refine GM.index ?_
        refine PyProof.Rows.callWith_method1 ?_ (hs _).2 rfl
        refine wpAny_items_cons (he.1 f ok (put s h1 tk1) m led1 ρ1 ⟨S.lo, S.ce, st1⟩ I1 (R.mono G1) _ _ e2 _ _ fun w2 h2 tk2 led2 ρ2 I2 G2 X2 => wpAny_items_nil ?_) (hs _).2
        cases X2
        obtain ⟨hlt, hc, hno⟩ := List.findIdx?_eq_some_iff_getElem.mp hi
        have hc' : cs[i] = c := by simpa using hc
        have hat : (⟨cs.toArray⟩ : Str).cps.toList[i]? = some c := by simp [hlt, hc']
        have hlen : (⟨cs.toArray⟩ : Str).length = cs.length := by show cs.toArray.size = _; simp
        rcases StrLaws.occ_head_from ⟨cs.toArray⟩ ⟨[c].toArray⟩ 0 1 (Nat.le_refl 1) with ⟨h0, hn⟩ | ⟨k, r, h0, hlo, hk, hn⟩
        · exact absurd ((StrLaws.subAt_one _ c i).mpr hat) (hn i (Nat.zero_le _))
        · have hm := (StrLaws.subAt_one _ c k).mp hk
          have hm' : cs[k]? = some c := by simpa using hm
          have hki : k = i := by
            rcases Nat.lt_trichotomy k i with h | h | h
            · have := hno k h
              have hk2 : k < cs.length := by omega
              rw [List.getElem?_eq_getElem hk2] at hm'
              cases hm'
              simp at this
            · exact h
            · exact absurd ((StrLaws.subAt_one _ c i).mpr hat) (hn i (Nat.zero_le _) h)
          subst hki
          exact SC.index h0 (P _ _ _ _ _ I2 (G1.trans G2) (.int _ _))
      · cases hg
    · cases hg
  · cases hg
noncomputable def oneG (vs : List V) (st : List Ob) : Option V := match vs with
  | [.ref r] => match gt st r with
    | some (.list [.int a]) => some (.int a)
    | _ => none
  | _ => none
theorem oneG_is {f : Fm} {h m led ρ st} (I : Inv cx f h m led ρ st) {vs ws v} (X : VRs cx led ρ vs ws) (e : oneG vs st = some v) : ∃ (a : Int) (t : Tok) (l : Addr), v = .int a ∧ ws = [.ref l] ∧ h.IsList l [Value.int a t].toArray ∧ IntsAre [Value.int a t] [a] := by
  unfold oneG at e
  try simp only [gt_eq, pt_eq, ad_eq, ln_eq] at e
  split at e
  · rename_i r
    split at e
    · rename_i a hst
      cases e
      cases X with
      | cons X1 X2 =>
        cases X2
        cases X1 with
        | ref _ l dd hr =>
          obtain ⟨a', us, n, q1, q2, q3⟩ := I.ob _ _ hst
          rw [hr] at q1
          cases q1
          obtain ⟨ul⟩ := us
          cases q3 with
          | cons Y1 Y2 =>
            cases Y2
            cases Y1 with
            | int _ t => exact ⟨a, t, l, rfl, rfl, list_at I q2, .cons _ _ .nil⟩
    · cases e
  · cases e
theorem f_min1 : FnStep cx (.builtin "min") oneG := by
  intro d sc f ok s m led ρ st I vs ws X v e Q E P
  obtain ⟨a, t, l, rfl, rfl, hl, hi⟩ := oneG_is I X e
  exact kso_min I.F I.N hl hi (Nat.zero_lt_succ _) ok.hh fun h' M t' tk F' N' hM _ => by
    have : M = a := by simpa using hM
    subst this
    exact P _ _ _ _ _ (I.turn F' N') (.refl _ _) (.int _ _)
theorem f_max1 : FnStep cx (.builtin "max") oneG := by
  intro d sc f ok s m led ρ st I vs ws X v e Q E P
  obtain ⟨a, t, l, rfl, rfl, hl, hi⟩ := oneG_is I X e
  exact kso_max I.F I.N hl hi (Nat.zero_lt_succ _) ok.hh fun h' M t' tk F' N' hM _ => by
    have : M = a := by simpa using hM
    subst this
    exact P _ _ _ _ _ (I.turn F' N') (.refl _ _) (.int _ _)
structure DiOk (cx : Cx) (n : Nat) (es : List (List Nat × V)) : Prop where
  at_ : ∃ (ds : Array DictEntry) (k : Nat), cx.K.lookup (cx.ga n) = some ⟨.type "dict", none, .dict ds k, #[]⟩ ∧ PairsR cx [] [] es ds.toList
  no : (cx.ga n == sysModules) = false
theorem VR.nil_mono {led ρ v w} (h : VR cx [] [] v w) : VR cx led ρ v w := h.mono2 ⟨(fun _ h => absurd h (List.not_mem_nil)), ⟨ρ, rfl⟩⟩
theorem PairsR.none {led ρ} {key : List Nat} {es : List (List Nat × V)} {ds : List DictEntry} (h0 : PairsR cx led ρ es ds) : es.lookup key = Option.none → findBy Value.isStrOf ds.toArray ⟨key.toArray⟩ = Option.none := by
  induction h0 with
  | nil => intro _; rfl
  | @cons k t v' w es ds a r ih =>
    intro h
    rw [List.lookup_cons] at h
    unfold findBy at ih ⊢
    rw [List.find?_toArray] at ih ⊢
    rw [List.find?_cons]
    dsimp only
    rw [isStrOf_lists]
    cases hk : key == k with
    | true => rw [hk] at h; cases h
    | false =>
      rw [hk] at h
      exact ih h
noncomputable def inDE (es : List (List Nat × V)) (n : Nat) (a : SE) : SE := fun S => match a S with
  | some (.str key, st) => some (.bool (es.lookup key).isSome, st)
  | _ => none
theorem dict_K {n : Nat} {es} (h : DiOk cx n es) {f : Fm} (ok : f.Ok cx d sc) {hp m led ρ st} (I : Inv cx f hp m led ρ st) :
    ∃ ds k, hp.MapOf (PySem.strKind cx.prog cx.w) (cx.ga n) (fun k => findBy Value.isStrOf ds k) ∧ cx.K.lookup (cx.ga n) = some ⟨.type "dict", Option.none, .dict ds k, #[]⟩ ∧ PairsR cx [] [] es ds.toList := by
  obtain ⟨⟨ds, k, h1, h2⟩, h3⟩ := h
  exact ⟨ds, k, mapOf_K (prog := cx.prog) (ok.X.keeps I.F.keep) h1 h2.keys, h1, h2⟩
noncomputable def itemDE (es : List (List Nat × V)) (n : Nat) (a : SE) : SE := fun S => match a S with
  | some (.str key, st) => match es.lookup key with
    | some v => some (v, st)
    | Option.none => Option.none
  | _ => Option.none
theorem b_itemD {a : Expr} {x : Str} {ga : SE} {n : Nat} {es} {np pos : Pos} (ha : SoundE cx d sc a ga) (hx : GloName cx sc x (.ref (cx.ga n))) (h : DiOk cx n es) (hs : ∀ o i, subscripted a false o i = operate [o, i] (getItem o i)) :
    SoundE cx d sc (.Subscript (.Name x np) a pos) (itemDE es n ga) := by
  refine ⟨?_⟩
  intro f ok s m led ρ S I R v st' hg Q E P
  unfold itemDE at hg
  split at hg
  · rename_i key st1 e1
    split at hg
    · rename_i v' hl
      cases hg
      refine Subscript_ ?_
      refine nameG_K I.F ok.X (topRead_of ok.T) hx.at_ ?_ ok.evg ok.evk (ok.kind hx.kind) hx.dbg
      refine ha.1 f ok s m led ρ S I R _ _ e1 _ _ fun w h1 tk1 led1 ρ1 I1 G1 X1 => ?_
      cases X1 with
      | str _ t =>
        obtain ⟨ds, k, hmap, _, hp⟩ := dict_K h ok I1
        obtain ⟨dl⟩ := ds
        obtain ⟨w, hw, X⟩ := hp.find hl
        exact tail_any hmap.typeIs slot_dict_getitem.lookup (wpAny_getItem_of (PySem.strKind_is cx.prog cx.w _ t) hmap hw (P _ _ _ _ _ I1 G1 X.nil_mono)) (hs _ _)
    · cases hg
  · cases hg
end
end Mp
namespace Mp
section
variable {cx : Cx} {d : Nat} {sc : Sc}
noncomputable def noE : SE := fun _ => none
noncomputable def noT : ST := fun _ => none
noncomputable def noS : SS := fun _ => none
noncomputable def noF : FnG := fun _ _ => none
theorem no_e {e : Expr} : SoundE cx d sc e noE := by
  refine ⟨?_⟩
  intro f ok s m led ρ S I R v st' hg
  cases hg
theorem no_t {e : Expr} : SoundT cx d sc e noT := by
  refine ⟨?_⟩
  intro f ok s m led ρ S I R v st' hg
  cases hg
theorem no_b {t : List Stmt} : SoundB cx d sc t noS := by
  refine ⟨?_⟩
  intro f ok s m led ρ S I R v st' hg
  cases hg
theorem no_f {fv : Value} : CallOk cx d fv noF := by
  refine ⟨?_⟩
  intro sc f ok s m led ρ st I vs ws X v st' e
  cases e
theorem CallOk.up {d' : Nat} {fv g} (h : CallOk cx d fv g) (hd : Nat.ble d d' = true) : CallOk cx d' fv g := h.le (Nat.le_of_ble_eq_true hd)
theorem t_inD {a : Expr} {x : Str} {ga : SE} {n : Nat} {es} {np pos : Pos} (ha : SoundE cx d sc a ga) (hx : GloName cx sc x (.ref (cx.ga n))) (h : DiOk cx n es) (hm : behindInMarks .In (.Name x np) = false) :
    SoundT cx d sc (.Compare a [.In] [.Name x np] pos) (tE (inDE es n ga)) := by
  refine ⟨?_⟩
  intro f ok s m led ρ S I R b st' hg Q E P
  unfold tE inDE at hg
  split at hg
  · rename_i b' st1 e1
    cases hg
    split at e1
    · rename_i key st2 e2
      cases e1
      refine wpAny_isTrue_Compare1 ?_ hm
      refine ha.1 f ok s m led ρ S I R _ _ e2 _ _ fun w h1 tk1 led1 ρ1 I1 G1 X1 => ?_
      refine nameG_K I1.F ok.X (topRead_of ok.T) hx.at_ ?_ ok.evg ok.evk (ok.kind hx.kind) hx.dbg
      cases X1 with
      | str _ t =>
        obtain ⟨ds, k, hmap, _, hp⟩ := dict_K h ok I1
        obtain ⟨dl⟩ := ds
        refine wpAny_in_of (PySem.strKind_is cx.prog cx.w _ t) h.no hmap ?_
        have : (findBy Value.isStrOf ⟨dl⟩ ⟨key.toArray⟩).isSome = (es.lookup key).isSome := by
          cases hl : es.lookup key with
          | none => rw [hp.none hl]; rfl
          | some v => obtain ⟨w, hw, _⟩ := hp.find hl; rw [hw]; rfl
        rw [this]
        exact wpAny_truthy_bool (P _ _ _ _ I1 G1)
    · cases e1
  · cases hg
noncomputable def tabOf (l : List (Nat × FnG)) : Nat → Option FnG := fun n => l.lookup n
theorem tab_nil : TabOk cx d (tabOf []) := ⟨fun n g h => (by cases h), fun n g h => (by cases h)⟩
theorem tab_cons {n : Nat} {g : FnG} {l} (h : CallOk cx d (.ref (cx.ga n)) g) (k : keepIn cx.K (.ref (cx.ga n)) = true) (r : TabOk cx d (tabOf l)) : TabOk cx d (tabOf ((n, g) :: l)) := by
  have key : ∀ n' g', tabOf ((n, g) :: l) n' = some g' → (n' = n ∧ g' = g) ∨ tabOf l n' = some g' := by
    intro n' g' e
    unfold tabOf at e ⊢
    rw [List.lookup_cons] at e
    by_cases hn : n' = n
    · subst hn
      simp at e
      exact .inl ⟨rfl, e.symm⟩
    · have : (n' == n) = false := by simpa using hn
      rw [this] at e
      exact .inr e
  constructor
  · intro n' g' e
    rcases key n' g' e with ⟨rfl, rfl⟩ | e
    · exact h
    · exact r.call _ _ e
  · intro n' g' e
    rcases key n' g' e with ⟨rfl, rfl⟩ | e
    · exact k
    · exact r.keep _ _ e
noncomputable def dictN : SE := fun S => some (.ref (ln S.st), ad S.st (.dict []))
theorem Inv.newDict {f : Fm} {h h' : Heap} {m led ρ st} (I : Inv cx f h m led ρ st) {o : Obj} {ds : List (Str × Value)} {es} {l : Addr} (F' : Fr f.h₀ f.L h' m) (N' : News f.h₀ f.L h' ((l, o) :: (led ++ f.kept)))
    (hl : ∀ p ∈ led ++ f.kept, p.1 < l) (hd : o.IsDictOf (PySem.strKind cx.prog cx.w) ds) (X : KvsR cx led ρ es ds) :
    Inv cx f h' m ((l, o) :: led) (ρ ++ [(l, l)]) (st ++ [.dict es]) ∧ Grow led ρ ((l, o) :: led) (ρ ++ [(l, l)]) := by
  have g0 : Grow led ρ ((l, o) :: led) (ρ ++ [(l, l)]) := ⟨fun p hp _ => List.mem_cons_of_mem _ hp, ⟨_, rfl⟩⟩
  refine I.make (new := [(l, o)]) F' N' ?_ (fun q hq e => ?_) ⟨l, o, ds, by rw [← I.len]; simp, List.mem_append_left _ (.head _), hd, ?_⟩
  · show ((l, o) :: (led ++ f.kept)).map (·.1) |>.Nodup
    rw [List.map_cons, List.nodup_cons]
    refine ⟨fun hm => ?_, I.nd⟩
    obtain ⟨p, hp, e⟩ := List.mem_map.mp hm
    exact absurd (hl p hp) (by rw [e]; exact Nat.lt_irrefl _)
  · obtain ⟨o', ho'⟩ := I.rho_mem q hq
    exact absurd (hl _ (List.mem_append_left _ ho')) (by rw [e]; exact Nat.lt_irrefl _)
  · clear hd
    induction X with
    | nil => exact .nil
    | cons a _ ih => exact .cons (a.mono g0) ih
theorem b_dict0 {pos : Pos} : SoundE cx d sc (.Dict [] [] pos) dictN := by
  refine ⟨?_⟩
  intro f ok s m led ρ S I R v st' hg Q E P
  unfold dictN at hg
  simp only [ad_eq, ln_eq] at hg
  cases hg
  refine newDict_K I.F I.N (Top.nolimit ok.T) fun D h' o F' N' hlt _ hd _ _ _ => ?_
  obtain ⟨I', G'⟩ := I.newDict F' N' hlt hd .nil
  exact P _ _ s.toks _ _ I' G' (.ref _ D D (by rw [← I.len]; simp))
end
end Mp
namespace Mp
noncomputable abbrev SV := Sem Value × Sem Value
theorem gather1 (f : (Option (Sem Value) × Sem Value) → (Option Addr × List SV) → Sem (ForInStep (Option Addr × List SV))) (m : Option Addr)
    (hf : ∀ (p : SV) (run : List SV), run.length + 1 < 17 → f (some p.1, p.2) (m, run) = pure (.yield (m, run ++ [p]))) (rest : List (Option (Sem Value) × Sem Value)) :
    ∀ (items run : List SV), run.length + items.length < 17 → forIn (items.map (fun p => (some p.1, p.2)) ++ rest) (m, run) f = forIn rest (m, run ++ items) f
  | [], run, _ => by simp
  | p :: it, run, h => by
    rw [List.map_cons, List.cons_append, List.forIn_cons, hf p run (by simp at h; omega), pure_bind]
    have := gather1 f m hf rest it (run ++ [p]) (by simp at h ⊢; omega)
    simpa using this
theorem display_two (a b : List SV) (p : SV) (ha : a.length = 16) (hb : b.length < 17) (hb0 : b ≠ []) :
    dictDisplay ((a ++ p :: b).map fun p => (some p.1, p.2)) = (do
      let d ← subDict (a ++ [p])
      let sub ← holding [.ref d] (subDict b)
      (holding [.ref d, .ref sub] (mergeMapping d (.ref sub) false)).onRaise fun x => do let _ ← holding [.ref d, x] (runValue (.builtin "proto.let_go" {}))
      pure (.ref d)) := by
  unfold dictDisplay
  dsimp only
  rw [List.map_append, List.map_cons]
  rw [gather1 _ _ (fun p run h => by
    have hne : ((run ++ [(p.1, p.2)]).length == 17) = false := by simp; omega
    simp only [hne, Bool.false_eq_true, if_false]) _ a [] (by simp [ha])]
  rw [List.forIn_cons]
  have h17 : (([] ++ a ++ [(p.1, p.2)]).length == 17) = true := by simp [ha]
  have hne : ([] ++ a ++ [(p.1, p.2)]).isEmpty = false := by simp
  simp only [h17, hne, if_true, Bool.false_eq_true, if_false, bind_assoc, pure_bind]
  refine congrArg _ (funext fun d => ?_)
  rw [← List.append_nil (List.map (fun (p : SV) => (some p.1, p.2)) b), gather1 _ (some d) (fun p run h => by
    have hne : ((run ++ [(p.1, p.2)]).length == 17) = false := by simp; omega
    simp only [hne, Bool.false_eq_true, if_false]) [] b [] (by simpa using hb)]
  simp [hb0]
end Mp
namespace Mp
theorem KvsR.append {cx led ρ es ds k v w} (h : KvsR cx led ρ es ds) (X : VR cx led ρ v w) : KvsR cx led ρ (es ++ [(k, v)]) (ds ++ [(⟨k.toArray⟩, w)]) := by
  induction h with
  | nil => exact .cons X .nil
  | cons a _ ih => exact .cons a ih
theorem KvsR.mono {cx led ρ led' ρ' es ds} (g : Grow led ρ led' ρ') (h : KvsR cx led ρ es ds) : KvsR cx led' ρ' es ds := by
  induction h with
  | nil => exact .nil
  | cons a _ ih => exact .cons (a.mono g) ih
theorem KvsR.length {cx led ρ es ds} (h : KvsR cx led ρ es ds) : es.length = ds.length := by
  induction h with
  | nil => rfl
  | cons _ _ ih => simp [ih]
theorem strNe {a b : List Nat} (h : a ≠ b) : (⟨a.toArray⟩ : Str) ≠ ⟨b.toArray⟩ := by
  intro e
  have := congrArg Str.cps e
  simp at this
  exact h this
theorem KvsR.fresh {cx led ρ es ds} {k : List Nat} (h : KvsR cx led ρ es ds) (hk : es.lookup k = none) : (⟨k.toArray⟩ : Str) ∉ ds.map (·.1) := by
  induction h with
  | nil => simp
  | @cons k' v w es ds a r ih =>
    rw [List.lookup_cons] at hk
    by_cases e : k = k'
    · subst e; simp at hk
    · have : (k == k') = false := by simpa using e
      rw [this] at hk
      simp only [List.map_cons, List.mem_cons, not_or]
      exact ⟨strNe e, ih hk⟩
section
variable {prog : Program} {w : World} {K : Type} [DecidableEq K] {knd : KeyKind prog w K} {A : Around} {E : Value → Shared → Prop} {s : Shared}
theorem wp_dictPut {d : Addr} {kvs : List (K × Value)} {k : K} {key v : Value} {Q : Unit → Shared → Prop} (hkey : knd.is k key = true) (hm : s.heap.DictOf knd d kvs) (hf : k ∉ kvs.map (·.1))
    (hQ : ∀ h', h'.DictOf knd d (kvs ++ [(k, v)]) → Heap.SameBut d s.heap h' → Q () { s with heap := h' }) (hsz : kvs.length ≤ sizeLine) :
    wpAny (model prog w) A (dictPut d (knd.hash k) key v) Q E s := by
  obtain ⟨o, es, ep, ho, hc, hd, hk, hp, hn⟩ := hm
  have hlen : es.size = kvs.length := by rw [← hp.length]; simp
  have hno : (es.findIdx? fun e => knd.is k e.key) = none := by
    have h1 := hp.findIdx k
    have h2 : (kvs.findIdx? fun kv => decide (kv.1 = k)) = none := by
      rw [List.findIdx?_eq_none_iff]
      intro kv hkv
      rw [decide_eq_false_iff_not]
      rintro rfl
      exact hf (List.mem_map.mpr ⟨kv, hkv, rfl⟩)
    rw [h2] at h1
    obtain ⟨l⟩ := es
    simpa using h1
  unfold dictPut
  refine wpAny_bind (wpAny_dictFind_of hkey ho hd hk ?_)
  rw [hno]
  refine wpAny_updateDictKeys (hz := by omega) ho hd (hQ _ ⟨_, _, ep + 1, Heap.get?_update_self _ ho (Obj.isFreed_of_dict (Obj.data_mapDictKeys hd _)), hc.mapDictKeys _, Obj.data_mapDictKeys hd _, hk.push hkey _, ?_, ?_⟩ (Heap.SameBut.update ..))
  · have := hp.append hkey (knd.hash k) v
    obtain ⟨l⟩ := es
    simpa using this
  · rw [List.map_append, List.nodup_append]
    refine ⟨hn, by simp, fun a ha b hb => ?_⟩
    simp only [List.map_cons, List.map_nil, List.mem_singleton] at hb
    subst hb
    rintro rfl
    exact hf ha
end
section
variable {cx : Cx} {d : Nat} {sc : Sc}
theorem Inv.putDict {f : Fm} {h : Heap} {m led ρ st} (I : Inv cx f h m led ρ st) {r : Nat} {a b : Addr} (hr : ρ[r]? = some (a, b)) {es} (hst : st[r]? = some (.dict es)) {k v w} :
    ∃ o ds, (a, o) ∈ led ∧ o.IsDictOf (PySem.strKind cx.prog cx.w) ds ∧ KvsR cx led ρ es ds ∧ b = a ∧
      ∀ (X : VR cx led ρ v w) {h' : Heap}, h'.DictOf (PySem.strKind cx.prog cx.w) a (ds ++ [(⟨k.toArray⟩, w)]) → Heap.SameBut a h h' →
        ∃ led', Inv cx f h' m led' ρ (st.set r (.dict (es ++ [(k, v)]))) ∧ Grow led ρ led' ρ := by
  obtain ⟨a', o, ds, p1, p2, p3, p4⟩ := I.ob _ _ hst
  rw [hr] at p1
  cases p1
  refine ⟨o, ds, p2, p3, p4, rfl, fun X h' hm hs => ?_⟩
  obtain ⟨o', ho', hd'⟩ := Heap.dictOf_iff.mp hm
  have z := I.at_ p2
  obtain ⟨pre, post, e1, e2, q1, q2⟩ := (I.upd (o' := o') p2).split
  have hz : Frz o = false := by
    obtain ⟨es', ep, _, h3, _⟩ := p3
    unfold Frz
    rw [h3]
  exact ⟨_, I.store hr p2 hz (I.F.change hs z.2.1 z.2.2) (by rw [e2]; exact news_set (e1 ▸ I.N) q1 q2 hs ho') fun g => ⟨_, o', _, hr, updL_self p2, hd', (p4.mono g).append (X.mono g)⟩⟩
theorem dict_set {f : Fm} {s : Shared} {m led ρ st} (I : Inv cx f s.heap m led ρ st) {r : Nat} {a b : Addr} (hr : ρ[r]? = some (a, b)) {es} (hst : st[r]? = some (.dict es)) {k : List Nat} {t v w} (X : VR cx led ρ v w) (hk : es.lookup k = none) (hl : es.length ≤ 1000)
    {Q E} (P : PostU cx f m led ρ (st.set r (.dict (es ++ [(k, v)]))) Q s) : wpAny cx.M f.A (dictSet a (.str ⟨k.toArray⟩ t) w) Q E s := by
  obtain ⟨o, ds, h1, h2, h3, rfl, h4⟩ := I.putDict hr hst (k := k) (v := v) (w := w)
  have hl2 := h3.length
  refine wpAny_dictSet_pairs (hsz := by rw [sizeLine_eq]; omega) (PySem.strKind_is cx.prog cx.w _ t) (dict_at I h1 h2) fun h' hm hs => ?_
  have hany : ¬ (ds.any fun kv => decide (kv.1 = (⟨k.toArray⟩ : Str))) = true := by
    rw [List.any_eq_true]
    rintro ⟨kv, hkv, he⟩
    exact h3.fresh hk (List.mem_map.mpr ⟨kv, hkv, of_decide_eq_true he⟩)
  rw [stored, if_neg hany] at hm
  obtain ⟨led', I', G'⟩ := h4 X hm hs
  exact P _ _ _ _ I' G'
noncomputable def PairT (cx : Cx) (sc : Sc) (f : Fm) (lo : List V) (ce : List Nat) (p : SV) (kv : List Nat × V) : Prop :=
  (∀ (s : Shared) (Q : Value → Shared → Prop) E, (∀ t tk, Q (.str ⟨kv.1.toArray⟩ t) (put s s.heap tk)) → wpAny cx.M f.A p.1 Q E s) ∧
  (∀ (s : Shared) m led ρ st, Inv cx f s.heap m led ρ st → LR cx sc f m led ρ lo ce → ∀ Q E, PostE cx f m led ρ st kv.2 Q s → wpAny cx.M f.A p.2 Q E s)
inductive PairsT (cx : Cx) (sc : Sc) (f : Fm) (lo : List V) (ce : List Nat) : List SV → List (List Nat × V) → Prop
  | nil : PairsT cx sc f lo ce [] []
  | cons {p kv ps kvs} : PairT cx sc f lo ce p kv → PairsT cx sc f lo ce ps kvs → PairsT cx sc f lo ce (p :: ps) (kv :: kvs)
theorem pairs_long {f : Fm} {lo ce} (r : Nat) {a b : Addr} : ∀ {ps kvs} (T : PairsT cx sc f lo ce ps kvs) {s : Shared} {m led ρ st es} (I : Inv cx f s.heap m led ρ st) (R : LR cx sc f m led ρ lo ce) (hr : ρ[r]? = some (a, b)) (hst : st[r]? = some (.dict es))
    (nd : ((es ++ kvs).map (·.1)).Nodup) (hl : (es ++ kvs).length ≤ 1000) {Q : PUnit → Shared → Prop} {E}
    (P : PostU cx f m led ρ (st.set r (.dict (es ++ kvs))) Q s),
    wpAny cx.M f.A (forIn ps PUnit.unit fun (x : SV) (_ : PUnit) => (do
        let kv ← x.1
        let vv ← holding [kv] x.2
        holding [kv, vv] (dictSet a kv vv)
        pure (ForInStep.yield PUnit.unit) : Sem (ForInStep PUnit))) Q E s := by
  intro ps kvs T
  induction T with
  | nil =>
    intro s m led ρ st es I R hr hst nd hl Q E P
    rw [List.forIn_nil]
    have : st.set r (.dict (es ++ [])) = st := by
      rw [List.append_nil]
      obtain ⟨h1, h2⟩ := List.getElem?_eq_some_iff.mp hst
      rw [← h2, List.set_getElem_self]
    rw [this] at P
    exact wpAny_pure (P _ s.toks _ _ I (.refl _ _))
  | @cons p kv ps kvs hp T ih =>
    intro s m led ρ st es I R hr hst nd hl Q E P
    obtain ⟨k, v⟩ := kv
    rw [List.forIn_cons]
    refine wpAny_bind ?_
    refine wpAny_bind (hp.1 _ _ _ fun t tk => ?_)
    refine wpAny_bind (wpAny_holding (hp.2 (put s s.heap tk) m led ρ st I R _ _ fun w h1 tk1 led1 ρ1 I1 G1 X1 => ?_))
    have hrr : ρ1[r]? = some (a, b) := G1.at hr
    have hk : es.lookup k = none := by
      rw [List.lookup_eq_none_iff]
      intro q hq
      rw [List.map_append, List.nodup_append] at nd
      have := nd.2.2 q.1 (List.mem_map_of_mem hq) k (by simp)
      simpa using fun e : k = q.1 => this e.symm
    refine wpAny_bind (wpAny_holding (dict_set (s := put s h1 tk1) I1 hrr hst X1 hk (by rw [List.length_append] at hl; omega) fun h2 tk2 led2 ρ2 I2 G2 => wpAny_pure ?_))
    have hst2 : (st.set r (.dict (es ++ [(k, v)])))[r]? = some (.dict (es ++ [(k, v)])) := by
      have := (List.getElem?_eq_some_iff.mp hst).1
      simp [this]
    refine ih (s := put s h2 tk2) I2 (R.mono (G1.trans G2)) (G2.at hrr) hst2 (by simpa using nd) (by simpa using hl) fun h3 tk3 led3 ρ3 I3 G3 => ?_
    refine P _ _ _ _ ?_ ((G1.trans G2).trans G3)
    simpa using I3
end
end Mp
namespace Mp
theorem range_loop {M : Model} {A : Around} {E : Value → Shared → Prop} {f : Nat → PUnit → Sem (ForInStep PUnit)} (n : Nat) (J : Nat → Shared → Prop)
    (hstep : ∀ i s, i < n → J i s → wpAny M A (f i PUnit.unit) (fun r s' => r = ForInStep.yield PUnit.unit ∧ J (i + 1) s') E s) :
    ∀ k i, i + k = n → ∀ s, J i s → wpAny M A (forIn (List.range' i k) PUnit.unit f) (fun _ s' => J n s') E s := by
  intro k
  induction k with
  | zero =>
    intro i hi s hJ
    have : i = n := by omega
    subst this
    show wpAny M A (forIn [] PUnit.unit f) _ E s
    rw [List.forIn_nil]
    exact wpAny_pure hJ
  | succ k ih =>
    intro i hi s hJ
    rw [List.range'_succ, List.forIn_cons]
    refine wpAny_bind (wpAny_mono (hstep i s (by omega) hJ) (fun r s' h => ?_) fun _ _ e => e)
    obtain ⟨rfl, hJ'⟩ := h
    exact ih (i + 1) (by omega) s' hJ'
theorem KvsR.get {cx led ρ es ds} (X : KvsR cx led ρ es ds) {i : Nat} {k v} (h : es[i]? = some (k, v)) : ∃ w, ds[i]? = some (⟨k.toArray⟩, w) ∧ VR cx led ρ v w := by
  induction X generalizing i with
  | nil => cases h
  | cons a r ih =>
    cases i with
    | zero => cases h; exact ⟨_, rfl, a⟩
    | succ i => exact ih h
section
variable {cx : Cx} {d : Nat} {sc : Sc}
inductive KvV (cx : Cx) (led : Led) (ρ : Rho) : List (List Nat × V) → List (Value × Value) → Prop
  | nil : KvV cx led ρ [] []
  | cons {k v t w kvs vs} : VR cx led ρ v w → KvV cx led ρ kvs vs → KvV cx led ρ ((k, v) :: kvs) ((.str ⟨k.toArray⟩ t, w) :: vs)
theorem KvV.mono {led ρ led' ρ' es ds} (g : Grow led ρ led' ρ') (h : KvV cx led ρ es ds) : KvV cx led' ρ' es ds := by
  induction h with
  | nil => exact .nil
  | cons a _ ih => exact .cons (a.mono g) ih
theorem pairs_eval {f : Fm} {lo ce} : ∀ {ps kvs} (T : PairsT cx sc f lo ce ps kvs) {s : Shared} {m led ρ st} (I : Inv cx f s.heap m led ρ st) (R : LR cx sc f m led ρ lo ce) {Q : List (Value × Value) → Shared → Prop} {E}
    (P : ∀ vs h' tk' led' ρ', Inv cx f h' m led' ρ' st → Grow led ρ led' ρ' → KvV cx led' ρ' kvs vs → Q vs (put s h' tk')), wpAny cx.M f.A (evalPairs ps) Q E s := by
  intro ps kvs T
  induction T with
  | nil =>
    intro s m led ρ st I R Q E P
    exact evalPairs_nil (P _ _ s.toks _ _ I (.refl _ _) .nil)
  | @cons p kv ps kvs hp T ih =>
    intro s m led ρ st I R Q E P
    obtain ⟨k, v⟩ := kv
    refine evalPairs_cons (hp.1 _ _ _ fun t tk => ?_)
    refine hp.2 (put s s.heap tk) m led ρ st I R _ _ fun w h1 tk1 led1 ρ1 I1 G1 X1 => ?_
    refine ih (s := put s h1 tk1) I1 (R.mono G1) fun vs h2 tk2 led2 ρ2 I2 G2 X2 => ?_
    exact P _ _ _ _ _ I2 (G1.trans G2) (.cons (X1.mono G2) X2)
theorem pairs_store {f : Fm} (r : Nat) {a b : Addr} : ∀ {kvs vs} {s : Shared} {m led ρ st es} (T : KvV cx led ρ kvs vs) (I : Inv cx f s.heap m led ρ st) (hr : ρ[r]? = some (a, b)) (hst : st[r]? = some (.dict es))
    (nd : ((es ++ kvs).map (·.1)).Nodup) (hl : (es ++ kvs).length ≤ 1000) {Q : PUnit → Shared → Prop} {E}
    (P : PostU cx f m led ρ (st.set r (.dict (es ++ kvs))) Q s),
    wpAny cx.M f.A (forIn vs PUnit.unit fun (x : Value × Value) (_ : PUnit) => (do dictSet a x.1 x.2; pure (ForInStep.yield PUnit.unit) : Sem (ForInStep PUnit))) Q E s := by
  intro kvs
  induction kvs with
  | nil =>
    intro vs s m led ρ st es T I hr hst nd hl Q E P
    cases T
    rw [List.forIn_nil]
    have : st.set r (.dict (es ++ [])) = st := by
      rw [List.append_nil]
      obtain ⟨h1, h2⟩ := List.getElem?_eq_some_iff.mp hst
      rw [← h2, List.set_getElem_self]
    rw [this] at P
    exact wpAny_pure (P _ s.toks _ _ I (.refl _ _))
  | cons kv kvs ih =>
    intro vs s m led ρ st es T I hr hst nd hl Q E P
    obtain ⟨k, v⟩ := kv
    cases T with | cons X T =>
    rw [List.forIn_cons]
    have hk : es.lookup k = none := by
      rw [List.lookup_eq_none_iff]
      intro q hq
      rw [List.map_append, List.nodup_append] at nd
      have := nd.2.2 q.1 (List.mem_map_of_mem hq) k (by simp)
      simpa using fun e : k = q.1 => this e.symm
    refine wpAny_bind (wpAny_bind (dict_set I hr hst X hk (by rw [List.length_append] at hl; omega) fun h2 tk2 led2 ρ2 I2 G2 => wpAny_pure ?_))
    have hst2 : (st.set r (.dict (es ++ [(k, v)])))[r]? = some (.dict (es ++ [(k, v)])) := by
      have := (List.getElem?_eq_some_iff.mp hst).1
      simp [this]
    refine ih (s := put s h2 tk2) (T.mono G2) I2 (G2.at hr) hst2 (by simpa using nd) (by simpa using hl) fun h3 tk3 led3 ρ3 I3 G3 => ?_
    refine P _ _ _ _ ?_ (G2.trans G3)
    simpa using I3
theorem alloc_dict {f : Fm} {s : Shared} {m led ρ st} (I : Inv cx f s.heap m led ρ st) :
    ∃ o, Inv cx f (s.heap.push { cls := .type "dict", data := .dict #[] }) m ((s.heap.objs.size, o) :: led) (ρ ++ [(s.heap.objs.size, s.heap.objs.size)]) (st ++ [.dict []]) ∧ Grow led ρ ((s.heap.objs.size, o) :: led) (ρ ++ [(s.heap.objs.size, s.heap.objs.size)]) := by
  obtain ⟨o, ho, hd⟩ := Heap.dictOf_iff.mp (Heap.DictOf.new (knd := PySem.strKind cx.prog cx.w) s.heap)
  exact ⟨o, I.newDict (I.F.push _) (news_pushed I.F I.N (fun b x e => Heap.get?_push_of_some _ e) ho rfl) (fun p hp => Heap.lt_size (I.N p hp).1) hd .nil⟩
theorem sub_long {f : Fm} {lo ce ps kvs} (T : PairsT cx sc f lo ce ps kvs) (h15 : 15 < ps.length) {s : Shared} {m led ρ st} (I : Inv cx f s.heap m led ρ st) (R : LR cx sc f m led ρ lo ce) (nd : (kvs.map (·.1)).Nodup) (hl : kvs.length ≤ 1000) {Q : Addr → Shared → Prop} {E}
    (P : ∀ a h' tk' led' ρ', Inv cx f h' m led' ρ' (st ++ [.dict kvs]) → Grow led ρ led' ρ' → ρ'[st.length]? = some (a, a) → Q a (put s h' tk')) : wpAny cx.M f.A (subDict ps) Q E s := by
  unfold subDict
  obtain ⟨o, I1, G1⟩ := alloc_dict I (s := s)
  refine wpAny_bind (wpAny_alloc ?_)
  refine wpAny_bind (wpAny_holding ?_)
  rw [if_neg (by omega)]
  refine wpAny_bind (wpAny_rule ?_)
  have hr : (ρ ++ [(s.heap.objs.size, s.heap.objs.size)])[st.length]? = some (s.heap.objs.size, s.heap.objs.size) := by rw [← I.len]; simp
  refine wpAny_bind ?_
  refine pairs_long (es := []) (s := put s _ s.toks) st.length T I1 (R.mono G1) hr (by simp) (by simpa using nd) (by simpa using hl) fun h2 tk2 led2 ρ2 I2 G2 => ?_
  refine wpAny_pure (wpAny_pure (P _ _ _ _ _ ?_ (G1.trans G2) (G2.at hr)))
  simpa using I2
theorem sub_short {f : Fm} {lo ce ps kvs} (T : PairsT cx sc f lo ce ps kvs) (h15 : ps.length ≤ 15) {s : Shared} {m led ρ st} (I : Inv cx f s.heap m led ρ st) (R : LR cx sc f m led ρ lo ce) (nd : (kvs.map (·.1)).Nodup) (hl : kvs.length ≤ 1000) (hbig : sysModules < f.h₀.objs.size) {Q : Addr → Shared → Prop} {E}
    (P : ∀ a h' tk' led' ρ', (a == sysModules) = false → Inv cx f h' m led' ρ' (st ++ [.dict kvs]) → Grow led ρ led' ρ' → ρ'[st.length]? = some (a, a) → Q a (put s h' tk')) : wpAny cx.M f.A (subDict ps) Q E s := by
  unfold subDict
  obtain ⟨o, I1, G1⟩ := alloc_dict I (s := s)
  refine wpAny_bind (wpAny_alloc ?_)
  refine wpAny_bind (wpAny_holding ?_)
  rw [if_pos h15]
  have hr : (ρ ++ [(s.heap.objs.size, s.heap.objs.size)])[st.length]? = some (s.heap.objs.size, s.heap.objs.size) := by rw [← I.len]; simp
  refine wpAny_bind ?_
  refine pairs_eval (s := put s _ s.toks) T I1 (R.mono G1) fun vs h2 tk2 led2 ρ2 I2 G2 X2 => ?_
  refine wpAny_holding (wpAny_bind ?_)
  refine pairs_store (es := []) (s := put s h2 tk2) st.length X2 I2 (G2.at hr) (by simp) (by simpa using nd) (by simpa using hl) fun h3 tk3 led3 ρ3 I3 G3 => ?_
  refine wpAny_pure (wpAny_pure (P _ _ _ _ _ (I.F.notModules hbig) ?_ ((G1.trans G2).trans G3) (G3.at (G2.at hr))))
  simpa using I3
end
end Mp
namespace Mp
section
variable {cx : Cx} {d : Nat} {sc : Sc}
theorem merge_ok {f : Fm} {s : Shared} {m led ρ st} (I : Inv cx f s.heap m led ρ st) {r r2 : Nat} {a b : Addr} (hr : ρ[r]? = some (a, a)) (hr2 : ρ[r2]? = some (b, b)) (hne : r ≠ r2) (hlo : (b == sysModules) = false) {es es2} (hst : st[r]? = some (.dict es)) (hst2 : st[r2]? = some (.dict es2))
    (h0 : es ≠ []) (nd : ((es ++ es2).map (·.1)).Nodup) (hl : (es ++ es2).length ≤ 1000) {Q : Unit → Shared → Prop} {E} (P : PostU cx f m led ρ (st.set r (.dict (es ++ es2))) Q s) :
    wpAny cx.M f.A (mergeMapping a (.ref b) false) Q E s := by
  have hab : a ≠ b := fun e => by
    subst e
    have h1 : (ρ.map (·.2))[r]? = some a := by simp [hr]
    have h2 : (ρ.map (·.2))[r2]? = some a := by simp [hr2]
    exact hne (nodup_at I.sep h1 h2)
  obtain ⟨_, o, ds, p1, p2, p3, p4⟩ := I.ob _ _ hst
  rw [hr] at p1
  cases p1
  obtain ⟨_, o2, ds2, q1, q2, q3, q4⟩ := I.ob _ _ hst2
  rw [hr2] at q1
  cases q1
  have ho2 := dict_at I q2 q3
  obtain ⟨esa, epa, _, hda, _, hpa, _⟩ := p3
  obtain ⟨arr, ep, hex, hd2, hk2, hp2, hn2⟩ := id q3
  have hgb := (I.at_ q2).1
  unfold mergeMapping
  refine wpAny_bind (wpAny_isInstance ho2.typeIs isSubtype_dict_dict ?_)
  rw [if_pos rfl]
  refine wpAny_bind (wpAny_specialOf ho2.typeIs PySem.F.slot_dict_iter.lookup ?_)
  refine wpAny_bind (wpAny_pure ?_)
  have hb : ((some (Value.builtin "dict.__iter__") : Option Value) == some (.builtin "dict.__iter__")) = true := beq_self_eq_true _
  rw [hb]
  dsimp only
  rw [if_neg (by rw [hlo]; exact Bool.false_ne_true)]
  refine wpAny_bind (wpAny_dictEntries (I.at_ p2).1 hda ?_)
  have hne0 : esa.isEmpty = false := by
    have h1 := hpa.length
    have h2 := p4.length
    have h3 : 0 < es.length := List.length_pos_iff.mpr h0
    simp only [Array.length_toList] at h1
    rw [Array.isEmpty_eq_false_iff]
    intro e
    rw [e] at h1
    simp at h1
    omega
  rw [if_neg (by rw [hne0]; exact Bool.false_ne_true)]
  refine wpAny_bind (wpAny_dictEntries hgb hd2 ?_)
  refine wpAny_bind (wpAny_dictEpoch hgb hd2 ?_)
  have hsz : arr.size = es2.length := by
    have h1 := hp2.length
    rw [q4.length]
    simpa using h1
  rw [List.range_eq_range']
  refine wpAny_bind (wpAny_mono (range_loop arr.size (fun i s' => ∃ h tk led1 ρ1, s' = put s h tk ∧ Inv cx f h m led1 ρ1 (st.set r (.dict (es ++ es2.take i))) ∧ Grow led ρ led1 ρ1 ∧ h.get? b = some o2) ?_ arr.size 0 (by omega) s ?_) (fun _ s' hJ => ?_) fun _ _ e => e)
  · rintro i s' hi ⟨h, tk, led1, ρ1, rfl, I1, G1, hb1⟩
    have hie : i < es2.length := by omega
    obtain ⟨⟨k, v⟩, hkv⟩ : ∃ kv, es2[i]? = some kv := ⟨_, List.getElem?_eq_getElem hie⟩
    obtain ⟨w, hw, X⟩ := q4.get hkv
    refine wpAny_bind (wpAny_dictEntries hb1 hd2 ?_)
    rw [Array.getElem?_eq_getElem hi]
    dsimp only
    obtain ⟨hkey, hval⟩ := hp2.get? (e := arr[i]) (by simp [hi]) hw
    obtain ⟨k', hkey', hhash⟩ := hk2 arr[i] (Array.getElem_mem hi)
    obtain rfl : k' = ⟨k.toArray⟩ := (PySem.strKind cx.prog cx.w).inj _ _ _ hkey' hkey
    have hst1 : (st.set r (.dict (es ++ es2.take i)))[r]? = some (.dict (es ++ es2.take i)) := by
      have := (List.getElem?_eq_some_iff.mp hst).1
      simp [this]
    have hr1 := G1.at hr
    obtain ⟨oo, dd, u1, u2, u3, _, u5⟩ := I1.putDict hr1 hst1 (k := k) (v := v) (w := w)
    have hmem : (k, v) ∈ es2 := List.mem_of_getElem? hkv
    have hfresh : (es ++ es2.take i).lookup k = none := by
      rw [List.lookup_eq_none_iff]
      intro q hq
      have hsplit : es ++ es2 = (es ++ es2.take i) ++ (es2.drop i) := by rw [List.append_assoc, List.take_append_drop]
      rw [hsplit, List.map_append, List.nodup_append] at nd
      have hd : (k, v) ∈ es2.drop i := by
        have : (es2.drop i)[0]? = some (k, v) := by rw [List.getElem?_drop]; simpa using hkv
        exact List.mem_of_getElem? this
      have := nd.2.2 q.1 (List.mem_map_of_mem hq) k (List.mem_map.mpr ⟨_, hd, rfl⟩)
      simpa using fun e : k = q.1 => this e.symm
    refine wpAny_bind (wpAny_holding ?_)
    rw [if_neg Bool.false_ne_true]
    rw [hhash, hval]
    have hlen1 := u3.length
    have hsml : dd.length ≤ sizeLine := by
      rw [List.length_append] at hl hlen1
      have : (es2.take i).length ≤ es2.length := by rw [List.length_take]; exact Nat.min_le_right _ _
      rw [sizeLine_eq]
      omega
    refine wp_dictPut hkey (dict_at I1 u1 u2) (u3.fresh hfresh) (fun h' hm hs => ?_) hsml
    have hb2 : h'.get? b = some o2 := (hs.2 b hab.symm).trans hb1
    refine wpAny_bind (wpAny_dictEpoch hb2 hd2 ?_)
    rw [if_neg (by simp)]
    refine wpAny_pure ⟨rfl, ?_⟩
    obtain ⟨led', I', G'⟩ := u5 (X.mono G1) hm hs
    refine ⟨h', tk, led', ρ1, rfl, ?_, G1.trans G', hb2⟩
    have e1 : es2.take (i + 1) = es2.take i ++ [(k, v)] := by rw [List.take_add_one, hkv]; rfl
    rw [e1, ← List.append_assoc]
    simpa using I'
  · refine ⟨s.heap, s.toks, led, ρ, rfl, ?_, .refl _ _, hgb⟩
    have : st.set r (.dict (es ++ es2.take 0)) = st := by
      rw [List.take_zero, List.append_nil]
      obtain ⟨h1, h2⟩ := List.getElem?_eq_some_iff.mp hst
      rw [← h2, List.set_getElem_self]
    rw [this]
    exact I
  · obtain ⟨h, tk, led1, ρ1, rfl, I1, G1, _⟩ := hJ
    refine wpAny_pure (P _ _ _ _ ?_ G1)
    rw [hsz, List.take_length] at I1
    exact I1
inductive PairsE (cx : Cx) (d : Nat) (sc : Sc) : List (Option Expr) → List Expr → List (List Nat × V) → Prop
  | nil : PairsE cx d sc [] [] []
  | cons {x : Str} {cs : List Nat} {k : Nat} {p : Pos} {e : Expr} {v : V} {ks vs es} : x = ⟨cs.toArray⟩ → SoundE cx d sc e (cE v) →
      PairsE cx d sc ks vs es → PairsE cx d sc (some (.Constant (.str x) k p) :: ks) (e :: vs) ((cs, v) :: es)
theorem each_opt (k : Expr) (ks : List (Option Expr)) (env : Env) : evalEachOpt (some k :: ks) env = some (eval k env) :: evalEachOpt ks env := by
  rfl
theorem pairs_of {ks vs es} (h : PairsE cx d sc ks vs es) {f : Fm} (ok : f.Ok cx d sc) (lo : List V) (ce : List Nat) (pos : Pos) :
    ∃ ps : List SV, (evalEachOpt ks f.ev).zip ((evalEach vs f.ev).map fun v => do let x ← v; standAt pos; pure x) = ps.map (fun p => (some p.1, p.2)) ∧ PairsT cx sc f lo ce ps es := by
  induction h with
  | nil => exact ⟨[], rfl, .nil⟩
  | @cons x cs k p e v ks vs es hx hv _ ih =>
    obtain ⟨ps, h1, h2⟩ := ih
    refine ⟨(eval (.Constant (.str x) k p) f.ev, do let x ← eval e f.ev; standAt pos; pure x) :: ps, ?_, .cons ⟨?_, ?_⟩ h2⟩
    · rw [each_opt, List.map_cons, ← h1]
      rfl
    · intro s Q E P
      subst hx
      show wpAny cx.M f.A (eval (.Constant (.str ⟨cs.toArray⟩) k p) f.ev) Q E s
      exact wpAny_Constant_str (P _ _)
    · intro s m led ρ st I R Q E P
      refine wpAny_bind (hv.1 f ok s m led ρ ⟨lo, ce, st⟩ I R _ _ rfl _ _ fun w h' tk' led' ρ' I' G' X' => wpAny_bind (wpAny_standAt (wpAny_pure (P _ _ _ _ _ I' G' X'))))
noncomputable def dictC (es : List (List Nat × V)) : SE := fun S => some (.ref (ln S.st), ad (ad S.st (.dict es)) (.dict (es.drop 17)))
theorem PairsT.append_inv {f : Fm} {lo ce} : ∀ {ps es} (T : PairsT cx sc f lo ce ps es) (n : Nat), PairsT cx sc f lo ce (ps.take n) (es.take n) ∧ PairsT cx sc f lo ce (ps.drop n) (es.drop n)
  | _, _, .nil, n => by simp; exact .nil
  | _, _, .cons a r, 0 => ⟨.nil, .cons a r⟩
  | _, _, .cons a r, n + 1 => ⟨.cons a (r.append_inv n).1, (r.append_inv n).2⟩
theorem PairsT.length {f : Fm} {lo ce} : ∀ {ps es} (T : PairsT cx sc f lo ce ps es), ps.length = es.length
  | _, _, .nil => rfl
  | _, _, .cons _ r => by simp [r.length]
theorem b_dictC {ks vs es} {pos : Pos} (h : PairsE cx d sc ks vs es) (h1 : 17 < es.length) (h2 : es.length ≤ 32) (nd : (es.map (·.1)).Nodup) : SoundE cx d sc (.Dict ks vs pos) (dictC es) := by
  refine ⟨?_⟩
  intro f ok s m led ρ S I R v st' hg Q E P
  unfold dictC at hg
  simp only [ad_eq, ln_eq, List.append_assoc, List.singleton_append] at hg
  cases hg
  obtain ⟨ps, e1, T⟩ := pairs_of h ok S.lo S.ce pos
  have hl := T.length
  show wpAny _ _ (eval (.Dict ks vs pos) f.ev) _ _ _
  rw [arm_eval_Dict, e1]
  refine wpAny_bind (wpAny_standAt ?_)
  obtain ⟨p, hp⟩ : ∃ p, ps[16]? = some p := ⟨_, List.getElem?_eq_getElem (by omega)⟩
  have hps : ps = ps.take 16 ++ p :: ps.drop 17 := by
    have h3 : ps.drop 16 = p :: ps.drop 17 := by
      have := List.drop_eq_getElem_cons (l := ps) (i := 16) (by omega)
      rw [this]
      have h4 := List.getElem?_eq_getElem (l := ps) (i := 16) (by omega)
      rw [hp] at h4
      rw [Option.some.inj h4]
    rw [← h3, List.take_append_drop]
  have ht : ps.take 17 = ps.take 16 ++ [p] := by rw [List.take_add_one, hp]; rfl
  have hd2 := display_two (ps.take 16) (ps.drop 17) p (by simp; omega) (by simp; omega) (by intro e; have := congrArg List.length e; simp at this; omega)
  rw [← hps, ← ht] at hd2
  rw [hd2]
  have hT := T.append_inv 17
  have nd' : ((es.take 17 ++ es.drop 17).map (·.1)).Nodup := by rw [List.take_append_drop]; exact nd
  have nda := nd'
  rw [List.map_append, List.nodup_append] at nda
  refine wpAny_bind (sub_long hT.1 (by simp; omega) I R nda.1 (by simp; omega) fun a h1' tk1 led1 ρ1 I1 G1 hr1 => ?_)
  refine wpAny_bind (wpAny_holding (sub_short (s := put s h1' tk1) hT.2 (by simp; omega) I1 (R.mono G1) nda.2.1 (by simp; omega) (modules_low (Top.nolimit ok.T)) fun b h2' tk2 led2 ρ2 hlo I2 G2 hr2 => ?_))
  refine wpAny_bind (wpAny_onRaise (wpAny_holding (merge_ok (s := put s h2' tk2) I2 (r := S.st.length) (r2 := (S.st ++ [Ob.dict (es.take 17)]).length) (G2.at hr1) hr2 (by simp) hlo (by simp) (by simp) ?_ nd' (by simp; omega) fun h3 tk3 led3 ρ3 I3 G3 => wpAny_pure ?_)))
  · intro e
    have := congrArg List.length e
    rw [List.length_take, List.length_nil] at this
    omega
  · refine P _ _ _ _ _ ?_ ((G1.trans G2).trans G3) (.ref _ a a (G3.at (G2.at hr1)))
    rw [List.take_append_drop] at I3
    simpa using I3
end
end Mp
namespace Mp
theorem len0 {α : Type} {ws : List α} (h : ws.length = 0) : ws = [] ∧ True := ⟨List.length_eq_zero_iff.mp h, trivial⟩
theorem lenS {α : Type} {ws : List α} {n : Nat} (h : ws.length = n + 1) : ∃ a r, ws = a :: r ∧ r.length = n := by
  match ws, h with
  | a :: r, h => exact ⟨a, r, rfl, by simpa using h⟩
theorem len1 {α : Type} {ws : List α} (h : ws.length = 1) : ∃ a, ws = [a] := by
  obtain ⟨a, r, rfl, h'⟩ := lenS h
  obtain ⟨rfl, _⟩ := len0 h'
  exact ⟨a, rfl⟩
theorem len2 {α : Type} {ws : List α} (h : ws.length = 2) : ∃ a b, ws = [a, b] := by
  obtain ⟨a, r, rfl, h'⟩ := lenS h
  obtain ⟨b, rfl⟩ := len1 h'
  exact ⟨a, b, rfl⟩
theorem len3 {α : Type} {ws : List α} (h : ws.length = 3) : ∃ a b c, ws = [a, b, c] := by
  obtain ⟨a, r, rfl, h'⟩ := lenS h
  obtain ⟨b, c, rfl⟩ := len2 h'
  exact ⟨a, b, c, rfl⟩
theorem len4 {α : Type} {ws : List α} (h : ws.length = 4) : ∃ a b c d, ws = [a, b, c, d] := by
  obtain ⟨a, r, rfl, h'⟩ := lenS h
  obtain ⟨b, c, d, rfl⟩ := len3 h'
  exact ⟨a, b, c, d, rfl⟩
theorem len5 {α : Type} {ws : List α} (h : ws.length = 5) : ∃ a b c d e, ws = [a, b, c, d, e] := by
  obtain ⟨a, r, rfl, h'⟩ := lenS h
  obtain ⟨b, c, d, e, rfl⟩ := len4 h'
  exact ⟨a, b, c, d, e, rfl⟩
theorem len6 {α : Type} {ws : List α} (h : ws.length = 6) : ∃ a b c d e f, ws = [a, b, c, d, e, f] := by
  obtain ⟨a, r, rfl, h'⟩ := lenS h
  obtain ⟨b, c, d, e, f, rfl⟩ := len5 h'
  exact ⟨a, b, c, d, e, f, rfl⟩
theorem len7 {α : Type} {ws : List α} (h : ws.length = 7) : ∃ a b c d e f g, ws = [a, b, c, d, e, f, g] := by
  obtain ⟨a, r, rfl, h'⟩ := lenS h
  obtain ⟨b, c, d, e, f, g, rfl⟩ := len6 h'
  exact ⟨a, b, c, d, e, f, g, rfl⟩
theorem bindD {cx : Cx} {fd : FuncData} {params : List Str} {ars : List Nat} {dflt : List V} {ds : List Value} (hd : ∀ led ρ, VRs cx led ρ dflt ds)
    (h : ∀ k ∈ ars, ∀ S (ws : List Value), ws.length = k → peek cx.K S (bindArgs fd ⟨ws, []⟩) = some (params.zip (ws ++ ds.drop (k + ds.length - params.length)))) :
    ∀ (h : Heap), cx.K.In h → ∀ led ρ (s : Shared) vs ws, s.heap = h → VRs cx led ρ vs ws → vs.length ∈ ars →
    ∃ es, VRs cx led ρ (dflt.drop (vs.length + dflt.length - params.length)) es ∧ BindsTo s fd ⟨ws, []⟩ (params.zip (ws ++ es)) := by
  intro hp X led ρ s vs ws hs V hl
  refine ⟨ds.drop (vs.length + dflt.length - params.length), (hd led ρ).drop _, kp_binds (hs ▸ X) fun S => ?_⟩
  rw [(hd led ρ).length]
  exact h _ hl S ws V.length.symm
theorem one_ar {P : Nat → Prop} {n : Nat} (h : P n) : ∀ k ∈ [n], P k := fun k hk => by
  rw [List.mem_singleton.mp hk]; exact h
theorem more_ar {P : Nat → Prop} {n : Nat} {r : List Nat} (h : P n) (hr : ∀ k ∈ r, P k) : ∀ k ∈ n :: r, P k := fun k hk => by
  rcases List.mem_cons.mp hk with rfl | hk
  · exact h
  · exact hr k hk
end Mp
namespace Mp
section
variable {cx : Cx} {d : Nat} {sc : Sc}
noncomputable def cutS (v : V) (lo hi : Option Int) (st : List Ob) : Option (V × List Ob) := match v with
  | .str cs => if cs.length ≤ 100000 then some (.str (sliceL cs lo hi), st) else none
  | _ => none
noncomputable def sliS (a : SE) (lo hi : S → Option (Option Int × List Ob)) : SE := fun S => match a S with
  | some (x, st) => match lo ⟨S.lo, S.ce, st⟩ with
    | some (i, st) => match hi ⟨S.lo, S.ce, st⟩ with
      | some (j, st) => cutS x i j st
      | none => none
    | none => none
  | none => none
theorem b_sliceS {a : Expr} {lo hi : Option Expr} {ga : SE} {gl gh : S → Option (Option Int × List Ob)} {pos p : Pos} (ha : SoundE cx d sc a ga) (hl : SoundP cx d sc lo gl) (hh : SoundP cx d sc hi gh)
    (hs : ∀ o i, subscripted (.Slice lo hi none p) false o i = operate [i, o] (getItem o i)) : SoundE cx d sc (.Subscript a (.Slice lo hi none p) pos) (sliS ga gl gh) := by
  refine ⟨?_⟩
  intro f ok s m led ρ S I R v st' hg Q E P
  refine Subscript_ ?_
  unfold sliS at hg
  split at hg
  · rename_i x st1 ea
    split at hg
    · rename_i i st2 el
      split at hg
      · rename_i j st3 eh
        refine ha.1 f ok s m led ρ S I R x st1 ea _ _ fun wx h1 tk1 led1 ρ1 I1 G1 X1 => wpAny_Slice ?_
        refine hl.1 f ok (put s h1 tk1) m led1 ρ1 ⟨S.lo, S.ce, st1⟩ I1 (R.mono G1) i _ el _ _ fun wi h2 tk2 led2 ρ2 I2 G2 X2 => ?_
        refine hh.1 f ok (put s h2 tk2) m led2 ρ2 ⟨S.lo, S.ce, st2⟩ I2 (R.mono (G1.trans G2)) j _ eh _ _ fun wj h3 tk3 led3 ρ3 I3 G3 X3 => ?_
        refine evalPart_none_step ?_
        have X1' := X1.mono (G2.trans G3)
        unfold cutS at hg
        cases X1' with
        | str cs t =>
          simp only at hg
          split at hg
          · rename_i hlen
            cases hg
            refine sl_str (s := put s h3 tk3) I3.F I3.N X2 X3 (fun h' t' k F' N' => ?_) (hs _ _) (by show cs.toArray.size ≤ _; rw [List.size_toArray, sizeLine_eq]; omega)
            rw [slice_str]
            exact P _ _ _ _ _ (I3.turn F' N') ((G1.trans G2).trans G3) (.str _ _)
          · cases hg
        | _ => simp only [reduceCtorEq] at hg
      · cases hg
    · cases hg
  · cases hg
end
end Mp
namespace Mp
noncomputable def ceE (i : Nat) : SE := fun S => match gt S.ce i with
  | some k => match gt S.st k with
    | some (.cell v) => if v.isUndef then none else some (v, S.st)
    | _ => none
  | none => none
noncomputable def asgC (i : Nat) : V → S → Option S := fun v S => match gt S.ce i with
  | some k => match gt S.st k with
    | some (.cell _) => some ⟨S.lo, S.ce, pt S.st k (.cell v)⟩
    | _ => none
  | none => none
noncomputable def pick (vs : List V) : Option Nat → V
  | some i => vs.getD i .undef
  | none => .undef
noncomputable def runC (np : Nat) (ls cs : List (Option Nat)) (g : SS) : FnG := fun vs st =>
  if vs.length = np then
    match g ⟨ls.map (pick vs), List.range' (ln st) cs.length, st ++ cs.map fun o => .cell (pick vs o)⟩ with
    | some (.ret v, S) => some (v, S.st)
    | some (.next, S) => some (.none, S.st)
    | _ => none
  else none
noncomputable abbrev CloG := List Nat → FnG
noncomputable def runK (np ns : Nat) (g : SS) : CloG := fun cells vs st =>
  if vs.length = np then
    match g ⟨vs ++ List.replicate (ns - np) .undef, cells, st⟩ with
    | some (.ret v, S) => some (v, S.st)
    | some (.next, S) => some (.none, S.st)
    | _ => none
  else none
noncomputable def dyn2E (tab : Nat → Option FnG) (ct : Nat → Option CloG) (fe : SE) (a : SEs) : SE := fun S => match fe S with
  | some (.g n, st) => match tab n with
    | some g => match a ⟨S.lo, S.ce, st⟩ with
      | some (vs, st) => g vs st
      | none => none
    | none => none
  | some (.ref r, st) => match gt st r with
    | some (.clo n cells) => match ct n with
      | some g => match a ⟨S.lo, S.ce, st⟩ with
        | some (vs, st) => g cells vs st
        | none => none
      | none => none
    | _ => none
  | _ => none
noncomputable def picks (ce : List Nat) : List Nat → Option (List Nat)
  | [] => some []
  | i :: r => match gt ce i with
    | some k => match picks ce r with
      | some ks => some (k :: ks)
      | none => none
    | none => none
noncomputable def compS (item : Nat → List Ob → Option (Option V)) (t : ST) (e : SE) (ce : List Nat) : Nat → Nat → List V → List Ob → Option (List V × List Ob)
  | 0, _, _, _ => none
  | n + 1, i, acc, st => match item i st with
    | none => none
    | some none => some (acc, st)
    | some (some v) => match t ⟨[v], ce, st⟩ with
      | some (true, st) => match e ⟨[v], ce, st⟩ with
        | some (y, st) => compS item t e ce n (i + 1) (acc ++ [y]) st
        | none => none
      | some (false, st) => compS item t e ce n (i + 1) acc st
      | none => none
noncomputable def tTrue : ST := fun S => some (true, S.st)
noncomputable def compV (g : SE) (t : ST) (e : SE) (is : List Nat) (n : Nat) : SE := fun S => match picks S.ce is with
  | some ce => match g S with
    | some (.str cs, st) => match compS (itemV (.str cs)) t e ce n 0 [] st with
      | some (ys, st) => some (.ref (ln st), ad st (.list ys))
      | none => none
    | _ => none
  | none => none
noncomputable def compR (lo hi : SE) (t : ST) (e : SE) (is : List Nat) (n : Nat) : SE := fun S => match picks S.ce is with
  | some ce => match lo S with
    | some (.int i, st) => match hi ⟨S.lo, S.ce, st⟩ with
      | some (.int j, st) => if i.natAbs ≤ 1000000 ∧ j.natAbs ≤ 1000000 then (match compS (itemR i j) t e ce n 0 [] st with
        | some (ys, st) => some (.ref (ln st), ad st (.list ys))
        | none => none) else none
      | _ => none
    | _ => none
  | none => none
noncomputable def asgR (is : List Nat) : V → S → Option S := fun v S => match v with
  | .tup vs => if vs.length = is.length then some ⟨setAll S.lo is.reverse vs.reverse, S.ce, S.st⟩ else none
  | _ => none
noncomputable def swapS (is : List Nat) (g : SEs) : SS := asgS (asgR is) (tupE g)
noncomputable def chE (a b c : SE) : SE := fun S => match a S with
  | some (.int x, st) => match b ⟨S.lo, S.ce, st⟩ with
    | some (.int y, st) => if x ≤ y then (match c ⟨S.lo, S.ce, st⟩ with
      | some (.int z, st) => some (.bool (decide (y ≤ z)), st)
      | _ => none) else some (.bool false, st)
    | _ => none
  | _ => none
noncomputable def defS (ti n : Nat) (is : List Nat) (asg : V → S → Option S) : SS := fun S => match picks S.ce is with
  | some cells => match gt S.st ti with
    | some (.tab n' _) => if n' = n then (match asg (.ref (ln S.st)) ⟨S.lo, S.ce, pt S.st ti (.tab n true) ++ [.clo n cells]⟩ with
      | some S' => some (.next, S')
      | none => none) else none
    | _ => none
  | none => none
mutual
noncomputable def V.under (n : Nat) : V → Bool
  | .ref i => Nat.blt i n
  | .tup vs => V.unders n vs
  | _ => true
noncomputable def V.unders (n : Nat) : List V → Bool
  | [] => true
  | v :: r => V.under n v && V.unders n r
end
noncomputable def Ob.under (n : Nat) : Ob → Bool
  | .list vs => V.unders n vs
  | .nums _ => true
  | .inst _ fs => V.unders n fs
  | .cell v => v.under n
  | .dict es => es.all fun e => e.2.under n
  | .clo _ cells => cells.all fun k => Nat.blt k n
  | .tab _ _ => true
  | .junk => true
noncomputable def gcG (g : FnG) : FnG := fun vs st => match g vs st with
  | some (v, st') => if v.under (ln st) && (st'.take (ln st)).all (Ob.under (ln st)) then some (v, st'.take (ln st)) else some (v, st')
  | none => none
noncomputable def Fl.under (n : Nat) : Fl → Bool
  | .ret v => v.under n
  | _ => true
noncomputable def gcS (g : SS) : SS := fun S => match g S with
  | some (fl, S') => if Fl.under (ln S.st) fl && V.unders (ln S.st) S'.lo && (S'.ce.all fun k => Nat.blt k (ln S.st)) && (S'.st.take (ln S.st)).all (Ob.under (ln S.st)) then
      some (fl, ⟨S'.lo, S'.ce, S'.st.take (ln S.st)⟩) else some (fl, S')
  | none => none
noncomputable def junkL (is : List Nat) (st : List Ob) : List Ob := is.foldl (fun st i => pt st i .junk) st
noncomputable def junkS (is : List Nat) (g : SS) : SS := fun S => match g S with
  | some (fl, S') => some (fl, ⟨S'.lo, S'.ce, junkL is S'.st⟩)
  | none => none
noncomputable def dropL (is : List Nat) (lo : List V) : List V := is.foldl (fun lo i => pt lo i .undef) lo
noncomputable def dropS (is : List Nat) (g : SS) : SS := fun S => match g S with
  | some (fl, S') => some (fl, ⟨dropL is S'.lo, S'.ce, S'.st⟩)
  | none => none
end Mp
namespace Mp
section
variable {cx : Cx} {d : Nat} {sc : Sc}
structure CelName (sc : Sc) (i : Nat) (x : Str) : Prop where
  at_ : sc.cns[i]? = some x
  kind : (match sc.cs.names.lookup x with
    | some .cell => true
    | some .free => true
    | _ => false) = true
  dbg : (x == ("__debug__" : Str)) = false
  dct : (x == ("__classdict__" : Str)) = false
theorem Inv.cell_at {f : Fm} {h m led ρ st} (I : Inv cx f h m led ρ st) {k : Nat} {c : Addr} {v : V} (hst : st[k]? = some (.cell v)) (hr : ρ[k]? = some (c, c)) (hv : v.isUndef = false) :
    ∃ w, h.IsCell c (some w) ∧ VR cx led ρ v w := by
  obtain ⟨a, o, w, h1, h2, h3, h4⟩ := I.ob _ _ hst
  rw [hr] at h1
  cases h1
  rcases h4 with rfl | ⟨w', rfl, X⟩
  · cases hv
  · exact ⟨w', ⟨o, (I.at_ h2).1, h3⟩, X⟩
theorem ce_name {i : Nat} {x : Str} {pos : Pos} (h : CelName sc i x) : SoundE cx d sc (.Name x pos) (ceE i) := by
  refine ⟨?_⟩
  intro f ok s m led ρ S I R v st' hg Q E P
  unfold ceE at hg
  try simp only [gt_eq, pt_eq, ad_eq, ln_eq] at hg
  split at hg
  · rename_i k hk
    split at hg
    · rename_i v' hst
      split at hg
      · cases hg
      · rename_i hu
        cases hg
        obtain ⟨c, k', hc, hk', hr⟩ := R.cel i x h.at_
        rw [hk] at hk'
        cases hk'
        obtain ⟨w, hw, X⟩ := I.cell_at hst hr (by simpa using hu)
        have fin : Q w s := P _ _ s.toks _ _ I (.refl _ _) X
        have hkd := h.kind
        split at hkd
        · rename_i hl
          exact wpAny_Name (wpAny_loadName_cell ok.evk (ok.kind hl) hc hw fin) h.dbg
        · rename_i hl
          exact wpAny_Name (wpAny_loadName_free ok.evk (ok.kind hl) hc hw fin h.dct) h.dbg
        · cases hkd
    · cases hg
  · cases hg
structure CelOwn (sc : Sc) (i : Nat) (x : Str) : Prop where
  at_ : sc.cns[i]? = some x
  kind : sc.cs.names.lookup x = some .cell
theorem u_cell {i : Nat} {x : Str} {pos : Pos} (h : CelOwn sc i x) : SoundU cx d sc (.Name x pos) (asgC i) := by
  refine ⟨?_⟩
  intro f ok s m led ρ S I R v w X S' e Q E P
  unfold asgC at e
  try simp only [gt_eq, pt_eq, ad_eq, ln_eq] at e
  split at e
  · rename_i k hk
    split at e
    · rename_i v0 hst
      cases e
      obtain ⟨c, k', hc, hk', hr⟩ := R.cel i x h.at_
      rw [hk] at hk'
      cases hk'
      obtain ⟨a, o, w0, h1, h2, h3, h4⟩ := I.ob _ _ hst
      rw [hr] at h1
      cases h1
      have z := I.at_ h2
      refine assign_Name (wpAny_storeName_cell ok.evk (ok.kind h.kind) hc ⟨o, z.1, h3⟩ fun h' hv hs => ?_)
      obtain ⟨o', ho', hd'⟩ := hv
      obtain ⟨pre, post, e1, e2, q1, q2⟩ := (I.upd (o' := o') h2).split
      obtain ⟨I', G'⟩ := I.store hr h2 (by unfold Frz; rw [h3]) (I.F.change hs z.2.1 z.2.2) (by rw [e2]; exact news_set (e1 ▸ I.N) q1 q2 hs ho') (ob := .cell v)
        fun g => ⟨c, o', some w, hr, updL_self h2, hd', .inr ⟨w, rfl, X.mono g⟩⟩
      exact P _ _ s.toks _ _ I' G' (R.mono G')
    · cases e
  · cases e
theorem VR.under' {n : Nat} {led : Led} {ρ ρ' t : Rho} (he : ρ' = ρ ++ t) (hl : ρ.length = n) {v w} (h : VR cx led ρ' v w) : V.under n v = true → VR cx led ρ v w :=
  @VR.rec cx led ρ' (fun v w _ => V.under n v = true → VR cx led ρ v w) (fun vs ws _ => V.unders n vs = true → VRs cx led ρ vs ws) (fun _ => .none) (fun b _ => .bool b) (fun i t _ => .int i t) (fun cs t _ => .str cs t)
    (fun i a d h hu => .ref i a d (by
      have : i < n := by simpa [V.under] using hu
      subst he
      rwa [List.getElem?_append_left (by omega)] at h)) (fun n _ => .g n) (fun vs ws a k h _ r hu => .tup vs ws a k h (r (by simpa [V.under] using hu))) (fun _ => .nil)
    (fun _ _ a r hu => .cons (a (by simp [V.unders] at hu; exact hu.1)) (r (by simp [V.unders] at hu; exact hu.2))) v w h
theorem VRs.under' {n : Nat} {led : Led} {ρ ρ' t : Rho} (he : ρ' = ρ ++ t) (hl : ρ.length = n) {vs ws} (h : VRs cx led ρ' vs ws) : V.unders n vs = true → VRs cx led ρ vs ws :=
  @VRs.rec cx led ρ' (fun v w _ => V.under n v = true → VR cx led ρ v w) (fun vs ws _ => V.unders n vs = true → VRs cx led ρ vs ws) (fun _ => .none) (fun b _ => .bool b) (fun i t _ => .int i t) (fun cs t _ => .str cs t)
    (fun i a d h hu => .ref i a d (by
      have : i < n := by simpa [V.under] using hu
      subst he
      rwa [List.getElem?_append_left (by omega)] at h)) (fun n _ => .g n) (fun vs ws a k h _ r hu => .tup vs ws a k h (r (by simpa [V.under] using hu))) (fun _ => .nil)
    (fun _ _ a r hu => .cons (a (by simp [V.unders] at hu; exact hu.1)) (r (by simp [V.unders] at hu; exact hu.2))) vs ws h
theorem VR.under {n : Nat} {led : Led} {ρ t : Rho} (hl : ρ.length = n) {v w} (hu : V.under n v = true) (h : VR cx led (ρ ++ t) v w) : VR cx led ρ v w := VR.under' rfl hl h hu
theorem VRs.under {n : Nat} {led : Led} {ρ t : Rho} (hl : ρ.length = n) {vs ws} (hu : V.unders n vs = true) (h : VRs cx led (ρ ++ t) vs ws) : VRs cx led ρ vs ws := VRs.under' rfl hl h hu
theorem under_get {n : Nat} : ∀ {vs : List V} {i : Nat} {v}, V.unders n vs = true → vs[i]? = some v → V.under n v = true
  | _ :: _, 0, _, h, e => by simp at e; subst e; simp [V.unders] at h; exact h.1
  | _ :: _, i + 1, _, h, e => by simp [V.unders] at h; exact under_get h.2 (by simpa using e)
theorem CelsR.under {n : Nat} {ρ t : Rho} (hl : ρ.length = n) {cl xs ks} (hu : ks.all (fun k => Nat.blt k n) = true) (h : CelsR (ρ ++ t) cl xs ks) : CelsR ρ cl xs ks := by
  induction h with
  | nil => exact .nil
  | cons a _ ih =>
    simp only [List.all_cons, Bool.and_eq_true] at hu
    refine .cons ?_ (ih hu.2)
    have := Nat.blt_eq.mp hu.1
    rwa [List.getElem?_append_left (by omega)] at a
theorem ObR.under {n i : Nat} {led : Led} {ρ t : Rho} {o : Ob} (hl : ρ.length = n) (hi : i < n) (hu : Ob.under n o = true) (h : ObR cx led (ρ ++ t) i o) : ObR cx led ρ i o := by
  have at' : ∀ {q : Addr × Addr}, (ρ ++ t)[i]? = some q → ρ[i]? = some q := fun e => by rwa [List.getElem?_append_left (by omega)] at e
  cases o with
  | list vs =>
    obtain ⟨a, ws, k, h1, h2, h3⟩ := h
    exact ⟨a, ws, k, at' h1, h2, VRs.under hl hu h3⟩
  | nums is =>
    obtain ⟨a, ws, k, h1, h2, h3⟩ := h
    exact ⟨a, ws, k, at' h1, h2, h3⟩
  | inst c fs =>
    obtain ⟨a, d, es, k, h1, h2, h3, h4, h5⟩ := h
    exact ⟨a, d, es, k, at' h1, h2, h3, h4, h5.len, h5.nref, h5.non, h5.un, fun j x v p q r => let ⟨w, y, X⟩ := h5.got j x v p q r; ⟨w, y, VR.under hl (under_get hu q) X⟩⟩
  | cell v =>
    obtain ⟨a, o, w, h1, h2, h3, h4⟩ := h
    exact ⟨a, o, w, at' h1, h2, h3, h4.imp id fun ⟨w', e, X⟩ => ⟨w', e, VR.under hl hu X⟩⟩
  | dict es =>
    obtain ⟨a, o, ds, h1, h2, h3, h4⟩ := h
    refine ⟨a, o, ds, at' h1, h2, h3, ?_⟩
    have hu' : es.all (fun e => e.2.under n) = true := hu
    clear h3 hu h2 h1
    induction h4 with
    | nil => exact .nil
    | cons a _ ih =>
      simp only [List.all_cons, Bool.and_eq_true] at hu'
      exact .cons (VR.under hl hu'.1 a) (ih hu'.2)
  | clo k cells =>
    obtain ⟨a, cl, c', doc, pm, ctv, h1, h2, h3, h4⟩ := h
    exact ⟨a, cl, c', doc, pm, ctv, at' h1, h2, h3, CelsR.under hl hu h4⟩
  | tab k made =>
    obtain ⟨P, ps, h1, h2, h3, h4⟩ := h
    exact ⟨P, ps, at' h1, h2, h3, h4⟩
  | junk =>
    obtain ⟨a, d, o, h1, h2, h3⟩ := h
    exact ⟨a, d, o, at' h1, h2, h3⟩
theorem Inv.under {f : Fm} {h m led led0 ρ ρ' st} {n : Nat} (I : Inv cx f h m led ρ' st) (G : Grow led0 ρ led ρ') (hn : ρ.length = n) (hu : (st.take n).all (Ob.under n) = true) : Inv cx f h m led ρ (st.take n) ∧ Grow led0 ρ led ρ := by
  obtain ⟨t, rfl⟩ := G.rho
  refine ⟨⟨I.F, I.N, I.nd, ?_, ?_, fun i o e => ?_⟩, G.fz, [], by simp⟩
  · have := I.sep
    rw [List.map_append, List.nodup_append] at this
    exact this.1
  · have := I.len
    rw [List.length_append] at this
    rw [List.length_take]
    omega
  · have hi : i < n := by
      have := (List.getElem?_eq_some_iff.mp e).1
      rw [List.length_take] at this
      omega
    rw [List.getElem?_take_of_lt hi] at e
    exact ObR.under hn hi (List.all_eq_true.mp hu _ (List.mem_of_getElem? (by rw [List.getElem?_take_of_lt hi]; exact e))) (I.ob i o e)
theorem gc_ok {fv : Value} {g : FnG} (h : CallOk cx d fv g) : CallOk cx d fv (gcG g) := by
  refine ⟨?_⟩
  intro sc f ok s m led ρ st I vs ws X v st' e R P
  unfold gcG at e
  try simp only [gt_eq, pt_eq, ad_eq, ln_eq] at e
  split at e
  · rename_i v1 st1 e1
    split at e
    · rename_i hu
      cases e
      simp only [Bool.and_eq_true] at hu
      refine h.1 sc f ok s m led ρ st I vs ws X _ _ e1 _ fun w h' tk' led' ρ' I' G' X' => ?_
      obtain ⟨I2, G2⟩ := I'.under G' I.len hu.2
      obtain ⟨t, rfl⟩ := G'.rho
      exact P _ _ _ _ _ I2 G2 (VR.under I.len hu.1 X')
    · cases e
      exact h.1 sc f ok s m led ρ st I vs ws X _ _ e1 _ P
  · cases e
theorem gc_s {t : Stmt} {g : SS} (h : SoundS cx d sc t g) : SoundS cx d sc t (gcS g) := by
  refine ⟨?_⟩
  intro f ok s m led ρ S I R fl S' hg Q E P
  unfold gcS at hg
  try simp only [gt_eq, pt_eq, ad_eq, ln_eq] at hg
  split at hg
  · rename_i fl1 S1 e1
    split at hg
    · rename_i hu
      cases hg
      simp only [Bool.and_eq_true] at hu
      obtain ⟨⟨⟨hu1, hu2⟩, hu3⟩, hu4⟩ := hu
      refine h.1 f ok s m led ρ S I R _ _ e1 _ _ fun fw m' h' tk' led' ρ' I' G' R' X' => ?_
      obtain ⟨I2, G2⟩ := I'.under G' I.len hu4
      obtain ⟨t, rfl⟩ := G'.rho
      refine P _ _ _ _ _ _ I2 G2 ⟨R'.nd, R'.len, fun i x v p q r => ?_, fun i x p => ?_⟩ ?_
      · obtain ⟨w, y, X⟩ := R'.loc i x v p q r
        exact ⟨w, y, VR.under I.len (under_get hu2 q) X⟩
      · obtain ⟨c, k, y, q, r⟩ := R'.cel i x p
        refine ⟨c, k, y, q, ?_⟩
        have := Nat.blt_eq.mp (List.all_eq_true.mp hu3 _ (List.mem_of_getElem? q))
        have hl := I.len
        have hl2 := ln_eq S.st
        rwa [List.getElem?_append_left (by omega)] at r
      · cases X' with
        | next => exact .next
        | brk => exact .brk
        | cont => exact .cont
        | ret X => exact .ret (VR.under I.len hu1 X)
    · cases hg
      exact h.1 f ok s m led ρ S I R _ _ e1 _ _ P
  · cases hg
theorem Inv.junk {f : Fm} {h m led ρ st} (I : Inv cx f h m led ρ st) (i : Nat) : Inv cx f h m led ρ (st.set i .junk) := by
  refine ⟨I.F, I.N, I.nd, I.sep, by simp [I.len], fun j x e => ?_⟩
  by_cases hj : i = j
  · subst hj
    have hlt := (List.getElem?_eq_some_iff.mp e).1
    rw [List.length_set] at hlt
    rw [List.getElem?_set_self hlt] at e
    cases e
    have hr : i < ρ.length := by rw [I.len]; exact hlt
    obtain ⟨o, ho, hz⟩ := I.rho_obj ρ[i] (List.getElem_mem hr)
    exact ⟨ρ[i].1, ρ[i].2, o, List.getElem?_eq_getElem hr, ho, hz⟩
  · rw [List.getElem?_set_ne hj] at e
    exact I.ob j x e
theorem Inv.junkL {f : Fm} {h m led ρ} : ∀ (is : List Nat) {st}, Inv cx f h m led ρ st → Inv cx f h m led ρ (Mp.junkL is st)
  | [], _, I => I
  | i :: r, _, I => Inv.junkL r (by dsimp only; rw [pt_eq]; exact I.junk i)
theorem junk_s {t : Stmt} {g : SS} {is : List Nat} (h : SoundS cx d sc t g) : SoundS cx d sc t (junkS is g) := by
  refine ⟨?_⟩
  intro f ok s m led ρ S I R fl S' hg Q E P
  unfold junkS at hg
  split at hg
  · rename_i fl1 S1 e1
    cases hg
    exact h.1 f ok s m led ρ S I R _ _ e1 _ _ fun fw m' h' tk' led' ρ' I' G' R' X' => P _ _ _ _ _ _ (Inv.junkL is I') G' R' X'
  · cases hg
theorem LR.drop {f : Fm} {m led ρ lo ce} (R : LR cx sc f m led ρ lo ce) (i : Nat) : LR cx sc f m led ρ (lo.set i .undef) ce := by
  refine ⟨R.nd, by rw [List.length_set]; exact R.len, fun j x v hx hv hne => ?_, R.cel⟩
  by_cases hj : i = j
  · subst hj
    have hlt := (List.getElem?_eq_some_iff.mp hv).1
    rw [List.length_set] at hlt
    rw [List.getElem?_set_self hlt] at hv
    cases hv
    exact absurd rfl hne
  · rw [List.getElem?_set_ne hj] at hv
    exact R.loc j x v hx hv hne
theorem LR.dropL {f : Fm} {m led ρ ce} : ∀ (is : List Nat) {lo}, LR cx sc f m led ρ lo ce → LR cx sc f m led ρ (Mp.dropL is lo) ce
  | [], _, R => R
  | i :: r, _, R => LR.dropL r (by dsimp only; rw [pt_eq]; exact R.drop i)
theorem drop_s {t : Stmt} {g : SS} {is : List Nat} (h : SoundS cx d sc t g) : SoundS cx d sc t (dropS is g) := by
  refine ⟨?_⟩
  intro f ok s m led ρ S I R fl S' hg Q E P
  unfold dropS at hg
  split at hg
  · rename_i fl1 S1 e1
    cases hg
    exact h.1 f ok s m led ρ S I R _ _ e1 _ _ fun fw m' h' tk' led' ρ' I' G' R' X' => P _ _ _ _ _ _ I' G' (LR.dropL is R') X'
  · cases hg
inductive NamesX (sc : Sc) : List Str → List Nat → Prop
  | nil : NamesX sc [] []
  | cons {i x xs is} : LocName sc i x → NamesX sc xs is → NamesX sc (x :: xs) (i :: is)
theorem NamesX.append {xs is ys js} (h : NamesX sc xs is) (k : NamesX sc ys js) : NamesX sc (xs ++ ys) (is ++ js) := by
  induction h with
  | nil => exact k
  | cons a _ ih => exact .cons a ih
theorem NamesX.reverse {xs is} (h : NamesX sc xs is) : NamesX sc xs.reverse is.reverse := by
  induction h with
  | nil => exact .nil
  | cons a _ ih => rw [List.reverse_cons, List.reverse_cons]; exact ih.append (.cons a .nil)
theorem NamesX.length {xs is} (h : NamesX sc xs is) : xs.length = is.length := by
  induction h with
  | nil => rfl
  | cons _ _ ih => simp [ih]
theorem binds_in {xs is} (h : NamesX sc xs is) : ∀ {f : Fm}, f.Ok cx d sc → ∀ {s : Shared} {m led ρ} {S : S}, Inv cx f s.heap m led ρ S.st → LR cx sc f m led ρ S.lo S.ce → ∀ {vs ws}, VRs cx led ρ vs ws →
    ∀ {Q : Unit → Shared → Prop} {E}, (∀ m' h' tk' led' ρ', Inv cx f h' m' led' ρ' S.st → Grow led ρ led' ρ' → LR cx sc f m' led' ρ' (setAll S.lo is vs) S.ce → Q () (put s h' tk')) →
    wpAny cx.M f.A (assignInOrder (xs.map fun n => bindName (f.env sc) n) ws) Q E s := by
  induction h with
  | nil =>
    intro f ok s m led ρ S I R vs ws X Q E P
    show wpAny _ _ (pure ()) Q E s
    exact wpAny_pure (P _ _ s.toks _ _ I (.refl _ _) (by unfold setAll; exact R))
  | @cons i x xs is hx _ ih =>
    intro f ok s m led ρ S I R vs ws X Q E P
    cases X with
    | nil =>
      show wpAny _ _ (pure ()) Q E s
      exact wpAny_pure (P _ _ s.toks _ _ I (.refl _ _) (by unfold setAll; exact R))
    | cons X Xs =>
      rename_i v w vs ws
      show wpAny _ _ (do holding ws (bindName (f.env sc) x w); assignInOrder (xs.map fun n => bindName (f.env sc) n) ws) Q E s
      refine wpAny_bind (wpAny_holding (bindName_ (store_loc hx ok I R X fun m1 h1 tk1 led1 ρ1 I1 G1 R1 => ?_)))
      refine ih ok (s := put s h1 tk1) (S := ⟨S.lo.set i v, S.ce, S.st⟩) I1 R1 (Xs.mono G1) fun m2 h2 tk2 led2 ρ2 I2 G2 R2 => ?_
      exact P _ _ _ _ _ I2 (G1.trans G2) (by unfold setAll; rw [pt_eq]; exact R2)
theorem VRs.reverse {led ρ} {vs ws} (h : VRs cx led ρ vs ws) : VRs cx led ρ vs.reverse ws.reverse := by
  induction vs generalizing ws with
  | nil => cases h; exact .nil
  | cons v vs ih =>
    cases h with
    | cons a r =>
      rw [List.reverse_cons, List.reverse_cons]
      exact (ih r).append (.cons a .nil)
theorem s_swap {ts es : List Expr} {k k' : Nat} {tp vp pos : Pos} {xs : List Str} {is : List Nat} {g : SEs} (hn : NamesX sc xs is) (h : SoundEs cx d sc es g)
    (hs : ∀ env, swapsWithSole [.Tuple ts k tp] (.Tuple es k' vp) pos.line env = pure false) (hw : ∀ env : Env, swappedStores [.Tuple ts k tp] (.Tuple es k' vp) { env with scope := sc.cs } = pure (some xs)) :
    SoundS cx d sc (.Assign [.Tuple ts k tp] (.Tuple es k' vp) pos) (swapS is g) := by
  refine ⟨?_⟩
  intro f ok s m led ρ S I R fl S' hg Q E P
  unfold swapS asgS at hg
  split at hg
  · rename_i v st1 e1
    split at hg
    · rename_i S1 e2
      cases hg
      refine Assign_Tuple_swapped (names := xs) ?_ (hs _) (by have := hw f.ev; rw [← ok.evs] at this; exact this)
      refine (b_tup h).1 f ok s m led ρ S I R _ _ e1 _ _ fun w h1 tk1 led1 ρ1 I1 G1 X1 => ?_
      unfold asgR at e2
      split at e2
      · rename_i vs
        split at e2
        · rename_i hl
          cases e2
          cases X1 with
          | tup _ ws a n hm r =>
            refine unpackItemsN_ (s := put s h1 tk1) I1.F I1.N (tup_at ok I1 hm) ok.hh (by rw [hn.length, ← hl, r.length]; simp) fun h' F' N' => ?_
            have I' := I1.turn F' N'
            have hrev : ws.toArray.toList.reverse = ws.reverse := by simp
            rw [hrev]
            exact binds_in (s := put s h' tk1) hn.reverse ok (S := ⟨S.lo, S.ce, st1⟩) I' (R.mono G1) r.reverse fun m2 h2 tk2 led2 ρ2 I2 G2 R2 => P _ _ _ _ _ _ I2 (G1.trans G2) R2 .next
        · cases e2
      · cases e2
    · cases hg
  · cases hg
end
end Mp
namespace Mp
noncomputable def relS (scope cs : Scope) : Scope :=
  { scope with names := scope.names.map fun (n, k) => if (k == .free && cs.kind == .function && cs.names.lookup n == some .cell) then (n, .cell) else (n, k) }
theorem relS_eq (scope : Scope) (env : Env) : relabel scope env = relS scope env.scope := rfl
noncomputable def freesL (names : List (Str × NameKind)) : List Str := (names.filter fun x => x.2 == .free).map (·.1)
noncomputable def freesOf (scope : Scope) : List Str := (freesL scope.names).reverse
theorem clos_loop (env : Env) (look : Str → Addr) : ∀ (names : List (Str × NameKind)) (acc : List (Str × Addr)), (∀ x ∈ freesL names, env.cells.lookup x = some (look x)) →
    (forIn names acc (fun (p : Str × NameKind) cs => (match p with
      | (name, kind) => if kind == .free then do
          let c ← cellOf env name
          pure (ForInStep.yield ((name, c) :: cs)) else pure (ForInStep.yield cs) : Sem (ForInStep (List (Str × Addr)))))) = pure ((freesL names).reverse.map (fun n => (n, look n)) ++ acc)
  | [], acc, _ => by simp [freesL]
  | (n, k) :: r, acc, h => by
    rw [List.forIn_cons]
    by_cases hk : (k == NameKind.free) = true
    · have hn : env.cells.lookup n = some (look n) := h n (by simp [freesL, hk])
      have hr : ∀ x ∈ freesL r, env.cells.lookup x = some (look x) := fun x hx => h x (by
        simp only [freesL, List.filter_cons, hk, if_true, List.map_cons]
        exact List.mem_cons_of_mem _ hx)
      have e : freesL ((n, k) :: r) = n :: freesL r := by simp [freesL, hk]
      rw [e]
      have hc : cellOf env n = pure (look n) := by unfold cellOf; rw [hn]
      simp only [hk, if_true, hc, pure_bind]
      rw [clos_loop env look r _ hr]
      simp
    · have hr : ∀ x ∈ freesL r, env.cells.lookup x = some (look x) := fun x hx => h x (by
        simp only [freesL, List.filter_cons, hk]
        exact hx)
      have e : freesL ((n, k) :: r) = freesL r := by simp [freesL, hk]
      rw [e]
      simp only [hk, Bool.false_eq_true, if_false, pure_bind]
      rw [clos_loop env look r _ hr]
theorem closureFor_of {scope : Scope} {env : Env} {cl : List (Str × Addr)} (h1 : cl.map (·.1) = freesOf scope) (h2 : ∀ p ∈ cl, env.cells.lookup p.1 = some p.2) : closureFor scope env = pure cl := by
  have key := clos_loop env (fun x => (env.cells.lookup x).getD 0) scope.names [] (fun x hx => by
    have : x ∈ cl.map (·.1) := by rw [h1]; unfold freesOf; simpa using hx
    obtain ⟨p, hp, rfl⟩ := List.mem_map.mp this
    rw [h2 p hp]
    rfl)
  have e : (freesL scope.names).reverse.map (fun n => (n, (env.cells.lookup n).getD 0)) = cl := by
    show (freesOf scope).map _ = cl
    rw [← h1, List.map_map]
    refine (List.map_congr_left (g := id) fun p hp => ?_).trans (List.map_id cl)
    simp only [Function.comp, h2 p hp, Option.getD_some, id]
  rw [e, List.append_nil] at key
  unfold closureFor
  exact (bind_pure _).trans key
section
variable {cx : Cx} {d : Nat} {sc : Sc}
theorem cels_of {f : Fm} {m led ρ} {S : S} (R : LR cx sc f m led ρ S.lo S.ce) : ∀ {fv : List Str} {is ks : List Nat}, fv.map some = is.map (fun i => sc.cns[i]?) → picks S.ce is = some ks →
    ∃ cl, CelsR ρ cl fv ks ∧ cl.map (·.1) = fv ∧ ∀ p ∈ cl, f.ev.cells.lookup p.1 = some p.2
  | [], [], ks, _, h => by simp [picks] at h; subst h; exact ⟨[], .nil, rfl, fun p hp => nomatch hp⟩
  | [], _ :: _, _, h, _ => by simp at h
  | _ :: _, [], _, h, _ => by simp at h
  | x :: fv, i :: is, ks, h, hp => by
    simp only [List.map_cons, List.cons.injEq] at h
    unfold picks at hp
    try simp only [gt_eq, pt_eq, ad_eq, ln_eq] at hp
    split at hp
    · rename_i k hk
      split at hp
      · rename_i ks' hks
        cases hp
        obtain ⟨cl, h1, h2, h3⟩ := cels_of R h.2 hks
        obtain ⟨c, k', a1, a2, a3⟩ := R.cel i x h.1.symm
        rw [hk] at a2
        cases a2
        exact ⟨(x, c) :: cl, .cons a3 h1, by simp [h2], fun p hp => by
          rcases List.mem_cons.mp hp with rfl | hp
          · exact a1
          · exact h3 p hp⟩
      · cases hp
    · cases hp
theorem CelsR.look {ρ : Rho} {cl xs ks} (h : CelsR ρ cl xs ks) (nd : xs.Nodup) : ∀ {i : Nat} {x : Str}, xs[i]? = some x → ∃ (c : Addr) (k : Nat), cl.lookup x = some c ∧ ks[i]? = some k ∧ ρ[k]? = some (c, c) := by
  induction h with
  | nil => intro i x e; simp at e
  | @cons y c k cl xs ks a r ih =>
    intro i x e
    rw [List.nodup_cons] at nd
    cases i with
    | zero => simp at e; subst e; exact ⟨c, k, by simp, by simp, a⟩
    | succ i =>
      simp only [List.getElem?_cons_succ] at e
      obtain ⟨c', k', q1, q2, q3⟩ := ih nd.2 e
      have hne : (x == y) = false := by
        have : x ≠ y := by rintro rfl; exact nd.1 (List.mem_of_getElem? e)
        simpa using this
      exact ⟨c', k', by rw [List.lookup_cons, hne]; exact q1, by simpa using q2, q3⟩
structure SoundI (cx : Cx) (d : Nat) (sc : Sc) (ifs : List Expr) (g : ST) : Prop where
  out : ∀ (f : Fm), f.Ok cx d sc → ∀ (s : Shared) m led ρ (S₀ : S), Inv cx f s.heap m led ρ S₀.st → LR cx sc f m led ρ S₀.lo S₀.ce → ∀ b st', g S₀ = some (b, st') →
    ∀ Q E, PostT cx f m led ρ st' b Q s → wpAny cx.M f.A (forIn ifs true fun c r => if r = true then do let ok ← isTrue c f.ev (eval c f.ev); pure (ForInStep.yield ok) else pure (ForInStep.yield r)) Q E s
theorem i_nil : SoundI cx d sc [] tTrue := by
  refine ⟨?_⟩
  intro f ok s m led ρ S I R b st' e Q E P
  cases e
  rw [List.forIn_nil]
  exact wpAny_pure (P _ s.toks _ _ I (.refl _ _))
theorem i_one {c : Expr} {t : ST} (h : SoundT cx d sc c t) : SoundI cx d sc [c] t := by
  refine ⟨?_⟩
  intro f ok s m led ρ S I R b st' e Q E P
  exact wpAny_tests_one (h.1 f ok s m led ρ S I R b st' e Q E P)
noncomputable def compFm (f : Fm) (scope : Scope) (cl : List (Str × Addr)) (C D : Addr) (oL : Obj) (ys : List Value) : Fm :=
  { f with L := C, kept := (f.L, oL) :: (D, LCg.lst ys) :: f.kept, ev := compEnvC scope cl C f.ev }
structure CompOk (sc sc' : Sc) (scope : Scope) (x : Str) (is : List Nat) : Prop where
  cs : sc'.cs = relS scope sc.cs
  ns : sc'.ns = [x]
  cns : sc'.cns = freesOf scope
  is : (freesOf scope).map some = is.map fun i => sc.cns[i]?
  nd : (freesOf scope).Nodup
  ex : ∀ e, sc'.ex e
  kind : scope.kind = .function
  ncell : (scope.names.all fun y => decide (y.2 ≠ .cell)) = true
  loc : (scope.names.all fun y => !(y.2 == .local) || (scope.names.lookup y.1 == some .local)) = true
  at_ : scope.names.lookup x = some .local
  dbg : (x == ("__debug__" : Str)) = false
theorem compFm_ok {sc' : Sc} {scope : Scope} {x : Str} {is : List Nat} (k : CompOk sc sc' scope x is) {f : Fm} (ok : f.Ok cx d sc) {cl : List (Str × Addr)} {C D : Addr} {oL : Obj} {mo : Str → Option Value} {ys : List Value}
    (hL : NsObj oL mo) (habove : f.h₀.objs.size ≤ f.L) : (compFm f scope cl C D oL ys).Ok cx d sc' where
  hA := ok.hA
  B := ok.B
  X := ok.X
  T := ok.T
  hk := by rw [k.cs]; exact k.kind
  evs := by
    show relabel scope f.ev = _
    rw [relS_eq, ok.evs, k.cs]
  evl := rfl
  evg := ok.evg
  evb := ok.evb
  evx := k.ex _
  fek := ok.fek
  fr := by
    rcases ok.fr with h | ⟨Lr, oLr, mr, h1, h2, h3, h4⟩
    · exact .inr ⟨f.L, oL, mo, h, .head _, hL, habove⟩
    · exact .inr ⟨Lr, oLr, mr, h1, .tail _ (.tail _ h2), h3, h4⟩
  dep := ok.dep
  un := ok.un
  hh := ok.hh
end
end Mp
namespace Mp
section
variable {cx : Cx} {d : Nat} {sc : Sc}
theorem CompOk.name {sc' : Sc} {scope : Scope} {x : Str} {is : List Nat} (k : CompOk sc sc' scope x is) {f : Fm} (ok : f.Ok cx d sc) : LocName sc' 0 x where
  at_ := by rw [k.ns]; rfl
  kind := by
    rw [k.cs, ← ok.evs, ← relS_eq]
    exact lookup_relabel_local (env := f.ev) k.at_
  dbg := k.dbg
theorem Inv.with_ {f f' : Fm} {h h' m m' led ρ st} (I : Inv cx f h m led ρ st) (F : Fr f'.h₀ f'.L h' m') (N : News f'.h₀ f'.L h' (led ++ f'.kept)) (nd : ((led ++ f'.kept).map (·.1)).Nodup) : Inv cx f' h' m' led ρ st := ⟨F, N, nd, I.sep, I.len, I.ob⟩
theorem LR.blank {sc' : Sc} {scope : Scope} {x : Str} {is : List Nat} (k : CompOk sc sc' scope x is) {f : Fm} {cl : List (Str × Addr)} {ks : List Nat} {ρ : Rho} (hc : CelsR ρ cl (freesOf scope) ks) {C D : Addr} {oL : Obj} {ys : List Value} {m led} :
    LR cx sc' (compFm f scope cl C D oL ys) m led ρ [.undef] ks := by
  refine ⟨by rw [k.ns]; simp, by rw [k.ns]; rfl, fun i y v hy hv hne => ?_, fun i y hy => ?_⟩
  · cases i with
    | zero => simp at hv; exact absurd hv.symm hne
    | succ i => simp at hv
  · rw [k.cns] at hy
    exact hc.look k.nd hy
theorem Inv.acc {f : Fm} {scope : Scope} {cl : List (Str × Addr)} {C D : Addr} {oL : Obj} {ys : List Value} {y : Value} {h h' m led ρ st} (I : Inv cx (compFm f scope cl C D oL ys) h m led ρ st) (hs : Heap.SameBut D h h')
    (hD : h'.get? D = some (LCg.lst (ys ++ [y]))) : Inv cx (compFm f scope cl C D oL (ys ++ [y])) h' m led ρ st := by
  have hmem : (D, LCg.lst ys) ∈ led ++ (compFm f scope cl C D oL ys).kept := List.mem_append_right _ (.tail _ (.head _))
  have z := I.N _ hmem
  have key : (led ++ (compFm f scope cl C D oL ys).kept) = (led ++ [(f.L, oL)]) ++ (D, LCg.lst ys) :: f.kept := by simp [compFm]
  have key' : (led ++ (compFm f scope cl C D oL (ys ++ [y])).kept) = (led ++ [(f.L, oL)]) ++ (D, LCg.lst (ys ++ [y])) :: f.kept := by simp [compFm]
  have nd := I.nd
  rw [key, List.map_append, List.map_cons, List.nodup_append] at nd
  obtain ⟨n1, n2, n3⟩ := nd
  rw [List.nodup_cons] at n2
  refine ⟨I.F.change hs z.2.1 z.2.2, ?_, ?_, I.sep, I.len, I.ob⟩
  · rw [key']
    refine news_set (o := LCg.lst ys) (key ▸ I.N) (fun p hp e => n3 p.1 (List.mem_map_of_mem hp) D (.head _) e) (fun p hp e => n2.1 (by rw [← e]; exact List.mem_map_of_mem (f := (·.1)) hp)) hs hD
  · have := I.nd
    rw [key] at this
    rw [key']
    simpa using this
theorem comp_loop {item P Cc} {sc' : Sc} {scope : Scope} {x : Str} {px : Pos} {is : List Nat} {elt iter : Expr} {ifs : List Expr} {pos : Pos} {t : ST} {e : SE} (k : CompOk sc sc' scope x is) (T : ItOk cx d sc' item P Cc (.Name x px)) (ht : SoundI cx d sc' ifs t) (he : SoundE cx d sc' elt e)
    {f : Fm} (ok : f.Ok cx d sc) (hab : f.h₀.objs.size ≤ f.L) {cl : List (Str × Addr)} {ks : List Nat} {C D : Addr} {oL : Obj} {mo : Str → Option Value} (hL : NsObj oL mo) {s : Shared} {led0 ρ0} (hc0 : CelsR ρ0 cl (freesOf scope) ks)
    {it : Addr} (hit : ∀ p ∈ led0, p.1 ≠ it) {vs : List V} {st' : List Ob} {R : Result → Shared → Prop}
    (fin : ∀ h' tk' m' led' ρ' ys, Inv cx (compFm f scope cl C D oL ys) h' m' led' ρ' st' → Grow led0 ρ0 led' ρ' → VRs cx led' ρ' vs ys → R (.ok .next) (put s h' tk'))
    (n : Nat) {i : Nat} {acc : List V} {ys : List Value} {h1 : Heap} {tk1 : Nat} {m1 led1 ρ1} {st : List Ob} {o : Obj} (I1 : Inv cx (compFm f scope cl C D oL ys) h1 m1 led1 ρ1 st) (G1 : Grow led0 ρ0 led1 ρ1) (X1 : VRs cx led1 ρ1 acc ys)
    (ho : (it, o) ∈ led1) (hP : P i o) (hC : Cc led1 ρ1) (hsz : acc.length + n ≤ 100000) (hg : compS item t e ks n i acc st = some (vs, st')) :
    codeAny cx.M f.A (.compLoop (.ListComp elt [⟨.Name x px, iter, ifs, 0⟩] scope pos) 0 (.ref it) (.ref D) (compEnvC scope cl C f.ev)) R (put s h1 tk1) := by
  refine codeAny_compLoop_tests (fun n s' => ∃ h tk m1 led1 ρ1 st i o acc ys, s' = put s h tk ∧ Inv cx (compFm f scope cl C D oL ys) h m1 led1 ρ1 st ∧ Grow led0 ρ0 led1 ρ1 ∧ VRs cx led1 ρ1 acc ys ∧ (it, o) ∈ led1 ∧ P i o ∧ Cc led1 ρ1 ∧
    acc.length + n ≤ 100000 ∧ compS item t e ks n i acc st = some (vs, st')) ?_ n ⟨h1, tk1, m1, led1, ρ1, st, i, o, acc, ys, rfl, I1, G1, X1, ho, hP, hC, hsz, hg⟩
  clear hg hsz hC hP ho X1 G1 I1
  intro n s' hI
  obtain ⟨h1, tk1, m1, led1, ρ1, st, i, o, acc, ys, rfl, I1, G1, X1, ho, hP, hC, hsz, hg⟩ := hI
  obtain ⟨z1, z2⟩ := T.fz _ _ hP
  have ok' : ∀ ys, (compFm f scope cl C D oL ys).Ok cx d sc' := fun ys => compFm_ok k ok hL hab
  cases n with
  | zero => simp [compS] at hg
  | succ n =>
    unfold compS at hg
    split at hg
    · cases hg
    · rename_i ei
      cases hg
      refine T.last _ (ok' ys) (put s h1 tk1) m1 led1 ρ1 _ it i o I1 hC ho hP ei _ _ fun h' tk hx => ?_
      obtain ⟨I2, g2⟩ := I1.drop ho z1 z2 hx
      exact fin _ tk _ _ _ _ I2 (grow_drop G1 hit) (X1.mono2 g2)
    · rename_i v ei
      refine T.next _ (ok' ys) (put s h1 tk1) m1 led1 ρ1 st it i o v I1 hC ho hP ei _ _ fun w h2 o' tk2 hsb ho' hP' X => ?_
      obtain ⟨I2, g2⟩ := I1.iter ho z1 z2 hsb ho'
      have hm2 : (it, o') ∈ updL it o' led1 := updL_self ho
      obtain ⟨z1', z2'⟩ := T.fz _ _ hP'
      have G2 : Grow led0 ρ0 (updL it o' led1) ρ1 := grow_upd G1 hit
      have X2 := X1.mono2 g2
      have hC2 := T.ctx _ _ _ _ g2 hC
      have hc2 : CelsR ρ1 cl (freesOf scope) ks := hc0.mono G2.to2
      refine (u_name (cx := cx) (d := d) (k.name ok)).1 _ (ok' ys) (put s h2 tk2) m1 _ ρ1 ⟨[.undef], ks, st⟩ I2 (LR.blank k hc2) v w (X.mono2 g2) _ rfl _ _ fun m3 h3 tk3 led3 ρ3 I3 G3 R3 => ?_
      have G03 := G2.trans G3
      have hC3 := T.ctx _ _ _ _ G3.to2 hC2
      have hm3 := G3.fz _ hm2 z1'
      have X3 := X2.mono G3
      split at hg
      · rename_i st4 e4
        refine ht.1 _ (ok' ys) (put s h3 tk3) m3 led3 ρ3 ⟨[v], ks, st⟩ I3 R3 _ _ e4 _ _ fun h4 tk4 led4 ρ4 I4 G4 => ?_
        rw [if_pos rfl]
        split at hg
        · rename_i y st5 e5
          refine he.1 _ (ok' ys) (put s h4 tk4) m3 led4 ρ4 ⟨[v], ks, st4⟩ I4 (R3.mono G4) _ _ e5 _ _ fun wy h5 tk5 led5 ρ5 I5 G5 Y => ?_
          have hmem : (D, LCg.lst ys) ∈ led5 ++ (compFm f scope cl C D oL ys).kept := List.mem_append_right _ (.tail _ (.head _))
          have X5 := (X3.mono G4).mono G5
          refine append_at (I5.N _ hmem).1 (fun h6 hs6 hD6 => ?_) (by rw [sizeLine_eq, List.size_toArray, ← X5.length]; omega)
          rw [LCg.lst_snoc] at hD6
          refine ⟨n, Nat.lt_succ_self _, h6, tk5, m3, led5, ρ5, st5, i + 1, o', acc ++ [y], ys ++ [wy], rfl, I5.acc hs6 hD6, (G03.trans G4).trans G5, X5.append (.cons Y .nil), (G5.fz _ (G4.fz _ hm3 z1') z1'), hP',
            T.ctx _ _ _ _ G5.to2 (T.ctx _ _ _ _ G4.to2 hC3), by simp; omega, hg⟩
        · cases hg
      · rename_i st4 e4
        refine ht.1 _ (ok' ys) (put s h3 tk3) m3 led3 ρ3 ⟨[v], ks, st⟩ I3 R3 _ _ e4 _ _ fun h4 tk4 led4 ρ4 I4 G4 => ?_
        rw [if_neg (by decide)]
        exact ⟨n, Nat.lt_succ_self _, h4, tk4, m3, led4, ρ4, st4, i + 1, o', acc, ys, rfl, I4, G03.trans G4, X3.mono G4, G4.fz _ hm3 z1', hP', T.ctx _ _ _ _ G4.to2 hC3, by omega, hg⟩
      · cases hg
theorem comp_block {item P Cc} {sc' : Sc} {scope : Scope} {x : Str} {px : Pos} {is : List Nat} {elt iter : Expr} {ifs : List Expr} {pos : Pos} {t : ST} {e : SE} (k : CompOk sc sc' scope x is) (T : ItOk cx d sc' item P Cc (.Name x px)) (ht : SoundI cx d sc' ifs t) (he : SoundE cx d sc' elt e)
    {f : Fm} (ok : f.Ok cx d sc) {cl : List (Str × Addr)} {ks : List Nat} {s : Shared} {m led0 ρ0} (hc0 : CelsR ρ0 cl (freesOf scope) ks)
    {it : Addr} (hit : ∀ p ∈ led0, p.1 ≠ it) {vs : List V} {st st' : List Ob} {Q : Value → Shared → Prop} {E : Value → Shared → Prop}
    (n : Nat) {h1 : Heap} {tk1 : Nat} {led1 ρ1} {o : Obj} (I1 : Inv cx f h1 m led1 ρ1 st) (G1 : Grow led0 ρ0 led1 ρ1)
    (ho : (it, o) ∈ led1) (hP : P 0 o) (hself : ∀ (s : Shared) (Q : Value → Shared → Prop) E o, s.heap.get? it = some o → P 0 o → Q (.ref it) s → wpAny cx.M f.A (pyIter (.ref it)) Q E s) (hC : Cc led1 ρ1) (hsz : n ≤ 100000) (hg : compS item t e ks n 0 [] st = some (vs, st'))
    (hn : ∀ led ρ led' ρ', Grow2 led ρ led' ρ' → Cc led ρ → Cc led' ρ')
    (Pq : PostE cx f m led0 ρ0 (st' ++ [.list vs]) (.ref st'.length) Q s) :
    wpAny cx.M f.A (newList []) (fun acc s₃ => wpAny cx.M f.A (newFunctionEnv scope f.ev.globals cl [] f.ev.qual none .none (some f.ev)) (fun cenv s₄ =>
      codeAny cx.M f.A (.compStart (.ListComp elt [⟨.Name x px, iter, ifs, 0⟩] scope pos) 0 (.ref it) acc { cenv with scope := relabel scope f.ev }) (compPost cx.M f.A E none Q acc cenv.locals) s₄) E s₃) E (put s h1 tk1) := by
  have hncell : ∀ y ∈ scope.names, y.2 ≠ .cell := fun y hy => of_decide_eq_true (List.all_eq_true.mp k.ncell y hy)
  refine wpAny_newObj_type (wpAny_newFunctionEnv hncell (by intro y hy; simp at hy) (fun h₂ hns₂ hsb₂ => ?_) k.kind)
  dsimp only at hns₂ hsb₂ ⊢
  generalize hH2 : h1.push { cls := .type "list", dict := none, data := .seq ([] : List Value).toArray } = H2 at hns₂ hsb₂ ⊢
  have hC' : H2.objs.size = h1.objs.size + 1 := by rw [← hH2, Heap.size_push]
  have below : ∀ b, b < h1.objs.size → b ≠ H2.objs.size ∧ b ≠ h1.objs.size := fun b hb => ⟨by rw [hC']; exact Nat.ne_of_lt (Nat.lt_succ_of_lt hb), Nat.ne_of_lt hb⟩
  have hDC : h1.objs.size ≠ H2.objs.size := by rw [hC']; exact Nat.ne_of_lt (Nat.lt_succ_self _)
  have old : ∀ b o, h1.get? b = some o → h₂.get? b = some o := fun b o e => hsb₂.extBut b o (below b (Heap.lt_size e)).1 (Heap.get?_push_of_some _ (hH2 ▸ Heap.get?_push_of_some _ e))
  have hacc : h₂.get? h1.objs.size = some (LCg.lst []) := hsb₂.extBut _ _ hDC (Heap.get?_push_of_some _ (hH2 ▸ Heap.get?_push_size _ rfl))
  have fresh₀ : ∀ a, h1.objs.size ≤ a → f.h₀.get? a = none := fun a ha => by
    cases e : f.h₀.get? a with
    | none => rfl
    | some o' => exact absurd (Heap.lt_size (I1.F.keep a o' e)) (Nat.not_lt.mpr ha)
  have hLlt : f.L < h1.objs.size := I1.F.ns.lt
  have hleL : f.h₀.objs.size ≤ f.L := I1.F.above
  obtain ⟨oL, esL, epL, l1, l2, l3, l4⟩ := I1.F.ns
  have hNs : NsObj oL m := ⟨esL, epL, l2, l3, l4⟩
  have hlt : ∀ p ∈ led1 ++ f.kept, p.1 < h1.objs.size := fun p hp => Heap.lt_size (I1.N p hp).1
  have hL0 : f.h₀.get? f.L = none := Heap.get?_none_of_le hleL
  have I2 : Inv cx (compFm f scope cl H2.objs.size h1.objs.size oL []) h₂ (fun y => ([] : List (Str × Value)).reverse.lookup y) led1 ρ1 st := by
    refine I1.with_ ⟨hns₂, fun b o e => old b o (I1.F.keep b o e), ?_⟩ (fun p hp => ?_) ?_
    · show f.h₀.objs.size ≤ H2.objs.size
      rw [hC']
      exact Nat.le_trans hleL (Nat.le_of_lt (Nat.lt_succ_of_lt hLlt))
    · rcases List.mem_append.mp hp with hp | hp
      · have z := I1.N p (List.mem_append_left _ hp)
        exact ⟨old _ _ z.1, (below _ (hlt p (List.mem_append_left _ hp))).1, z.2.2⟩
      · rcases List.mem_cons.mp hp with rfl | hp
        · exact ⟨old _ _ l1, (below _ hLlt).1, hL0⟩
        · rcases List.mem_cons.mp hp with rfl | hp
          · exact ⟨hacc, hDC, fresh₀ _ (Nat.le_refl _)⟩
          · have z := I1.N p (List.mem_append_right _ hp)
            exact ⟨old _ _ z.1, (below _ (hlt p (List.mem_append_right _ hp))).1, z.2.2⟩
    · show ((led1 ++ (f.L, oL) :: (h1.objs.size, LCg.lst []) :: f.kept).map (·.1)).Nodup
      have nd := I1.nd
      rw [List.map_append, List.nodup_append] at nd ⊢
      obtain ⟨n1, n2, n3⟩ := nd
      refine ⟨n1, ?_, fun a ha b hb => ?_⟩
      · rw [List.map_cons, List.map_cons, List.nodup_cons, List.nodup_cons, List.mem_cons, not_or]
        refine ⟨⟨Nat.ne_of_lt hLlt, fun hm => ?_⟩, fun hm => ?_, n2⟩
        · obtain ⟨p, hp, e⟩ := List.mem_map.mp hm
          exact (I1.N p (List.mem_append_right _ hp)).2.1 e
        · obtain ⟨p, hp, e⟩ := List.mem_map.mp hm
          exact absurd (hlt p (List.mem_append_right _ hp)) (by rw [e]; exact Nat.lt_irrefl _)
      · obtain ⟨p, hp, rfl⟩ := List.mem_map.mp ha
        rw [List.map_cons, List.map_cons] at hb
        rcases List.mem_cons.mp hb with rfl | hb
        · exact (I1.N p (List.mem_append_left _ hp)).2.1
        · rcases List.mem_cons.mp hb with rfl | hb
          · exact Nat.ne_of_lt (hlt p (List.mem_append_left _ hp))
          · exact n3 p.1 (List.mem_map_of_mem hp) b hb
  have z0 : h₂.get? it = some o := old _ _ (I1.at_ ho).1
  have loop : ∀ tk, codeAny cx.M f.A (.compLoop (.ListComp elt [⟨.Name x px, iter, ifs, 0⟩] scope pos) 0 (.ref it) (.ref h1.objs.size) (compEnvC scope cl H2.objs.size f.ev)) (compPost cx.M f.A E none Q (.ref h1.objs.size) H2.objs.size) (put s h₂ tk) := fun tk => by
    refine comp_loop k T ht he ok hleL hNs (s := s) (led0 := led0) (ρ0 := ρ0) hc0 hit (vs := vs) (st' := st') (fun h' tk' m' led' ρ' ys I' G' X' => ?_) n (i := 0) (acc := []) (ys := []) I2 G1 .nil ho hP hC (by simpa using hsz) hg
    have zL := I'.N (f.L, oL) (List.mem_append_right _ (.head _))
    have zD := I'.N (h1.objs.size, LCg.lst ys) (List.mem_append_right _ (.tail _ (.head _)))
    refine ⟨m', I'.F.ns, fun h'' hs'' => ?_⟩
    have nd := I'.nd
    have hkept : (compFm f scope cl H2.objs.size h1.objs.size oL ys).kept = (f.L, oL) :: (h1.objs.size, LCg.lst ys) :: f.kept := rfl
    have hCC : (compFm f scope cl H2.objs.size h1.objs.size oL ys).L = H2.objs.size := rfl
    have h00 : (compFm f scope cl H2.objs.size h1.objs.size oL ys).h₀ = f.h₀ := rfl
    rw [hkept, List.map_append, List.nodup_append, List.map_cons, List.map_cons] at nd
    obtain ⟨n1, n2, n3⟩ := nd
    rw [List.nodup_cons, List.nodup_cons] at n2
    obtain ⟨n21, n22, n23⟩ := n2
    have keep : ∀ p ∈ led' ++ (compFm f scope cl H2.objs.size h1.objs.size oL ys).kept, h''.get? p.1 = some p.2 := fun p hp => by
      have z := I'.N p hp
      exact hs''.extBut _ _ z.2.1 z.1
    have F'' : Fr f.h₀ f.L h'' m := ⟨⟨oL, esL, epL, keep _ (List.mem_append_right _ (.head _)), l2, l3, l4⟩, fun b o e => hs''.extBut b o (fun q => by
      have hb := Heap.lt_size e
      have : b = H2.objs.size := q
      rw [this, hC'] at hb
      exact absurd (Nat.lt_trans hLlt (Nat.lt_of_succ_lt (Nat.lt_of_lt_of_le hb hleL))) (Nat.lt_irrefl _)) (I'.F.keep b o e), hleL⟩
    have hρ := I'.rho_mem
    have N'' : News f.h₀ f.L h'' ((h1.objs.size, LCg.lst ys) :: (led' ++ f.kept)) := fun p hp => by
      rcases List.mem_cons.mp hp with rfl | hp
      · exact ⟨keep _ (List.mem_append_right _ (.tail _ (.head _))), Nat.ne_of_gt hLlt, zD.2.2⟩
      · rcases List.mem_append.mp hp with hp | hp
        · exact ⟨keep p (List.mem_append_left _ hp), n3 p.1 (List.mem_map_of_mem hp) f.L (.head _), (I'.N p (List.mem_append_left _ hp)).2.2⟩
        · refine ⟨keep p (List.mem_append_right _ (.tail _ (.tail _ hp))), fun e => n21 (.tail _ (by rw [← e]; exact List.mem_map_of_mem (f := (·.1)) hp)), (I'.N p (List.mem_append_right _ (.tail _ (.tail _ hp)))).2.2⟩
    have hDled : ∀ p ∈ led' ++ f.kept, p.1 ≠ h1.objs.size := fun p hp e => by
      rcases List.mem_append.mp hp with hp | hp
      · exact n3 p.1 (List.mem_map_of_mem hp) h1.objs.size (.tail _ (.head _)) e
      · exact n22 (by rw [← e]; exact List.mem_map_of_mem (f := (·.1)) hp)
    have I3 : Inv cx f h'' m led' ρ' st' := by
      refine I'.with_ F'' (fun p hp => N'' p (.tail _ hp)) ?_
      rw [List.map_append, List.nodup_append]
      exact ⟨n1, n23, fun a ha b hb => n3 a ha b (.tail _ (.tail _ hb))⟩
    obtain ⟨I4, G4⟩ := I3.make (new := [(h1.objs.size, LCg.lst ys)]) (a := h1.objs.size) (d := h1.objs.size) (ob := .list vs) F'' N'' (by
        show (((h1.objs.size, LCg.lst ys) :: (led' ++ f.kept)).map (·.1)).Nodup
        rw [List.map_cons, List.nodup_cons]
        refine ⟨fun hm => ?_, I3.nd⟩
        obtain ⟨p, hp, e⟩ := List.mem_map.mp hm
        exact hDled p hp e)
      (fun q hq e => by
        obtain ⟨o', ho'⟩ := hρ q hq
        exact hDled _ (List.mem_append_left _ ho') e)
      ⟨h1.objs.size, ys.toArray, ys.length, by rw [← I3.len]; simp, .head _, by
        have g0 : Grow led' ρ' ((h1.objs.size, LCg.lst ys) :: led') (ρ' ++ [(h1.objs.size, h1.objs.size)]) := ⟨fun p hp _ => List.mem_cons_of_mem _ hp, ⟨_, rfl⟩⟩
        simpa using X'.mono g0⟩
    exact Pq _ _ tk' _ _ I4 (G'.trans G4) (.ref _ h1.objs.size h1.objs.size (by rw [← I3.len]; simp))
  refine codeAny_compStart_list (loop _) (hself _ _ _ o z0 hP (loop _))
end
end Mp
namespace Mp
section
variable {cx : Cx} {d : Nat} {sc : Sc}
theorem CompOk.names {sc' : Sc} {scope : Scope} {x : Str} {is : List Nat} (k : CompOk sc sc' scope x is) : ∀ y ∈ scope.names, y.2 = .local → scope.names.lookup y.1 = some .local := fun y hy hl => by
  have := List.all_eq_true.mp k.loc y hy
  rw [hl] at this
  simpa using this
theorem b_compV {sc' : Sc} {scope : Scope} {x : Str} {px : Pos} {is : List Nat} {elt iter : Expr} {ifs : List Expr} {pos : Pos} {g : SE} {t : ST} {e : SE} (n : Nat) (hi : SoundE cx d sc iter g) (ht : SoundI cx d sc' ifs t) (he : SoundE cx d sc' elt e)
    (k : CompOk sc sc' scope x is) (hn : n ≤ 100000) (hs : ∀ env v, foldedSetIterable iter env v = pure v) : SoundE cx d sc (.ListComp elt [⟨.Name x px, iter, ifs, 0⟩] scope pos) (compV g t e is n) := by
  refine ⟨?_⟩
  intro f ok s m led ρ S I R v st' hg Q E P
  unfold compV at hg
  try simp only [gt_eq, pt_eq, ad_eq, ln_eq] at hg
  split at hg
  · rename_i ks hks
    split at hg
    · rename_i cs st1 e1
      split at hg
      · rename_i ys st2 e2
        cases hg
        obtain ⟨cl, c1, c2, c3⟩ := cels_of R k.is hks
        rw [eval_ListComp]
        refine wpAny_comprehension_free (use := none) rfl (hs _) (closureFor_of c2 c3) k.kind k.names ?_
        refine hi.1 f ok s m led ρ S I R _ _ e1 _ _ fun w h1 tk1 led1 ρ1 I1 G1 X1 => ?_
        have hx0 : ∃ x, itemV (.str cs) 0 st1 = some x := by
          cases n with
          | zero => simp [compS] at e2
          | succ n =>
            unfold compS at e2
            split at e2
            · cases e2
            · exact ⟨_, ‹_›⟩
            · exact ⟨_, ‹_›⟩
        obtain ⟨x0, hx0⟩ := hx0
        cases X1 with
        | str _ tk =>
          simp only [itemV, gt_eq, pt_eq, ad_eq, ln_eq] at hx0
          split at hx0
          · rename_i hall
            refine wpAny_pyIter_ascii (by simpa using hall) ?_
            obtain ⟨I2, G2⟩ := I1.push (Fr.size_ne I1.N) (I1.F.push _) (I1.N.push I1.F ({ cls := .type "str_ascii_iterator", data := .fields #[.str ⟨cs.toArray⟩ tk, .int 0 0] } : Obj))
            exact comp_block k (it_str (cs := cs) (t := tk) (.inl fun _ _ => rfl)) ht he ok (s := s) (led0 := led1) (ρ0 := ρ1) (c1.mono G1.to2) (fun p hp => Fr.size_ne I1.N p (List.mem_append_left _ hp)) n I2 G2 (.head _) ⟨rfl, rfl⟩
              (fun s Q E o ho hP h => wpAny_pyIter_striter_ascii (i := 0) ⟨o, ho, hP.1, hP.2⟩ h) trivial hn e2 (fun _ _ _ _ _ _ => trivial) (fun w h' tk' led' ρ' I' G' => P w h' tk' led' ρ' I' (G1.trans G'))
          · cases hx0
      · cases hg
    · cases hg
  · cases hg
theorem compR_ok {sc' : Sc} {scope : Scope} {x : Str} {px : Pos} {is : List Nat} {elt iter : Expr} {ifs : List Expr} {pos : Pos} {t : ST} {e : SE} (k : CompOk sc sc' scope x is) (ht : SoundI cx d sc' ifs t) (he : SoundE cx d sc' elt e)
    {f : Fm} (ok : f.Ok cx d sc) {cl : List (Str × Addr)} {ks : List Nat} {s : Shared} {m led0 ρ0} (hc0 : CelsR ρ0 cl (freesOf scope) ks) {vs : List V} {st st' : List Ob} {Q : Value → Shared → Prop} {E : Value → Shared → Prop}
    (n : Nat) {h1 : Heap} {tk1 : Nat} {led1 ρ1} (I1 : Inv cx f h1 m led1 ρ1 st) (G1 : Grow led0 ρ0 led1 ρ1) {r : Addr} {i j : Int} {t₁ u₁ v₁ : Tok} (hr : IsRange h1 r i j 1 t₁ u₁ v₁) (h2 : i.natAbs ≤ 1000000) (h3 : j.natAbs ≤ 1000000) (hsz : n ≤ 100000)
    (hg : compS (itemR i j) t e ks n 0 [] st = some (vs, st')) (Pq : PostE cx f m led0 ρ0 (st' ++ [.list vs]) (.ref st'.length) Q s) :
    wpAny cx.M f.A (pyIter (.ref r)) (fun it s₂ => wpAny cx.M f.A (newList []) (fun acc s₃ => wpAny cx.M f.A (newFunctionEnv scope f.ev.globals cl [] f.ev.qual none .none (some f.ev)) (fun cenv s₄ =>
      codeAny cx.M f.A (.compStart (.ListComp elt [⟨.Name x px, iter, ifs, 0⟩] scope pos) 0 it acc { cenv with scope := relabel scope f.ev }) (compPost cx.M f.A E none Q acc cenv.locals) s₄) E s₃) E s₂) E (put s h1 tk1) := by
  obtain ⟨q1, q2⟩ := range_small h2 h3
  refine wpAny_pyIter_range hr q1 ?_
  rw [q2]
  obtain ⟨I2, G2⟩ := I1.push (Fr.size_ne I1.N) (I1.F.push _) (I1.N.push I1.F ({ cls := .type "range_iterator", data := .fields #[rawInt i, rawInt (max 0 (j - i)), rawInt 1] } : Obj))
  exact comp_block k (it_range (.inl fun _ _ => rfl)) ht he ok (s := s) (led0 := led1) (ρ0 := ρ1) (hc0.mono G1.to2) (fun p hp => Fr.size_ne I1.N p (List.mem_append_left _ hp)) n I2 G2 (.head _) (by simp)
    (fun s Q E o ho hP h => wpAny_pyIter_rangeiter (hP ▸ ho) h) trivial hsz hg (fun _ _ _ _ _ _ => trivial) (fun w h' tk' led' ρ' I' G' => Pq w h' tk' led' ρ' I' (G1.trans G'))
theorem b_compR1 {sc' : Sc} {scope : Scope} {x : Str} {px : Pos} {is : List Nat} {elt e1 : Expr} {ifs : List Expr} {pos cp xp : Pos} {y : Str} {g : SE} {t : ST} {e : SE} (n : Nat) (hx : BltName cx sc y (.type "range")) (h1 : SoundE cx d sc e1 g) (ht : SoundI cx d sc' ifs t) (he : SoundE cx d sc' elt e)
    (k : CompOk sc sc' scope x is) (hn : n ≤ 100000) (hs : ∀ env v, foldedSetIterable (.Call (.Name y xp) [e1] [] cp) env v = pure v) (hns : NoStars [e1])
    (hq : ∀ env, eval (.Call (.Name y xp) [e1] [] cp) env = (do
          let f ← eval (.Name y xp) env
          callWith cp f [] (backTo cp (starEach [e1] env)) (backToKw cp (keywordEach [] env)))) : SoundE cx d sc (.ListComp elt [⟨.Name x px, .Call (.Name y xp) [e1] [] cp, ifs, 0⟩] scope pos) (compR (cE (.int 0)) g t e is n) := by
  refine ⟨?_⟩
  intro f ok s m led ρ S I R v st' hg Q E P
  unfold compR cE at hg
  try simp only [gt_eq, pt_eq, ad_eq, ln_eq] at hg
  try simp only at hg
  split at hg
  · rename_i ks hks
    split at hg
    · rename_i j st1 ej
      split at hg
      · rename_i hb
        split at hg
        · rename_i ys st2 e2
          cases hg
          obtain ⟨cl, c1, c2, c3⟩ := cels_of R k.is hks
          rw [eval_ListComp]
          refine wpAny_comprehension_free (use := none) rfl (hs _) (closureFor_of c2 c3) k.kind k.names ?_
          refine Call_ (nameB ok I hx.no hx.boot hx.name hx.kind hx.dbg ?_) (hq _)
          refine PyProof.Rows.callWith_type1 ?_ (hns _).2 rfl
          refine wpAny_items_cons (h1.1 f ok s m led ρ S I R _ _ ej _ _ fun w h1 tk1 led1 ρ1 I1 G1 X1 => wpAny_items_nil ?_) (hns _).2
          cases X1
          refine range1_rows (s := put s h1 tk1) I1.F I1.N fun h' tk t₁ u₁ v₁ hr F' N' _ => ?_
          exact compR_ok k ht he ok (s := s) c1 n (I1.turn F' N') G1 hr hb.1 hb.2 hn e2 P
        · cases hg
      · cases hg
    · cases hg
  · cases hg
theorem b_compR2 {sc' : Sc} {scope : Scope} {x : Str} {px : Pos} {is : List Nat} {elt e1 e2 : Expr} {ifs : List Expr} {pos cp xp : Pos} {y : Str} {g1 g2 : SE} {t : ST} {e : SE} (n : Nat) (hx : BltName cx sc y (.type "range")) (h1 : SoundE cx d sc e1 g1) (h2 : SoundE cx d sc e2 g2) (ht : SoundI cx d sc' ifs t) (he : SoundE cx d sc' elt e)
    (k : CompOk sc sc' scope x is) (hn : n ≤ 100000) (hs : ∀ env v, foldedSetIterable (.Call (.Name y xp) [e1, e2] [] cp) env v = pure v) (hns : NoStars [e1, e2]) (hns2 : NoStars [e2])
    (hq : ∀ env, eval (.Call (.Name y xp) [e1, e2] [] cp) env = (do
          let f ← eval (.Name y xp) env
          callWith cp f [] (backTo cp (starEach [e1, e2] env)) (backToKw cp (keywordEach [] env)))) : SoundE cx d sc (.ListComp elt [⟨.Name x px, .Call (.Name y xp) [e1, e2] [] cp, ifs, 0⟩] scope pos) (compR g1 g2 t e is n) := by
  refine ⟨?_⟩
  intro f ok s m led ρ S I R v st' hg Q E P
  unfold compR at hg
  try simp only [gt_eq, pt_eq, ad_eq, ln_eq] at hg
  split at hg
  · rename_i ks hks
    split at hg
    · rename_i i st1 ei
      split at hg
      · rename_i j st2 ej
        split at hg
        · rename_i hb
          split at hg
          · rename_i ys st3 e3
            cases hg
            obtain ⟨cl, c1, c2, c3⟩ := cels_of R k.is hks
            rw [eval_ListComp]
            refine wpAny_comprehension_free (use := none) rfl (hs _) (closureFor_of c2 c3) k.kind k.names ?_
            refine Call_ (nameB ok I hx.no hx.boot hx.name hx.kind hx.dbg ?_) (hq _)
            have hb2 : ∀ (p : Pos) (l : List (Bool × Sem Value)), (backTo p l).any (·.1) = l.any (·.1) := by
              intro p l
              show (l.map _).any _ = _
              rw [List.any_map]
              rfl
            refine PyProof.Rows.callWith_type1 ?_ (hns _).2 (by rw [hb2]; exact (hns2 _).1)
            refine wpAny_items_cons (h1.1 f ok s m led ρ S I R _ _ ei _ _ fun w1 hh1 tk1 led1 ρ1 I1 G1 X1 => ?_) (hns _).2
            refine wpAny_items_cons (h2.1 f ok (put s hh1 tk1) m led1 ρ1 ⟨S.lo, S.ce, st1⟩ I1 (R.mono G1) _ _ ej _ _ fun w2 hh2 tk2 led2 ρ2 I2 G2 X2 => wpAny_items_nil ?_) (hns2 _).2
            cases X1
            cases X2
            refine range2_rows (s := put s hh2 tk2) I2.F I2.N fun h' tk t₁ u₁ v₁ hr F' N' _ => ?_
            exact compR_ok k ht he ok (s := s) c1 n (I2.turn F' N') (G1.trans G2) hr hb.1 hb.2 hn e3 P
          · cases hg
        · cases hg
      · cases hg
    · cases hg
  · cases hg
end
end Mp
namespace Mp
theorem bindL_not {k : Str → Option NameKind} {x : Str} : ∀ {binds : List (Str × Value)} {m : Str → Option Value}, x ∉ binds.map (·.1) → bindL k binds m x = m x
  | [], _, _ => rfl
  | (n, v) :: r, m, h => by
    simp only [List.map_cons, List.mem_cons, not_or] at h
    show bindL k r _ x = m x
    rw [bindL_not h.2]
    split
    · simp [h.1]
    · rfl
theorem bindC_not {k : Str → Option NameKind} {x : Str} : ∀ {binds : List (Str × Value)} {m : Str → Option Value}, x ∉ binds.map (·.1) → bindC k binds m x = m x
  | [], _, _ => rfl
  | (n, v) :: r, m, h => by
    simp only [List.map_cons, List.mem_cons, not_or] at h
    show bindC k r _ x = m x
    rw [bindC_not h.2]
    split
    · rfl
    · simp [h.1]
theorem bindL_get {k : Str → Option NameKind} {x : Str} {w : Value} (hk : k x = some .local) : ∀ {binds : List (Str × Value)} {m : Str → Option Value}, (binds.map (·.1)).Nodup → (x, w) ∈ binds → bindL k binds m x = some w
  | (n, v) :: r, m, nd, h => by
    simp only [List.map_cons, List.nodup_cons] at nd
    show bindL k r _ x = some w
    rcases List.mem_cons.mp h with e | h
    · cases e
      rw [bindL_not nd.1, if_pos hk]
      simp
    · exact bindL_get hk nd.2 h
theorem bindC_get {k : Str → Option NameKind} {x : Str} {w : Value} (hk : k x ≠ some .local) : ∀ {binds : List (Str × Value)} {m : Str → Option Value}, (binds.map (·.1)).Nodup → (x, w) ∈ binds → bindC k binds m x = some w
  | (n, v) :: r, m, nd, h => by
    simp only [List.map_cons, List.nodup_cons] at nd
    show bindC k r _ x = some w
    rcases List.mem_cons.mp h with e | h
    · cases e
      rw [bindC_not nd.1, if_neg hk]
      simp
    · exact bindC_get hk nd.2 h
theorem cellsFrom_at : ∀ (names : List (Str × NameKind)) (n : Nat) (acc : List (Str × Addr)), (acc.map (·.2)).Nodup → (∀ p ∈ acc, p.2 < n) → ((cellsFrom n names acc).map (·.2)).Nodup ∧ ∀ p ∈ cellsFrom n names acc, p ∈ acc ∨ n ≤ p.2
  | [], n, acc, nd, h => ⟨nd, fun p hp => .inl hp⟩
  | (y, k) :: r, n, acc, nd, h => by
    unfold cellsFrom
    split
    · obtain ⟨q1, q2⟩ := cellsFrom_at r (n + 1) ((y, n) :: acc) (by
        rw [List.map_cons, List.nodup_cons]
        exact ⟨fun hm => by obtain ⟨p, hp, e⟩ := List.mem_map.mp hm; exact absurd (h p hp) (by rw [e]; exact Nat.lt_irrefl _), nd⟩) (fun p hp => by
        rcases List.mem_cons.mp hp with rfl | hp
        · exact Nat.lt_succ_self _
        · exact Nat.lt_succ_of_lt (h p hp))
      refine ⟨q1, fun p hp => ?_⟩
      rcases q2 p hp with hp | hp
      · rcases List.mem_cons.mp hp with rfl | hp
        · exact .inr (Nat.le_refl _)
        · exact .inl hp
      · exact .inr (Nat.le_of_succ_le hp)
    · exact cellsFrom_at r n acc nd h
theorem cells_addrs {cm : Str → Option Value} {xs : List (Str × Addr)} {cells : Led} (h : CellsAre cm xs cells) : cells.map (·.1) = xs.map (·.2) := by
  induction h with
  | nil => rfl
  | cons _ _ ih => simp [ih]
section
variable {cx : Cx} {d : Nat} {sc : Sc}
inductive CelV (cx : Cx) (led : Led) (ρ : Rho) (cm : Str → Option Value) : List (Str × Addr) → List V → Prop
  | nil : CelV cx led ρ cm [] []
  | cons {x c v xs vs} : (v = .undef ∨ ∃ w, cm x = some w ∧ VR cx led ρ v w) → CelV cx led ρ cm xs vs → CelV cx led ρ cm ((x, c) :: xs) (v :: vs)
theorem CelV.mono {led led' ρ ρ' cm xs vs} (g : Grow led ρ led' ρ') (h : CelV cx led ρ cm xs vs) : CelV cx led' ρ' cm xs vs := by
  induction h with
  | nil => exact .nil
  | cons a _ ih => exact .cons (a.imp id fun ⟨w, e, X⟩ => ⟨w, e, X.mono g⟩) ih
theorem cells_in {cm : Str → Option Value} {f : Fm} {h : Heap} {m : Str → Option Value} {xs : List (Str × Addr)} {cells : Led} (H : CellsAre cm xs cells) : ∀ {led : Led} {ρ : Rho} {st : List Ob} {vs : List V}, Inv cx f h m led ρ st →
    News f.h₀ f.L h (cells ++ (led ++ f.kept)) → ((cells ++ (led ++ f.kept)).map (·.1)).Nodup → CelV cx led ρ cm xs vs →
    ∃ led', Inv cx f h m led' (ρ ++ xs.map fun p => (p.2, p.2)) (st ++ vs.map .cell) ∧ Grow led ρ led' (ρ ++ xs.map fun p => (p.2, p.2)) := by
  induction H with
  | nil =>
    intro led ρ st vs I N nd V
    cases V
    exact ⟨led, by simpa using I, by simpa using Grow.refl led ρ⟩
  | @cons x c o xs cells hd _ ih =>
    intro led ρ st vs I N nd V
    cases V with
    | @cons _ _ v _ vs hv V =>
      have nd' := nd
      rw [List.cons_append, List.map_cons, List.nodup_cons] at nd'
      have hne : ∀ p ∈ led ++ f.kept, p.1 ≠ c := fun p hp e => nd'.1 (List.mem_map.mpr ⟨p, List.mem_append_right _ hp, e⟩)
      have hn1 : (([(c, o)] ++ (led ++ f.kept)).map (·.1)).Nodup := by
        show ((c, o) :: (led ++ f.kept)).map (·.1) |>.Nodup
        rw [List.map_cons, List.nodup_cons]
        exact ⟨fun hm => by obtain ⟨p, hp, e⟩ := List.mem_map.mp hm; exact hne p hp e, I.nd⟩
      obtain ⟨I', G'⟩ := I.make (new := [(c, o)]) (a := c) (d := c) (ob := .cell v) I.F (fun p hp => N p (by
          rcases List.mem_append.mp hp with hp | hp
          · rw [List.mem_singleton.mp hp]; exact .head _
          · exact .tail _ (List.mem_append_right _ hp))) hn1
        (fun q hq e => by obtain ⟨o', ho'⟩ := I.rho_mem q hq; exact hne _ (List.mem_append_left _ ho') e)
        ⟨c, o, cm x, by rw [← I.len]; simp, .head _, hd, hv.imp id fun ⟨w, e, X⟩ => ⟨w, e, X.mono ⟨fun p hp _ => List.mem_cons_of_mem _ hp, ⟨_, rfl⟩⟩⟩⟩
      obtain ⟨led', I2, G2⟩ := ih I' (fun p hp => N p (by
          rcases List.mem_append.mp hp with hp | hp
          · exact .tail _ (List.mem_append_left _ hp)
          · rcases List.mem_cons.mp hp with rfl | hp
            · exact .head _
            · exact .tail _ (List.mem_append_right _ hp)))
        (by
          have hp : (cells ++ (c, o) :: (led ++ f.kept)).Perm ((c, o) :: (cells ++ (led ++ f.kept))) := List.perm_middle
          exact (hp.map (·.1)).nodup_iff.mpr nd) (V.mono G')
      refine ⟨led', ?_, ?_⟩
      · simpa [List.append_assoc] using I2
      · have := G'.trans G2
        simpa [List.append_assoc] using this
noncomputable def idxIn (params : List Str) (x : Str) : Option Nat := params.findIdx? (· == x)
theorem idxIn_some {params : List Str} {x : Str} {i : Nat} (h : idxIn params x = some i) : params[i]? = some x := by
  unfold idxIn at h
  obtain ⟨hlt, hc, _⟩ := List.findIdx?_eq_some_iff_getElem.mp h
  rw [List.getElem?_eq_getElem hlt]
  simpa using hc
theorem idxIn_none {params : List Str} {x : Str} (h : idxIn params x = none) : x ∉ params := by
  unfold idxIn at h
  intro hm
  have := List.findIdx?_eq_none_iff.mp h x hm
  simp at this
theorem pick_ok {led ρ} {params : List Str} {vs : List V} {ws : List Value} (X : VRs cx led ρ vs ws) (hl : vs.length = params.length) {x : Str} :
    (x ∉ params ∧ pick vs (idxIn params x) = .undef) ∨ ∃ w, (x, w) ∈ params.zip ws ∧ VR cx led ρ (pick vs (idxIn params x)) w := by
  cases h : idxIn params x with
  | none => exact .inl ⟨idxIn_none h, rfl⟩
  | some i =>
    have h1 := idxIn_some h
    have hi : i < params.length := (List.getElem?_eq_some_iff.mp h1).1
    have hv : vs[i]? = some (vs.getD i .undef) := by
      rw [List.getElem?_eq_getElem (by omega)]
      simp [List.getD, List.getElem?_eq_getElem (show i < vs.length by omega)]
    obtain ⟨w, hw, Y⟩ := X.get hv
    refine .inr ⟨w, ?_, Y⟩
    have : (params.zip ws)[i]? = some (x, w) := by
      rw [List.getElem?_zip_eq_some]
      exact ⟨h1, hw⟩
    exact List.mem_of_getElem? this
theorem code_cells {A A₀ : Around} {s : Shared} {L : Addr} {h₀ base : Heap} {m : Str → Option Value} {news : Led} {env : Env} {outer : List Env} {R : Result → Shared → Prop} {name qual : Str} {params : Arguments} {body : List Stmt} {scope : Scope} {dV kV doc pm cdv ct oc : Value} {an od : Option Addr}
    {osl : Array (Option Value)} {f : Addr} {args : Args} {binds : List (Str × Value)} (B : Below A₀ base outer h₀) (F : Fr h₀ L s.heap m) (X₀ : cx.K.In h₀) (N : News h₀ L s.heap news) (T : Top cx.p cx.loose cx.mean cx.mg cx.mb h₀) (hA : A.frames = some (env :: outer)) (hf : env.frame = some L) (hke : env.scope.kind = .function)
    (ho : cx.K.lookup f = some ⟨oc, od, .func (fnOf name qual params body scope dV kV doc pm an cdv ct), osl⟩) (hcd : codeIn cx.K cdv qual = true) (hroom : A.depth < recursionLimit)
    (hbind : BindsTo s (fnOf name qual params body scope dV kV doc pm an cdv ct) args binds) (hkind : (binds.all fun y => scope.names.lookup y.1 == some .local || scope.names.lookup y.1 == some .cell) = true)
    (hnd : ((cellsFrom 0 scope.names []).map (·.1)).Nodup)
    (h : ∀ g L' h₁ tk cells, Fr h₀ L g m → Fr g L' h₁ (bindL (envOfC qual scope L' f cdv).kindOf binds fun _ => none) → News g L' h₁ (cells ++ news) →
      CellsAre (bindC (envOfC qual scope L' f cdv).kindOf binds fun _ => none) (cellsFrom (L' + 1) scope.names []) cells → Below A base (env :: outer) g → cx.K.In g → Top cx.p cx.loose cx.mean cx.mg cx.mb g → (∀ p ∈ news, p.1 < L') →
      (∀ a o, s.heap.get? a = some o → a ∉ news.map (·.1) → g.get? a = some o) →
      wpAny cx.M (A.deeper (envOfC qual scope L' f cdv)) (execs body (envOfC qual scope L' f cdv)) (fun fl s' => LeaveK h₀ L m g R (match fl with | .ret v => v | _ => .none) s')
        (fun e s' => wpAny cx.M (A.deeper (envOfC qual scope L' f cdv)) (leaving (envOfC qual scope L' f cdv) e) (fun _ s'' => R (.error e) s'') (fun e' s'' => R (.error e') s'') s') { s with heap := h₁, toks := tk })
    (hco : scope.isCoroutine = false) (hgen : scope.isGenerator = false) (hk : scope.kind = .function) : codeAny cx.M A (.call (.ref f) args) R s := by
  obtain ⟨FG, BG, st, lv⟩ := groundX (R := R) B F N hA hf hke
  have ho' : s.heap.get? f = some _ := (X₀.keeps F.keep) _ _ ho
  have hcd' := codeRec_of (X₀.keeps F.keep) hcd
  refine codeAny_call_function hroom ho' rfl hco hgen rfl hcd' (hbind _ _ _ _ (wpAny_newFunctionEnv_cells hk (kindsX hkind _) fun env' he s' x => ?_))
  subst he
  have kept := x.toInCall.keep
  refine ⟨(T.nolimit.keeps F.keep).keeps kept, codeAny_func ?_⟩
  obtain ⟨h₁, tk, rfl, _⟩ := x.done
  have nm : ((cellsFrom (s.heap.objs.size + 1) scope.names []).map (·.1)).Nodup := by
    rw [cellsFrom_names scope.names 0 (s.heap.objs.size + 1) [] [] rfl] at hnd
    exact hnd
  obtain ⟨cells, NC, Y⟩ := Cl.news (h₀ := s.heap) (Nat.le_refl _) fun n c hm => ⟨x.cell n c (lookup_of_mem_nodup nm hm), x.above n c hm⟩
  have key := h _ s.heap.objs.size h₁ tk cells FG ⟨x.toInCall.ns, fun b o e => kept b o (of_hideAll _ e), Nat.le_of_eq (hideAll_size _ _)⟩ (fun p hp => by
      rcases List.mem_append.mp hp with hp | hp
      · refine ⟨(NC p hp).1, (NC p hp).2.1, ?_⟩
        cases q : (hideAll s.heap (news.map (·.1))).get? p.1 with
        | none => rfl
        | some o =>
          have q' := of_hideAll _ q
          rw [(NC p hp).2.2] at q'
          cases q'
      · exact ⟨kept _ _ (N p hp).1, Nat.ne_of_lt (Heap.lt_size (N p hp).1), hideAll_none _ (List.mem_map_of_mem hp)⟩)
    Y BG (X₀.keeps st) (T.keeps st) (fun p hp => Heap.lt_size (N p hp).1) (fun a o e n => hideAll_get _ e n)
  exact wpAny_mono key (fun fl s' hl => lv _ _ hl) fun _ _ y => y
structure FnKC (cx : Cx) (n : Nat) (params ns cns : List Str) (ls cs : List (Option Nat)) : Prop where
  at_ : cx.K.lookup (cx.ga n) = some ⟨(obOf cx.K (cx.ga n)).cls, (obOf cx.K (cx.ga n)).dict, .func (fdOf cx.K (cx.ga n)), (obOf cx.K (cx.ga n)).slots⟩
  isF : (fdOf cx.K (cx.ga n)).body = .stmts (stOf cx.K (cx.ga n)) ∧ (fdOf cx.K (cx.ga n)).globals = mainGlobals ∧ (fdOf cx.K (cx.ga n)).closure = [] ∧ (fdOf cx.K (cx.ga n)).builtins = builtinsNs
  code : codeIn cx.K (fdOf cx.K (cx.ga n)).code (fdOf cx.K (cx.ga n)).qualname = true
  bind : ∀ k ∈ [params.length], ∀ S (ws : List Value), ws.length = k → peek cx.K S (bindArgs (fdOf cx.K (cx.ga n)) ⟨ws, []⟩) = some (params.zip (ws ++ ([] : List Value).drop (k + ([] : List Value).length - params.length)))
  nd : ns.Nodup
  ndp : params.Nodup
  ndc : cns.Nodup
  loc : (params.all fun x => (fdOf cx.K (cx.ga n)).scope.names.lookup x == some .local || (fdOf cx.K (cx.ga n)).scope.names.lookup x == some .cell) = true
  nsl : (ns.all fun x => (fdOf cx.K (cx.ga n)).scope.names.lookup x == some .local) = true
  cnl : (cns.all fun x => (fdOf cx.K (cx.ga n)).scope.names.lookup x == some .cell) = true
  cel : (cellsFrom 0 (fdOf cx.K (cx.ga n)).scope.names []).map (·.1) = cns
  ls : ls = ns.map (idxIn params)
  cs : cs = cns.map (idxIn params)
  co : (fdOf cx.K (cx.ga n)).scope.isCoroutine = false
  gen : (fdOf cx.K (cx.ga n)).scope.isGenerator = false
  kind : (fdOf cx.K (cx.ga n)).scope.kind = .function
theorem lookup_cels {xs : List (Str × Addr)} (nd : (xs.map (·.1)).Nodup) : ∀ {i : Nat} {x : Str}, (xs.map (·.1))[i]? = some x → ∃ c, xs[i]? = some (x, c) ∧ xs.lookup x = some c := by
  induction xs with
  | nil => intro i x e; simp at e
  | cons p r ih =>
    obtain ⟨y, c⟩ := p
    intro i x e
    simp only [List.map_cons, List.nodup_cons] at nd
    cases i with
    | zero => simp at e; subst e; exact ⟨c, rfl, by simp⟩
    | succ i =>
      simp only [List.map_cons, List.getElem?_cons_succ] at e
      obtain ⟨c', q1, q2⟩ := ih nd.2 e
      have hne : (x == y) = false := by
        have : x ≠ y := by rintro rfl; exact nd.1 (List.mem_of_getElem? e)
        simpa using this
      exact ⟨c', by simpa using q1, by rw [List.lookup_cons, hne]; exact q2⟩
theorem fn_okC {n : Nat} {params ns cns : List Str} {ls cs : List (Option Nat)} (hf : FnKC cx n params ns cns ls cs) {g : SS} {ex : Env → Prop} (hb : SoundB cx d ⟨(fdOf cx.K (cx.ga n)).scope, ns, cns, ex⟩ (stOf cx.K (cx.ga n)) g)
    (hex : ∀ L, ex (envOfC (fdOf cx.K (cx.ga n)).qualname (fdOf cx.K (cx.ga n)).scope L (cx.ga n) (fdOf cx.K (cx.ga n)).code) := by intro _; trivial) :
    CallOk cx (d + 1) (.ref (cx.ga n)) (runC params.length ls cs g) := by
  have he : fdOf cx.K (cx.ga n) = fnOf (fdOf cx.K (cx.ga n)).name (fdOf cx.K (cx.ga n)).qualname (fdOf cx.K (cx.ga n)).params (stOf cx.K (cx.ga n)) (fdOf cx.K (cx.ga n)).scope (fdOf cx.K (cx.ga n)).defaults (fdOf cx.K (cx.ga n)).kwdefaults (fdOf cx.K (cx.ga n)).doc (fdOf cx.K (cx.ga n)).pyModule (fdOf cx.K (cx.ga n)).annotations (fdOf cx.K (cx.ga n)).code (fdOf cx.K (cx.ga n)).closureTuple := by
    obtain ⟨h1, h2, h3, h4⟩ := hf.isF
    unfold fnOf
    rw [← h1, ← h2, ← h3, ← h4]
  refine ⟨?_⟩
  intro sc f ok s m led ρ st I vs ws X v st' e R P
  unfold runC at e
  try simp only [gt_eq, pt_eq, ad_eq, ln_eq] at e
  split at e
  · rename_i hl
    have hlw : ws.length = params.length := by rw [← X.length, hl]
    obtain ⟨es, Xe, hbind⟩ := bindD (cx := cx) (fd := fdOf cx.K (cx.ga n)) (params := params) (ars := [params.length]) (dflt := []) (ds := []) (fun _ _ => .nil) hf.bind s.heap (ok.X.keeps I.F.keep) led ρ s vs ws rfl X (by simp [hl])
    have hes : es = [] := by
      cases es with
      | nil => rfl
      | cons a r => simp at Xe; cases Xe
    subst hes
    rw [List.append_nil] at hbind
    rw [he] at hbind
    have hz : (params.zip ws).map (·.1) = params := by
      rw [List.map_fst_zip]
      omega
    obtain ⟨Lr, mr, K2, hfr, FR, NR, ndR, back⟩ := real_frame ok I
    have ndz : ((params.zip ws).map (·.1)).Nodup := by rw [hz]; exact hf.ndp
    refine code_cells ok.B FR ok.X NR ok.T ok.hA hfr ok.fek (by rw [← he]; exact hf.at_) hf.code (Nat.lt_of_le_of_lt (Nat.le_add_right _ _) ok.dep) hbind ?_ (by rw [hf.cel]; exact hf.ndc) (fun gh L' h₁ tk₁ cells FG F' N' Y B' X' T' hlt hG => ?_) hf.co hf.gen hf.kind
    · rw [List.all_eq_true]
      intro y hy
      have : y.1 ∈ params := by
        have := List.mem_map_of_mem (f := (·.1)) hy
        rw [hz] at this
        exact this
      exact List.all_eq_true.mp hf.loc _ this
    · let sc' : Sc := ⟨(fdOf cx.K (cx.ga n)).scope, ns, cns, ex⟩
      let f' : Fm := ⟨f.A.deeper (envOfC (fdOf cx.K (cx.ga n)).qualname (fdOf cx.K (cx.ga n)).scope L' (cx.ga n) (fdOf cx.K (cx.ga n)).code), f.A, f.base, gh, f.fe :: f.outer, L', K2, envOfC (fdOf cx.K (cx.ga n)).qualname (fdOf cx.K (cx.ga n)).scope L' (cx.ga n) (fdOf cx.K (cx.ga n)).code, envOfC (fdOf cx.K (cx.ga n)).qualname (fdOf cx.K (cx.ga n)).scope L' (cx.ga n) (fdOf cx.K (cx.ga n)).code⟩
      have ok' : f'.Ok cx d sc' := ⟨Around.frames_deeper B'.stack, B', X', T', hf.kind, rfl, rfl, rfl, rfl, hex _, hf.kind, .inl rfl, by
        have := ok.dep
        show f.A.depth + 1 + d < 1000
        omega, by
        have := ok.un
        show f.A.units + 3 + 16 * d < 9800
        omega, ok.hh⟩
      have hcells := cellsFrom_at (fdOf cx.K (cx.ga n)).scope.names (L' + 1) [] (by simp) (by simp)
      have hnames : (cellsFrom (L' + 1) (fdOf cx.K (cx.ga n)).scope.names []).map (·.1) = cns := by
        rw [← hf.cel]
        exact cellsFrom_names _ _ _ [] [] rfl
      have hca := cells_addrs Y
      have I0 : Inv cx f' h₁ (bindL (envOfC (fdOf cx.K (cx.ga n)).qualname (fdOf cx.K (cx.ga n)).scope L' (cx.ga n) (fdOf cx.K (cx.ga n)).code).kindOf (params.zip ws) fun _ => none) led ρ st :=
        ⟨F', fun p hp => N' p (List.mem_append_right _ hp), ndR, I.sep, I.len, I.ob⟩
      have ndA : ((cells ++ (led ++ f'.kept)).map (·.1)).Nodup := by
        rw [List.map_append, List.nodup_append]
        refine ⟨by rw [hca]; exact hcells.1, ndR, fun a ha b hb => ?_⟩
        rw [hca] at ha
        obtain ⟨p, hp, rfl⟩ := List.mem_map.mp ha
        obtain ⟨q, hq, rfl⟩ := List.mem_map.mp hb
        rcases hcells.2 p hp with h | h
        · cases h
        · exact fun e => absurd (Nat.lt_of_lt_of_le (Nat.lt_trans (hlt q hq) (Nat.lt_succ_self _)) h) (by rw [e]; exact Nat.lt_irrefl _)
      have hkind : ∀ y, (envOfC (fdOf cx.K (cx.ga n)).qualname (fdOf cx.K (cx.ga n)).scope L' (cx.ga n) (fdOf cx.K (cx.ga n)).code).kindOf y = (fdOf cx.K (cx.ga n)).scope.names.lookup y := fun _ => rfl
      have V0 : ∀ (l : List (Str × Addr)), (∀ p ∈ l, p.1 ∈ cns) → CelV cx led ρ (bindC (envOfC (fdOf cx.K (cx.ga n)).qualname (fdOf cx.K (cx.ga n)).scope L' (cx.ga n) (fdOf cx.K (cx.ga n)).code).kindOf (params.zip ws) fun _ => none) l (l.map fun p => pick vs (idxIn params p.1)) := by
        intro l
        induction l with
        | nil => intro _; exact .nil
        | cons p r ih =>
          intro hl'
          refine .cons ?_ (ih fun q hq => hl' q (.tail _ hq))
          have hc : (fdOf cx.K (cx.ga n)).scope.names.lookup p.1 = some .cell := by
            have := List.all_eq_true.mp hf.cnl p.1 (hl' p (.head _))
            simpa using this
          rcases pick_ok X hl (x := p.1) with ⟨_, h⟩ | ⟨w, hw, Z⟩
          · exact .inl h
          · exact .inr ⟨w, bindC_get (by rw [hkind, hc]; simp) ndz hw, Z⟩
      obtain ⟨led1, I1, G1⟩ := cells_in Y I0 N' ndA (V0 _ fun p hp => by rw [← hnames]; exact List.mem_map_of_mem hp)
      have hst : st ++ ((cellsFrom (L' + 1) (fdOf cx.K (cx.ga n)).scope.names []).map fun p => pick vs (idxIn params p.1)).map .cell = st ++ cs.map fun o => .cell (pick vs o) := by
        rw [hf.cs, ← hnames]
        simp [Function.comp]
      rw [hst] at I1
      have R1 : LR cx sc' f' (bindL (envOfC (fdOf cx.K (cx.ga n)).qualname (fdOf cx.K (cx.ga n)).scope L' (cx.ga n) (fdOf cx.K (cx.ga n)).code).kindOf (params.zip ws) fun _ => none) led1
          (ρ ++ (cellsFrom (L' + 1) (fdOf cx.K (cx.ga n)).scope.names []).map fun p => (p.2, p.2)) (ls.map (pick vs)) (List.range' st.length cs.length) := by
        refine ⟨hf.nd, by rw [hf.ls]; simp [sc'], fun i x v' hx hv hne => ?_, fun i x hx => ?_⟩
        · have hx' : ns[i]? = some x := hx
          rw [hf.ls, List.map_map, List.getElem?_map, hx'] at hv
          simp only [Option.map_some, Function.comp, Option.some.injEq] at hv
          subst hv
          have hloc : (fdOf cx.K (cx.ga n)).scope.names.lookup x = some .local := by
            have := List.all_eq_true.mp hf.nsl x (List.mem_of_getElem? hx')
            simpa using this
          rcases pick_ok X hl (x := x) with ⟨_, h⟩ | ⟨w, hw, Z⟩
          · exact absurd h hne
          · exact ⟨w, bindL_get (by rw [hkind, hloc]) ndz hw, Z.mono G1⟩
        · have hx' : cns[i]? = some x := hx
          obtain ⟨c, q1, q2⟩ := lookup_cels (xs := cellsFrom (L' + 1) (fdOf cx.K (cx.ga n)).scope.names []) (by rw [hnames]; exact hf.ndc) (by rw [hnames]; exact hx')
          refine ⟨c, st.length + i, q2, ?_, ?_⟩
          · have hi : i < cs.length := by
              rw [hf.cs, List.length_map]
              exact (List.getElem?_eq_some_iff.mp hx').1
            rw [List.getElem?_range' hi]
            simp
          · rw [List.getElem?_append_right (by rw [I.len]; omega), I.len]
            have : st.length + i - st.length = i := by omega
            rw [this, List.getElem?_map, q1]
            rfl
      have fin : ∀ {w' : Value} {h2 : Heap} {tk2 : Nat} {led2 : Led} {ρ2 : Rho} {m2 : Str → Option Value}, Inv cx f' h2 m2 led2 ρ2 st' → Grow led ρ led2 ρ2 → VR cx led2 ρ2 v w' → LeaveK f.h₀ Lr mr gh R w' (put s h2 tk2) :=
        fun I2 G2 X2 => leaveK_ I2.F I2.N fun F3 N3 => by
          obtain ⟨b1, b2, b3⟩ := back _ _ F3 N3 I2.nd fun o ho => I2.F.keep _ _ (hG _ _ ho fun hm => by
            obtain ⟨p, hp, e⟩ := List.mem_map.mp hm
            exact (NR p hp).2.1 e)
          exact P _ _ _ _ _ ⟨b1, b2, b3, I2.sep, I2.len, I2.ob⟩ G2 X2
      split at e
      · rename_i v' S1 e1
        cases e
        refine hb.1 f' ok' (put s h₁ tk₁) _ led1 _ ⟨_, _, _⟩ I1 R1 _ _ e1 _ _ fun fw m2 h2 tk2 led2 ρ2 I2 G2 R2 X2 => ?_
        cases X2 with
        | ret X2 => exact fin I2 (G1.trans G2) X2
      · rename_i S1 e1
        cases e
        refine hb.1 f' ok' (put s h₁ tk₁) _ led1 _ ⟨_, _, _⟩ I1 R1 _ _ e1 _ _ fun fw m2 h2 tk2 led2 ρ2 I2 G2 R2 X2 => ?_
        cases X2
        exact fin I2 (G1.trans G2) .none
      · cases e
  · cases e
end
end Mp
namespace Mp
section
variable {cx : Cx} {d : Nat} {sc : Sc}
structure CloOk (cx : Cx) (d : Nat) (n : Nat) (g : CloG) : Prop where
  out : ∀ (sc : Sc) (f : Fm), f.Ok cx d sc → ∀ (s : Shared) m led ρ st, Inv cx f s.heap m led ρ st → ∀ (r : Nat) a e cells, ObR cx led ρ r (.clo n cells) → ρ[r]? = some (a, e) → ∀ vs ws, VRs cx led ρ vs ws → ∀ v st', g cells vs st = some (v, st') →
    ∀ R, PostE cx f m led ρ st' v (fun w s' => R (.ok (.ret w)) s') s → codeAny cx.M f.A (.call (.ref a) ⟨ws, []⟩) R s
structure FnKK (cx : Cx) (n : Nat) (params ns : List Str) : Prop where
  bind : ∀ cl doc pm c' ctv S (ws : List Value), ws.length = params.length → peek cx.K S (bindArgs (fnX (cx.cd n).name (cx.cd n).qual (cx.cd n).params (cx.cd n).body (cx.cd n).scope cl .none .none doc pm none (.ref c') ctv) ⟨ws, []⟩) = some (params.zip ws)
  pre : ∃ r, ns = params ++ r
  nd : ns.Nodup
  ndf : (cx.cd n).fv.Nodup
  loc : (params.all fun x => decide ((cx.cd n).scope.names.lookup x = some .local)) = true
  cell : ((cx.cd n).scope.names.all fun x => decide (x.2 ≠ .cell)) = true
  co : (cx.cd n).scope.isCoroutine = false
  gen : (cx.cd n).scope.isGenerator = false
  kind : (cx.cd n).scope.kind = .function
theorem clo_okK {n : Nat} {params ns : List Str} (hf : FnKK cx n params ns) {g : SS} {ex : Env → Prop} (hb : SoundB cx d ⟨(cx.cd n).scope, ns, (cx.cd n).fv, ex⟩ (cx.cd n).body g) (hex : ∀ e, ex e := by intro _; trivial) :
    CloOk cx (d + 1) n (runK params.length ns.length g) := by
  refine ⟨?_⟩
  intro sc f ok s m led ρ st I r a dd cells hst hr vs ws X v st' e R P
  unfold runK at e
  split at e
  · rename_i hl
    obtain ⟨a', cl, c', doc, pm, ctv, h1, h2, hcode, hcl⟩ := hst
    rw [hr] at h1
    cases h1
    have hlw : ws.length = params.length := by rw [← X.length, hl]
    have hX := ok.X.keeps I.F.keep
    have hbind : BindsTo s _ ⟨ws, []⟩ (params.zip ws) := kp_binds hX fun S => hf.bind cl doc pm c' ctv S ws hlw
    have ndp : params.Nodup := by
      obtain ⟨r, hr⟩ := hf.pre
      have := hf.nd
      rw [hr, List.nodup_append] at this
      exact this.1
    have hz : (params.zip ws).map (·.1) = params := by
      rw [List.map_fst_zip]
      omega
    have hncell : ∀ x ∈ (cx.cd n).scope.names, x.2 ≠ .cell := fun y hy => of_decide_eq_true (List.all_eq_true.mp hf.cell y hy)
    obtain ⟨Lr, mr, K2, hfr, FR, NR, ndR, back⟩ := real_frame ok I
    obtain ⟨FG, BG, st0, lv⟩ := groundX (R := R) ok.B FR NR ok.hA hfr ok.fek
    obtain ⟨oc, vsc, tc, k1, k2, k3⟩ := hcode
    have hrec : s.heap.CodeRec (.ref c') (cx.cd n).qual := codeRec_news I.N (List.mem_append_left _ k1) k2 k3
    refine codeAny_call_def (binds := params.zip ws) (Nat.lt_of_le_of_lt (Nat.le_add_right _ _) ok.dep) (I.at_ h2).1 rfl (ok.T.nolimit.keeps I.F.keep) hrec rfl hbind hncell (fun y hy => ?_) (fun h₁ hns hk₁ => ?_) hf.co hf.gen hf.kind
    · have : y.1 ∈ params := by
        have := List.mem_map_of_mem (f := (·.1)) hy
        rw [hz] at this
        exact this
      exact of_decide_eq_true (List.all_eq_true.mp hf.loc y.1 this)
    · let ev' : Env := envX (cx.cd n).qual (cx.cd n).scope s.heap.objs.size a (.ref c') cl
      let sc' : Sc := ⟨(cx.cd n).scope, ns, (cx.cd n).fv, ex⟩
      let gh := hideAll s.heap ((led ++ K2).map (·.1))
      let f' : Fm := ⟨f.A.deeper ev', f.A, f.base, gh, f.fe :: f.outer, s.heap.objs.size, K2, ev', ev'⟩
      have ok' : f'.Ok cx d sc' := ⟨Around.frames_deeper BG.stack, BG, ok.X.keeps st0, ok.T.keeps st0, hf.kind, rfl, rfl, rfl, rfl, hex _, hf.kind, .inl rfl, by
        have := ok.dep
        show f.A.depth + 1 + d < 1000
        omega, by
        have := ok.un
        show f.A.units + 3 + 16 * d < 9800
        omega, ok.hh⟩
      have I' : Inv cx f' h₁ (fun y => (params.zip ws).reverse.lookup y) led ρ st := ⟨⟨hns, fun b o e => hk₁ b o (of_hideAll _ e), Nat.le_of_eq (hideAll_size _ _)⟩,
        fun p hp => ⟨hk₁ _ _ (NR p hp).1, Nat.ne_of_lt (Heap.lt_size (NR p hp).1), hideAll_none _ (List.mem_map_of_mem hp)⟩, ndR, I.sep, I.len, I.ob⟩
      have R' : LR cx sc' f' (fun y => (params.zip ws).reverse.lookup y) led ρ (vs ++ List.replicate (ns.length - params.length) .undef) cells := by
        obtain ⟨r', hr'⟩ := hf.pre
        refine ⟨hf.nd, ?_, fun i x v' hx hv hne => ?_, fun i x hx => hcl.look hf.ndf hx⟩
        · show _ = ns.length
          rw [List.length_append, hl, List.length_replicate, hr', List.length_append]
          omega
        · have hx' : ns[i]? = some x := hx
          by_cases hi : i < params.length
          · rw [List.getElem?_append_left (by omega)] at hv
            rw [hr', List.getElem?_append_left hi] at hx'
            obtain ⟨w', hw, q⟩ := X.get hv
            exact ⟨w', by rw [lookup_rev (by rw [hz]; exact ndp)]; exact lookup_zip ndp hx' hw, q⟩
          · rw [List.getElem?_append_right (by omega)] at hv
            have := List.mem_of_getElem? hv
            rw [List.mem_replicate] at this
            exact absurd this.2 hne
      have fin : ∀ {w' : Value} {h2 : Heap} {tk2 : Nat} {led2 : Led} {ρ2 : Rho} {m2 : Str → Option Value}, Inv cx f' h2 m2 led2 ρ2 st' → Grow led ρ led2 ρ2 → VR cx led2 ρ2 v w' → LeaveK f.h₀ Lr mr gh R w' (put s h2 tk2) :=
        fun I2 G2 X2 => leaveK_ I2.F I2.N fun F3 N3 => by
          obtain ⟨b1, b2, b3⟩ := back _ _ F3 N3 I2.nd fun o ho => I2.F.keep _ _ (hideAll_get _ ho fun hm => by
            obtain ⟨p, hp, e⟩ := List.mem_map.mp hm
            exact (NR p hp).2.1 e)
          exact P _ _ _ _ _ ⟨b1, b2, b3, I2.sep, I2.len, I2.ob⟩ G2 X2
      split at e
      · rename_i v' S1 e1
        cases e
        refine wpAny_mono (hb.1 f' ok' (put s h₁ (s.toks + (params.zip ws).length)) _ led ρ ⟨_, cells, st⟩ I' R' _ _ e1 (fun fl s' => LeaveK f.h₀ Lr mr gh R (match fl with | .ret v => v | _ => .none) s') _ fun fw m2 h2 tk2 led2 ρ2 I2 G2 R2 X2 => ?_) (fun fl s' hl => lv _ _ hl) fun _ _ y => y
        cases X2 with
        | ret X2 => exact fin I2 G2 X2
      · rename_i S1 e1
        cases e
        refine wpAny_mono (hb.1 f' ok' (put s h₁ (s.toks + (params.zip ws).length)) _ led ρ ⟨_, cells, st⟩ I' R' _ _ e1 (fun fl s' => LeaveK f.h₀ Lr mr gh R (match fl with | .ret v => v | _ => .none) s') _ fun fw m2 h2 tk2 led2 ρ2 I2 G2 R2 X2 => ?_) (fun fl s' hl => lv _ _ hl) fun _ _ y => y
        cases X2
        exact fin I2 G2 .none
      · cases e
  · cases e
theorem CloOk.le {d' n g} (h : CloOk cx d n g) (hd : d ≤ d') : CloOk cx d' n g := ⟨fun sc f ok => h.1 sc f (ok.le hd)⟩
theorem CloOk.up {d' n g} (h : CloOk cx d n g) (hd : Nat.ble d d' = true) : CloOk cx d' n g := h.le (Nat.le_of_ble_eq_true hd)
structure CloTab (cx : Cx) (d : Nat) (ct : Nat → Option CloG) : Prop where
  call : ∀ n g, ct n = some g → CloOk cx d n g
theorem clo_nil : CloTab cx d (fun n => ([] : List (Nat × CloG)).lookup n) := ⟨fun n g h => by cases h⟩
theorem clo_cons {n : Nat} {g : CloG} {l : List (Nat × CloG)} (h : CloOk cx d n g) (r : CloTab cx d (fun n => l.lookup n)) : CloTab cx d (fun n' => ((n, g) :: l).lookup n') := by
  refine ⟨fun n' g' e => ?_⟩
  have e' : ((n, g) :: l).lookup n' = some g' := e
  rw [List.lookup_cons] at e'
  by_cases hn : n' = n
  · subst hn
    simp at e'
    exact e' ▸ h
  · have : (n' == n) = false := by simpa using hn
    rw [this] at e'
    exact r.call _ _ e'
theorem callWith_R {fv : Value} {es : List Expr} {ga : SEs} (hes : SoundEs cx d sc es ga) (hs : NoStars es)
    {f : Fm} (ok : f.Ok cx d sc) {s : Shared} {m led ρ} {S : S} (I : Inv cx f s.heap m led ρ S.st) (R : LR cx sc f m led ρ S.lo S.ce) {q : Addr} {o : Obj} (hq : fv = .ref q) (ho : (q, o) ∈ led) (hz : Frz o = true) (hfn : ∃ oc od fd sl, o = ⟨oc, od, .func fd, sl⟩)
    {vs st1} (e1 : ga S = some (vs, st1)) (hn : es = [] → vs = [] ∧ st1 = S.st) {pos : Pos} {Q E} (P : PostEs cx f m led ρ st1 vs (fun ws s' => wpAny cx.M f.A (call fv ws) Q E s') s) :
    wpAny cx.M f.A (callWith pos fv [] (backTo pos (starEach es (f.env sc))) []) Q E s := by
  subst hq
  have fnAt : ∀ {h m' led' ρ' st'}, Inv cx f h m' led' ρ' st' → Grow led ρ led' ρ' → FnAt q h := fun I' G' => by
    obtain ⟨oc, od, fd, sl, rfl⟩ := hfn
    exact FnAt.of I'.N (List.mem_append_left _ (G'.fz _ ho hz))
  have hb : ∀ (l : List (Bool × Sem Value)), (backTo pos l).any (·.1) = l.any (·.1) := by
    intro l
    show (l.map _).any _ = _
    rw [List.any_map]
    rfl
  cases es with
  | nil =>
    obtain ⟨rfl, rfl⟩ := hn rfl
    exact callWith_F0 (first := []) (fnAt I (.refl _ _)) (P _ _ s.toks _ _ I (.refl _ _) .nil)
  | cons e r =>
    have h1 := (hs (f.env sc)).2
    simp only at h1
    refine callWith_F (first := []) (fnAt I (.refl _ _)) ?_ h1 ?_
    · exact hes.1 f ok s m led ρ S I R _ _ e1 pos _ _ fun ws h1 tk1 led1 ρ1 I1 G1 X1 => ⟨fnAt I1 G1, P _ _ _ _ _ I1 G1 X1⟩
    · have := (hs (f.env sc)).1
      rw [hb]
      rw [h1, List.any_cons, Bool.or_eq_false_iff] at this
      exact this.2
theorem b_dyn2 {fe : Expr} {pos : Pos} {es : List Expr} {tab : Nat → Option FnG} {ct : Nat → Option CloG} {gf : SE} {ga : SEs} (hf : SoundE cx d sc fe gf) (ht : TabOk cx d tab) (hc : CloTab cx d ct) (hes : SoundEs cx d sc es ga) (hs : NoStars es) (hn : NilOk es ga)
    (hq : ∀ env, eval (.Call fe es [] pos) env = (do
          let f ← eval fe env
          callWith pos f [] (backTo pos (starEach es env)) (backToKw pos (keywordEach [] env)))) : SoundE cx d sc (.Call fe es [] pos) (dyn2E tab ct gf ga) := by
  refine ⟨?_⟩
  intro f ok s m led ρ S I R v st' hg' Q E P
  unfold dyn2E at hg'
  try simp only [gt_eq, pt_eq, ad_eq, ln_eq] at hg'
  split at hg'
  · rename_i n st0 e0
    split at hg'
    · rename_i g eg
      split at hg'
      · rename_i vs st1 e1
        refine Call_ (hf.1 f ok s m led ρ S I R _ _ e0 _ _ fun w h0 tk0 led0 ρ0 I0 G0 X0 => ?_) (hq _)
        cases X0
        exact callWith_any (s := put s h0 tk0) (S := ⟨S.lo, S.ce, st0⟩) hes hs (keeps_K (ht.keep _ _ eg)) ok I0 (R.mono G0) e1 (fun h => by rw [hn h] at e1; cases e1; exact ⟨rfl, rfl⟩)
          fun ws h1 tk1 led1 ρ1 I1 G1 X1 => call_ok (ht.call _ _ eg) ok (s := put s h1 tk1) I1 X1 hg' (P.next (G0.trans G1))
      · cases hg'
    · cases hg'
  · rename_i r st0 e0
    split at hg'
    · rename_i n cells hst
      split at hg'
      · rename_i g eg
        split at hg'
        · rename_i vs st1 e1
          refine Call_ (hf.1 f ok s m led ρ S I R _ _ e0 _ _ fun w h0 tk0 led0 ρ0 I0 G0 X0 => ?_) (hq _)
          cases X0 with
          | ref _ a dd hr =>
            have hob := I0.ob _ _ hst
            have hob' := hob
            obtain ⟨a', cl, c', doc, pm, ctv, h1, h2, _⟩ := hob'
            rw [hr] at h1
            cases h1
            refine callWith_R (s := put s h0 tk0) (S := ⟨S.lo, S.ce, st0⟩) hes hs ok I0 (R.mono G0) rfl h2 rfl ⟨_, _, _, _, rfl⟩ e1 (fun h => by rw [hn h] at e1; cases e1; exact ⟨rfl, rfl⟩) fun ws h1 tk1 led1 ρ1 I1 G1 X1 => ?_
            exact wpAny_call ((hc.call _ _ eg).1 sc f ok (put s h1 tk1) m _ _ _ I1 r _ _ cells (ObR.mono (i := r) G1 (fun p hp b hb => by
              rw [hr] at hb
              cases hb
              have := I0.uniq h2 hp
              exact G1.fz _ hp (this ▸ rfl)) hob) (G1.at hr) vs _ X1 _ _ hg' _ (P.next (G0.trans G1)))
        · cases hg'
      · cases hg'
    · cases hg'
  · cases hg'
end
end Mp
namespace Mp
section
variable {cx : Cx} {d : Nat} {sc : Sc}
theorem updF_of {dd : Addr} {o : Obj} : ∀ {led : Led}, (led.map (·.1)).Nodup → (dd, o) ∈ led → UpdF dd o led (fun o' => updL dd o' led) := by
  intro led
  induction led with
  | nil => intro _ h; cases h
  | cons p r ih =>
    intro nd h
    simp only [List.map_cons, List.nodup_cons] at nd
    rcases List.mem_cons.mp h with e | h
    · subst e
      have hr : ∀ q ∈ r, q.1 ≠ dd := fun q hq e => nd.1 (List.mem_map.mpr ⟨q, hq, e⟩)
      have : (fun o' => updL dd o' ((dd, o) :: r)) = fun o' => (dd, o') :: r := by
        funext o'
        show (if dd = dd then (dd, o') else (dd, o)) :: updL dd o' r = (dd, o') :: r
        rw [if_pos rfl, updL_kept hr]
      rw [this]
      exact .head hr
    · have n : p.1 ≠ dd := fun e => nd.1 (List.mem_map.mpr ⟨(dd, o), h, e.symm⟩)
      have : (fun o' => updL dd o' (p :: r)) = fun o' => p :: updL dd o' r := by
        funext o'
        show (if p.1 = dd then (dd, o') else p) :: updL dd o' r = p :: updL dd o' r
        rw [if_neg n]
      rw [this]
      exact .tail n (ih nd.2 h)
theorem Inv.storeNew {f : Fm} {h h' : Heap} {m led ρ st} (I : Inv cx f h m led ρ st) {i : Nat} {a dd : Addr} {o o' : Obj} {ob : Ob} {new : Led} (hi : ρ[i]? = some (a, dd)) (ho : (dd, o) ∈ led) (hz : Frz o = false)
    (F' : Fr f.h₀ f.L h' m) (N' : News f.h₀ f.L h' (new ++ (updL dd o' led ++ f.kept))) (hnd : ((new ++ (updL dd o' led ++ f.kept)).map (·.1)).Nodup) (R : Grow led ρ (new ++ updL dd o' led) ρ → ObR cx (new ++ updL dd o' led) ρ i ob) :
    Inv cx f h' m (new ++ updL dd o' led) ρ (st.set i ob) ∧ Grow led ρ (new ++ updL dd o' led) ρ := by
  have g : Grow led ρ (new ++ updL dd o' led) ρ := ⟨fun p hp hf => List.mem_append_right _ (updL_ne hp fun e => (by
    obtain ⟨b, x⟩ := p
    simp only at e
    subst e
    rw [I.uniq hp ho, hz] at hf
    exact Bool.noConfusion hf)), [], (by simp)⟩
  refine ⟨⟨F', by rw [List.append_assoc]; exact N', by rw [List.append_assoc]; exact hnd, I.sep, by simp [I.len], fun j x e => ?_⟩, g⟩
  by_cases hj : i = j
  · subst hj
    have := (List.getElem?_eq_some_iff.mp e).1
    rw [List.length_set] at this
    rw [List.getElem?_set_self this] at e
    exact Option.some.inj e ▸ R g
  · rw [List.getElem?_set_ne hj] at e
    refine (I.ob j x e).mono g fun p hp b hb => List.mem_append_right _ (updL_ne hp fun e' => hj ?_)
    refine nodup_at I.sep (x := dd) ?_ ?_
    · rw [List.getElem?_map, hi]; rfl
    · rw [List.getElem?_map, hb, e']; rfl
theorem Inv.newClo {f : Fm} {h : Heap} {m led ρ st} (I : Inv cx f h m led ρ st) {n : Nat} {cells : List Nat} {fa c' : Addr} {cl : List (Str × Addr)} {doc pm ctv : Value}
    (hm : (fa, fnMade (cx.cd n).name (cx.cd n).qual (cx.cd n).params (cx.cd n).body (cx.cd n).scope cl doc pm c' ctv) ∈ led) (hnew : ∀ q ∈ ρ, q.2 ≠ fa) (hc : CodeR led (cx.cd n).qual c') (hcl : CelsR ρ cl (cx.cd n).fv cells) :
    Inv cx f h m led (ρ ++ [(fa, fa)]) (st ++ [.clo n cells]) ∧ Grow led ρ led (ρ ++ [(fa, fa)]) := by
  have g : Grow led ρ led (ρ ++ [(fa, fa)]) := ⟨fun p hp _ => hp, ⟨_, rfl⟩⟩
  obtain ⟨I', G'⟩ := I.make (new := []) (a := fa) (d := fa) (ob := .clo n cells) I.F (by simpa using I.N) (by simpa using I.nd) hnew
    ⟨fa, cl, c', doc, pm, ctv, by rw [← I.len]; simp, hm, hc, hcl.mono g.to2⟩
  exact ⟨I', G'⟩
theorem s_def {name : Str} {params : Arguments} {body : List Stmt} {scope : Scope} {pos : Pos} {q : Str} {c : Addr} {ti n j : Nat} {is : List Nat} (hx : LocName sc j name) (hex : ∀ e, sc.ex e → ∃ L a cl, e = envX q sc.cs L a (.ref c) cl)
    (hcd : cx.cd n = ⟨name, q ++ (".<locals>." : Str) ++ name, params, body, scope, pos, freesOf scope, c⟩) (his : (freesOf scope).map some = is.map fun i => sc.cns[i]?)
    (hd0 : params.defaults = []) (hk0 : params.kw_defaults = []) (ha : ∀ env, annTrees params none env = []) :
    SoundS cx d sc (.FunctionDef name params body [] none [] scope none name pos) (defS ti n is (asgL j)) := by
  refine ⟨?_⟩
  intro f ok s m led ρ S I R fl S' hg Q E P
  unfold defS at hg
  try simp only [gt_eq, pt_eq, ad_eq, ln_eq] at hg
  split at hg
  · rename_i cells hks
    split at hg
    · rename_i n' made hst
      split at hg
      · rename_i hn
        subst hn
        unfold asgL at hg
        try simp only [gt_eq, pt_eq, ad_eq, ln_eq] at hg
        simp only [Option.some.injEq, Prod.mk.injEq] at hg
        obtain ⟨rfl, rfl⟩ := hg
        obtain ⟨cl, c1, c2, c3⟩ := cels_of R his hks
        obtain ⟨Lx, ax, clx, he⟩ := hex _ ok.evx
        have hLx : f.L = Lx := by rw [← ok.evl, he]
        have hclos : closureFor scope (envX q sc.cs f.L ax (.ref c) clx) = pure cl := by
          rw [hLx, ← he]
          exact closureFor_of c2 c3
        have hq : qualnameIn f.ev name name = q ++ (".<locals>." : Str) ++ name := by
          unfold qualnameIn
          have : f.ev.kindOf name = some .local := ok.kind hx.kind
          rw [this, he]
          rfl
        obtain ⟨P0, ps, h1, h2, hP, h4⟩ := I.ob _ _ hst
        have hhd : CodeHd f.h₀ c P0 := by
          have := hP f.h₀ ok.X
          rw [hcd] at this
          exact this
        refine nestDef_K hd0 hk0 (ha _) ?_
        rw [hq]
        show wpAny cx.M f.A (makeFunction name _ params (.stmts body) scope f.ev [] [] [] pos pos.line) _ E s
        have hrec : ∀ {w : Value} {h' tk led' ρ'} , Inv cx f h' m led' ρ' (S.st.set ti (.tab n' true) ++ [.clo n' cells]) → Grow led ρ led' ρ' → VR cx led' ρ' (.ref S.st.length) w →
            wpAny cx.M f.A (storeName f.ev name w) (fun _ s'' => Q .next s'') E (put s h' tk) := fun I' G' X' =>
          store_loc hx ok (s := put s _ _) (S := ⟨S.lo, S.ce, _⟩) I' (R.mono G') X' fun m2 h2 tk2 led2 ρ2 I2 G2 R2 => P _ _ _ _ _ _ I2 (G'.trans G2) R2 .next
        have hlt : ∀ q ∈ ρ, ∃ o, (q.2, o) ∈ led := I.rho_mem
        have hrl : ρ.length = S.st.length := I.len
        rcases h4 with ⟨rfl, rfl⟩ | ⟨rfl, c', rfl, hcode⟩
        · rw [he, ← hLx]
          refine nest_K I.F I.N ok.T hhd rfl (updF_of I.nd (List.mem_append_left _ h2)) trivial rfl hclos fun fa c' oc vs t ctv doc h' tk F' N' hd hv hlt1 hlt2 => ?_
          have e1 : updL P0 (tabObj (#[] ++ #[rawInt pos.line, rawInt pos.col, .ref c'])) (led ++ f.kept) = updL P0 (tabObj #[rawInt pos.line, rawInt pos.col, .ref c']) led ++ f.kept := by
            rw [I.updK h2]; rfl
          rw [e1] at N'
          have hadr : (updL P0 (tabObj #[rawInt pos.line, rawInt pos.col, .ref c']) led ++ f.kept).map (·.1) = (led ++ f.kept).map (·.1) := by rw [List.map_append, updL_fst, List.map_append]
          have hnd : (([(fa, fnMade name (q ++ (".<locals>." : Str) ++ name) params body scope cl doc ((cx.mg "__name__").getD .none) c' ctv), (c', oc)] ++ (updL P0 (tabObj #[rawInt pos.line, rawInt pos.col, .ref c']) led ++ f.kept)).map (·.1)).Nodup := by
            rw [List.map_append, hadr]
            simp only [List.map_cons, List.map_nil, List.cons_append, List.nil_append, List.nodup_cons, List.mem_cons, not_or]
            refine ⟨⟨Nat.ne_of_gt hlt2, fun hm => ?_⟩, fun hm => ?_, I.nd⟩
            · obtain ⟨p, hp, e⟩ := List.mem_map.mp hm
              exact absurd (Nat.lt_trans (hlt1 p hp) hlt2) (by rw [e]; exact Nat.lt_irrefl _)
            · obtain ⟨p, hp, e⟩ := List.mem_map.mp hm
              exact absurd (hlt1 p hp) (by rw [e]; exact Nat.lt_irrefl _)
          have hcr : ∀ {new : Led}, CodeR ([(fa, fnMade name (q ++ (".<locals>." : Str) ++ name) params body scope cl doc ((cx.mg "__name__").getD .none) c' ctv), (c', oc)] ++ new) (cx.cd n').qual c' := by
            rw [hcd]
            exact ⟨oc, vs, t, .tail _ (.head _), hd, hv⟩
          obtain ⟨I1, G1⟩ := I.storeNew (ob := .tab n' true) h1 h2 rfl F' N' hnd fun g => ⟨P0, _, h1, List.mem_append_right _ (updL_self h2), hP, .inr ⟨rfl, c', by rw [hcd], hcr⟩⟩
          obtain ⟨I2, G2⟩ := I1.newClo (n := n') (cells := cells) (fa := fa) (c' := c') (cl := cl) (doc := doc) (pm := (cx.mg "__name__").getD .none) (ctv := ctv) (by rw [hcd]; exact .head _) (fun qq hqq e => by
            obtain ⟨o, ho⟩ := hlt qq hqq
            exact absurd (Nat.lt_trans (hlt1 _ (List.mem_append_left _ ho)) hlt2) (by rw [e]; exact Nat.lt_irrefl _)) hcr (by rw [hcd]; exact c1)
          exact hrec I2 (G1.trans G2) (.ref _ fa fa (by rw [← hrl]; simp))
        · rw [he, ← hLx]
          have htri : TriplesOk (#[rawInt (cx.cd n').pos.line, rawInt (cx.cd n').pos.col, Value.ref c'] : Array Value).toList := trivial
          have hfound : codeAmong pos (#[rawInt (cx.cd n').pos.line, rawInt (cx.cd n').pos.col, Value.ref c'] : Array Value).toList = some (.ref c') := by
            rw [hcd]
            simp [codeAmong, rawInt]
          refine nestHit_K I.F I.N ok.T hhd rfl (List.mem_append_left _ h2) htri hfound hclos fun fa ctv doc h' tk F' N' hlt1 => ?_
          obtain ⟨I1, G1⟩ := I.push (a := fa) (fun p hp => Nat.ne_of_lt (hlt1 p hp)) F' N'
          obtain ⟨I2, G2⟩ := I1.newClo (n := n') (cells := cells) (fa := fa) (c' := c') (cl := cl) (doc := doc) (pm := (cx.mg "__name__").getD .none) (ctv := ctv) (by rw [hcd]; exact .head _) (fun qq hqq e => by
            obtain ⟨o, ho⟩ := hlt qq hqq
            exact absurd (hlt1 _ (List.mem_append_left _ ho)) (by rw [e]; exact Nat.lt_irrefl _)) (hcode.mono G1.to2) (by rw [hcd]; exact c1)
          have hset : S.st.set ti (.tab n' true) = S.st := by
            obtain ⟨hlt', e⟩ := List.getElem?_eq_some_iff.mp hst
            rw [← e]
            exact List.set_getElem_self hlt'
          rw [hset] at hrec
          exact hrec I2 (G1.trans G2) (.ref _ fa fa (by rw [← hrl]; simp))
      · cases hg
    · cases hg
  · cases hg
end
end Mp
namespace Mp
section
variable {cx : Cx} {d : Nat} {sc : Sc}
end
end Mp
namespace Mp
noncomputable def firstDef : List Stmt → Option (Str × Arguments × List Stmt × Scope × Pos)
  | [] => none
  | .FunctionDef name params body _ _ _ scope _ _ pos :: _ => some (name, params, body, scope, pos)
  | _ :: r => firstDef r
noncomputable def codeOf : Value → Addr
  | .ref c => c
  | _ => 0
noncomputable def cdOf (K : Frag) (a : Addr) : CD := match firstDef (stOf K a) with
  | some (n, p, b, s, pos) => ⟨n, (fdOf K a).qualname ++ (".<locals>." : Str) ++ n, p, b, s, pos, freesOf s, codeOf (fdOf K a).code⟩
  | none => ⟨"", "", (fdOf K a).params, [], (fdOf K a).scope, ⟨0, 0, 0, 0⟩, [], 0⟩
theorem CloTab.up {cx : Cx} {d d' : Nat} {ct} (h : CloTab cx d ct) (hd : Nat.ble d d' = true) : CloTab cx d' ct := ⟨fun n g e => (h.call n g e).up hd⟩
end Mp
namespace Mp
structure ScrOk (cx : Cx) (n : Nat) (c : Int) (l : List V) : Prop where
  at_ : ∃ o ws k xs, cx.K.lookup (cx.ga n) = some o ∧ o.cls = .type "list" ∧ o.data = .seq ws k ∧ (∀ led ρ, VRs cx led ρ xs ws.toList) ∧ xs.length ≤ 1000 ∧ l = sliceL xs none (some c)
noncomputable def scrE (n : Nat) (c : Int) (l : List V) (a : SE) (lo hi : S → Option (Option Int × List Ob)) : SE := fun S => match a S with
  | some (.g n', st) => if n' = n then (match lo ⟨S.lo, S.ce, st⟩ with
    | some (none, st) => match hi ⟨S.lo, S.ce, st⟩ with
      | some (some j, st) => if j = c then some (.ref (ln st), ad st (.list l)) else none
      | _ => none
    | _ => none) else none
  | _ => none
section
variable {cx : Cx} {d : Nat} {sc : Sc}
theorem b_scr {n : Nat} {c : Int} {l : List V} (hx : ScrOk cx n c l) {a : Expr} {lo hi : Option Expr} {ga : SE} {gl gh : S → Option (Option Int × List Ob)} {pos p : Pos} (ha : SoundE cx d sc a ga) (hl : SoundP cx d sc lo gl) (hh : SoundP cx d sc hi gh)
    (hs : ∀ o i, subscripted (.Slice lo hi none p) false o i = operate [i, o] (getItem o i)) : SoundE cx d sc (.Subscript a (.Slice lo hi none p) pos) (scrE n c l ga gl gh) := by
  refine ⟨?_⟩
  intro f ok s m led ρ S I R v st' hg Q E P
  refine Subscript_ ?_
  unfold scrE at hg
  try simp only [gt_eq, pt_eq, ad_eq, ln_eq] at hg
  split at hg
  · rename_i n' st1 ea
    split at hg
    · rename_i hn
      subst hn
      split at hg
      · rename_i st2 el
        split at hg
        · rename_i j st3 eh
          split at hg
          · rename_i hjc
            subst hjc
            cases hg
            refine ha.1 f ok s m led ρ S I R _ st1 ea _ _ fun wx h1 tk1 led1 ρ1 I1 G1 X1 => wpAny_Slice ?_
            refine hl.1 f ok (put s h1 tk1) m led1 ρ1 ⟨S.lo, S.ce, st1⟩ I1 (R.mono G1) _ _ el _ _ fun wi h2 tk2 led2 ρ2 I2 G2 X2 => ?_
            refine hh.1 f ok (put s h2 tk2) m led2 ρ2 ⟨S.lo, S.ce, st2⟩ I2 (R.mono (G1.trans G2)) _ _ eh _ _ fun wj h3 tk3 led3 ρ3 I3 G3 X3 => ?_
            refine evalPart_none_step ?_
            cases X1
            obtain ⟨o, ws, k, xs, q1, q2, q3, q4, q5, q6⟩ := hx.at_
            have hlist : h3.IsList (cx.ga n') ws := ⟨o, I3.F.keep _ _ (ok.X _ _ q1), q2, k, q3⟩
            have hlen := (q4 led3 ρ3).length
            refine kba_turn (value' := .Name ("_" : Str) ⟨0, 0, 0, 0⟩) (fun _ => rfl) (kmk_slice (s := put s h3 tk3) I3.F I3.N hlist X2 X3 (fun D h' F' N' hlt => ?_) (hs _ _) (fun _ => rfl) (by rw [sizeLine_eq]; simp at hlen; omega))
            have hp : slicePick ws none (some j) none = (sliceL ws.toList none (some j)).toArray := by
              rw [slicePick_plain]
              unfold sliceL
              simp
            rw [hp] at N'
            obtain ⟨I', G'⟩ := I3.newList F' N' hlt ((q4 led3 ρ3).slice none (some j))
            rw [← q6] at I'
            exact P _ _ _ _ _ I' (((G1.trans G2).trans G3).trans G') (.ref _ D D (by rw [← I3.len]; simp))
          · cases hg
        · cases hg
      · cases hg
    · cases hg
  · cases hg
noncomputable def topF (G : Heap) (L : Addr) (ev : Env) : Fm := ⟨callerA.deeper ev, callerA, G, G, [], L, [], ev, ev⟩
theorem topF_ok {G : Heap} {L fa : Addr} {name : Str} {scope : Scope} {cd : Value} (X : cx.K.In G) (T : Top cx.p cx.loose cx.mean cx.mg cx.mb G) (B : Below callerA G [] G) (hsc : sc.cs = scope) (hkind : scope.kind = .function)
    (hex : sc.ex (envOfC name scope L fa cd)) (hd : d ≤ 500) : (topF G L (envOfC name scope L fa cd)).Ok cx d sc where
  hA := Around.frames_deeper B.stack
  B := B
  X := X
  T := T
  hk := by rw [hsc]; exact hkind
  evs := hsc.symm
  evl := rfl
  evg := rfl
  evb := rfl
  evx := hex
  fek := hkind
  fr := .inl rfl
  dep := by
    show callerA.depth + 1 + d < 1000
    have : callerA.depth ≤ 301 := by decide
    omega
  un := by
    show callerA.units + 3 + 16 * d < 9800
    have : callerA.units ≤ 100 := by decide
    omega
  hh := rfl
theorem ints_any {cx : Cx} {led ρ} {is : List Int} {ws : List Value} (h : VRs cx led ρ (is.map .int) ws) (led' : Led) (ρ' : Rho) : VRs cx led' ρ' (is.map .int) ws := by
  induction is generalizing ws with
  | nil => cases h; exact .nil
  | cons a is ih =>
    cases h with
    | cons x r => cases x; exact .cons (.int _ _) (ih r)
noncomputable def scrI (n : Nat) (c : Int) (is : List Int) (a : SE) (lo hi : S → Option (Option Int × List Ob)) : SE := fun S => match a S with
  | some (.g n', st) => if n' = n then (match lo ⟨S.lo, S.ce, st⟩ with
    | some (none, st) => match hi ⟨S.lo, S.ce, st⟩ with
      | some (some j, st) => if j = c then some (.ref (ln st), ad st (.nums is)) else none
      | _ => none
    | _ => none) else none
  | _ => none
theorem Inv.toInts {f : Fm} {h m led ρ st} {is : List Int} (I : Inv cx f h m led ρ (st ++ [.list (is.map .int)])) : Inv cx f h m led ρ (st ++ [.nums is]) := by
  refine ⟨I.F, I.N, I.nd, I.sep, by rw [I.len]; simp, fun i o e => ?_⟩
  by_cases hi : i < st.length
  · rw [List.getElem?_append_left hi] at e
    exact I.ob i o (by rw [List.getElem?_append_left hi]; exact e)
  · have hl : i = st.length := by
      have := (List.getElem?_eq_some_iff.mp e).1
      simp at this
      omega
    subst hl
    simp at e
    subst e
    obtain ⟨a, ws, n, h1, h2, h3⟩ := I.ob st.length _ (by simp : (st ++ [Ob.list (is.map .int)])[st.length]? = some (.list (is.map .int)))
    exact ⟨a, ws, n, h1, h2, fun led' ρ' => ints_any h3 led' ρ'⟩
theorem b_scrI {n : Nat} {c : Int} {is : List Int} (hx : ScrOk cx n c (is.map .int)) {a : Expr} {lo hi : Option Expr} {ga : SE} {gl gh : S → Option (Option Int × List Ob)} {pos p : Pos} (ha : SoundE cx d sc a ga) (hl : SoundP cx d sc lo gl) (hh : SoundP cx d sc hi gh)
    (hs : ∀ o i, subscripted (.Slice lo hi none p) false o i = operate [i, o] (getItem o i)) : SoundE cx d sc (.Subscript a (.Slice lo hi none p) pos) (scrI n c is ga gl gh) := by
  refine ⟨?_⟩
  intro f ok s m led ρ S I R v st' hg Q E P
  unfold scrI at hg
  try simp only [gt_eq, pt_eq, ad_eq, ln_eq] at hg
  split at hg
  · rename_i n' st1 ea
    split at hg
    · rename_i hn
      split at hg
      · rename_i st2 el
        split at hg
        · rename_i j st3 eh
          split at hg
          · rename_i hjc
            cases hg
            refine (b_scr hx ha hl hh hs).1 f ok s m led ρ S I R (.ref st3.length) (st3 ++ [.list (is.map .int)]) ?_ Q E fun w h' tk' led' ρ' I' G' X' => P w h' tk' led' ρ' I'.toInts G' X'
            unfold scrE
            try simp only [gt_eq, pt_eq, ad_eq, ln_eq]
            rw [ea]
            dsimp only
            rw [if_pos hn, el]
            dsimp only
            rw [eh]
            dsimp only
            rw [if_pos hjc]
          · cases hg
        · cases hg
      · cases hg
    · cases hg
  · cases hg
theorem top_fin {f : Fm} (ok : f.Ok cx d sc) {g : SS} {body : List Stmt} (hb : SoundB cx d sc body g) {s : Shared} {m led ρ} {S0 S' : S} (I : Inv cx f s.heap m led ρ S0.st) (R : LR cx sc f m led ρ S0.lo S0.ce) (hg : g S0 = some (.ret (.bool true), S'))
    {Q : Flow → Shared → Prop} {E} (fin : ∀ h' tk' m' led' ρ', Inv cx f h' m' led' ρ' S'.st → Grow led ρ led' ρ' → Q (.ret (.bool true)) (put s h' tk')) : wpAny cx.M f.A (execs body f.ev) Q E s :=
  hb.1 f ok s m led ρ S0 I R _ _ hg _ _ fun fw m' h' tk' led' ρ' I' G' R' X' => by
    cases X' with
    | ret X' => cases X'; exact fin _ _ _ _ _ I' G'
noncomputable def codeHdB (K : Frag) (c P : Addr) : Bool := match K.lookup c with
  | some ⟨.type T, _, .fields vs, _⟩ => T == "code" && Nat.beq c P == false && (match (vs[11]? : Option Value), vs.getD 11 .none, vs.getD 18 .none, vs.getD 7 .none, vs.getD 9 .none, vs.getD 10 .none with
    | some (.ref a), .ref b, .str _ _, .int _ _, .bool _, .int _ _ => Nat.beq a P && Nat.beq b P
    | _, _, _, _, _, _ => false)
  | _ => false
theorem codeHd_of {K : Frag} {c P : Addr} (h : codeHdB K c P = true) : ∀ g, K.In g → CodeHd g c P := by
  intro g X
  unfold codeHdB at h
  split at h
  · rename_i T dd vs sl hK
    simp only [Bool.and_eq_true] at h
    obtain ⟨⟨hT, hne⟩, h⟩ := h
    split at h
    · rename_i a b file tf flags tg inF text tt e1 e2 e3 e4 e5 e6
      simp only [Bool.and_eq_true] at h
      have ha : a = P := Nat.eq_of_beq_eq_true h.1
      have hb : b = P := Nat.eq_of_beq_eq_true h.2
      subst ha
      have hT' : T = "code" := by simpa using hT
      subst hT'
      have hne' : c ≠ a := by
        intro e
        subst e
        simp at hne
      exact ⟨_, vs, file, tf, flags, tg, inF, text, tt, X _ _ hK, rfl, rfl, e1, by rw [e2, hb], e3, e4, e5, e6, hne'⟩
    · cases h
  · cases h
theorem grown_of {f : Fm} {h m led ρ st} (I : Inv cx f h m led ρ st) {i n : Nat} {made : Bool} {P : Addr} (hst : st[i]? = some (.tab n made)) (hr : ρ[i]? = some (P, P)) : GrownAt P h := by
  obtain ⟨P', ps, h1, h2, _⟩ := I.ob _ _ hst
  rw [hr] at h1
  cases h1
  exact ⟨ps, (I.at_ h2).1⟩
theorem K_more {K : Frag} {h : Heap} (X : K.In h) {a : Addr} {o : Obj} (e : h.get? a = some o) : (K ++ [(a, o)]).In h := by
  intro b x hb
  rw [List.lookup_append] at hb
  cases hK : K.lookup b with
  | some y =>
    rw [hK] at hb
    cases hb
    exact X _ _ hK
  | none =>
    rw [hK] at hb
    simp only [Option.none_or] at hb
    rw [List.lookup_cons] at hb
    by_cases h : (b == a) = true
    · rw [h] at hb
      cases hb
      rw [eq_of_beq h]
      exact e
    · have : (b == a) = false := by simpa using h
      rw [this] at hb
      cases hb
theorem K_more_at {K : Frag} {h : Heap} (X : K.In h) {a : Addr} {o : Obj} (e : h.get? a = some o) : (K ++ [(a, o)]).lookup a = some o := by
  rw [List.lookup_append]
  cases hK : K.lookup a with
  | some y =>
    have := X _ _ hK
    rw [e] at this
    cases this
    rfl
  | none => simp
end
end Mp
namespace Mp
section
variable {cx : Cx} {d : Nat} {sc : Sc}
theorem b_chain {a b c : Expr} {ga gb gc : SE} {pos : Pos} (ha : SoundE cx d sc a ga) (hb : SoundE cx d sc b gb) (hc : SoundE cx d sc c gc)
    (hq : ∀ env, eval (.Compare a [.LtE, .LtE] [b, c] pos) env = (do
      let x ← eval a env
      compareChain pos x [.LtE, .LtE] [eval b env, eval c env])) : SoundE cx d sc (.Compare a [.LtE, .LtE] [b, c] pos) (chE ga gb gc) := by
  refine ⟨?_⟩
  intro f ok s m led ρ S I R v st' hg Q E P
  unfold chE at hg
  split at hg
  · rename_i x st1 e1
    split at hg
    · rename_i y st2 e2
      show wpAny cx.M f.A (eval _ f.ev) Q E s
      rw [hq]
      refine wpAny_bind (ha.1 f ok s m led ρ S I R _ _ e1 _ _ fun wx h1 tk1 led1 ρ1 I1 G1 X1 => ?_)
      refine wpAny_bind (wpAny_holding (hb.1 f ok (put s h1 tk1) m led1 ρ1 ⟨S.lo, S.ce, st1⟩ I1 (R.mono G1) _ _ e2 _ _ fun wy h2 tk2 led2 ρ2 I2 G2 X2 => ?_))
      refine wpAny_bind (wpAny_standAt (wpAny_bind (wpAny_holding (bin_le f.A ok.hh (put s h2 tk2) led2 ρ2 _ _ _ _ _ (X1.mono G2) X2 rfl _ _ fun w tk3 X3 => ?_))))
      cases X3
      refine wpAny_bind (wpAny_release (wpAny_bind (wpAny_holding (wpAny_truthy_bool ?_))))
      split at hg
      · rename_i hle
        rw [decide_eq_true hle, if_pos rfl]
        split at hg
        · rename_i z st3 e3
          cases hg
          refine wpAny_bind (wpAny_holding (hc.1 f ok (put s h2 tk3) m led2 ρ2 ⟨S.lo, S.ce, st2⟩ I2 (R.mono (G1.trans G2)) _ _ e3 _ _ fun wz h4 tk4 led4 ρ4 I4 G4 X4 => ?_))
          refine wpAny_bind (wpAny_standAt (wpAny_operating (bin_le f.A ok.hh (put s h4 tk4) led4 ρ4 _ _ _ _ _ (X2.mono G4) X4 rfl _ _ fun w tk5 X5 => ?_)))
          exact P _ _ _ _ _ I4 ((G1.trans G2).trans G4) X5
        · cases hg
      · rename_i hle
        cases hg
        rw [decide_eq_false hle, if_neg (by decide)]
        exact wpAny_pure (P _ _ _ _ _ I2 (G1.trans G2) (.bool _))
    · cases hg
  · cases hg
end
end Mp
namespace Mp
noncomputable def tpC (ok : Thread → Bool) (stp : SharedT → Thread → Option (SharedT × Thread)) : Nat → SharedT → Thread → Option (SharedT × Thread)
  | 0, s, t => some (s, t)
  | n + 1, s, t => match through t with
    | true => some (s, t)
    | false => match ok t with
      | false => none
      | true => match stp s t with
        | some (s', t') => tpC ok stp n s' t'
        | none => none
noncomputable def tpD (ok : Thread → Bool) (stp : SharedT → Thread → Option (SharedT × Thread)) (c : Nat) : Nat → SharedT → Thread → Option SharedT
  | 0, s, t => match through t with
    | true => some s
    | false => none
  | n + 1, s, t => match tpC ok stp c s t with
    | some (s', t') => tpD ok stp c n s' t'
    | none => none
section
variable {tb : String → Option Builtin} {p : Program} {w : World} {n₀ : Nat} {ann : Option Value}
theorem tpC_spec {n : Nat} {s s' : SharedT} {t t' : Thread} (h : tpC (stepOk n₀ ann) (stepT (denote tb) p w) n s t = some (s', t')) {N : Nat} {r : Shared} (k : topRun tb p w n₀ ann (N + 1) s'.abs t' = some r) :
    topRun tb p w n₀ ann (n + (N + 1)) s.abs t = some r := by
  induction n generalizing s t with
  | zero =>
    unfold tpC at h
    cases h
    rw [Nat.zero_add]; exact k
  | succ n ih =>
    unfold tpC at h
    rw [show n + 1 + (N + 1) = n + (N + 1) + 1 by omega]
    unfold topRun
    cases ht : through t with
    | true =>
      rw [ht] at h
      cases h
      unfold topRun at k
      rw [ht] at k
      exact k
    | false =>
      rw [ht] at h
      cases hk : stepOk n₀ ann t with
      | false => rw [hk] at h; cases h
      | true =>
        rw [hk] at h
        cases hs : stepT (denote tb) p w s t with
        | none => rw [hs] at h; cases h
        | some q =>
          obtain ⟨s2, t2⟩ := q
          rw [hs] at h
          rw [stepT_spec hs]
          exact ih h
theorem tpD_spec {c n : Nat} {s s' : SharedT} {t : Thread} (h : tpD (stepOk n₀ ann) (stepT (denote tb) p w) c n s t = some s') : topRun tb p w n₀ ann (n * c + 1) s.abs t = some s'.abs := by
  induction n generalizing s t with
  | zero =>
    unfold tpD at h
    rw [Nat.zero_mul]
    unfold topRun
    cases ht : through t with
    | true => rw [ht] at h; cases h; rfl
    | false => rw [ht] at h; cases h
  | succ n ih =>
    unfold tpD at h
    cases hs : tpC (stepOk n₀ ann) (stepT (denote tb) p w) c s t with
    | none => rw [hs] at h; cases h
    | some q =>
      obtain ⟨s2, t2⟩ := q
      rw [hs] at h
      rw [show (n + 1) * c + 1 = c + (n * c + 1) by rw [Nat.succ_mul]; omega]
      exact tpC_spec hs (ih h)
end
noncomputable def tpEv : List Obj → List Obj
  | [] => []
  | [a] => [a]
  | a :: _ :: r => a :: tpEv r
noncomputable def tpOd : List Obj → List Obj
  | [] => []
  | [_] => []
  | _ :: b :: r => b :: tpOd r
noncomputable def tpB : Nat → List Obj → BT
  | 0, _ => .nil
  | _ + 1, [] => .nil
  | n + 1, o :: r => .node o (tpB n (tpEv r)) (tpB n (tpOd r))
noncomputable def tpZ : List Obj → Nat → List Nat → Frag
  | [], _, _ => []
  | o :: r, n, ks => match ks with
    | [] => []
    | k :: t => match Nat.beq k n with
      | true => (k, o) :: tpZ r (n + 1) t
      | false => tpZ r (n + 1) (k :: t)
noncomputable def tpF : Obj → Bool
  | ⟨_, _, .freed, _⟩ => false
  | _ => true
theorem tpG {l : List Obj} {life : Life} (h : l.all tpF = true) (a : Nat) : (⟨l.toArray, life⟩ : Heap).get? a = l[a]? := by
  unfold Heap.get?
  rw [List.getElem?_toArray]
  cases e : l[a]? with
  | none => rfl
  | some o =>
    have := List.all_eq_true.mp h o (List.mem_of_getElem? e)
    obtain ⟨c, d, dt, sl⟩ := o
    cases dt <;> first | rfl | (cases this)
theorem tpZ_at : ∀ (l : List Obj) (n : Nat) (ks : List Nat), ∀ p ∈ tpZ l n ks, ∃ i, p.1 = n + i ∧ l[i]? = some p.2
  | [], _, _ => fun _ h => by cases h
  | o :: r, n, ks => fun p h => by
    unfold tpZ at h
    cases ks with
    | nil => cases h
    | cons k t =>
      dsimp only at h
      cases e : Nat.beq k n with
      | true =>
        rw [e] at h
        cases h with
        | head => exact ⟨0, Nat.eq_of_beq_eq_true e, rfl⟩
        | tail _ h =>
          obtain ⟨i, h1, h2⟩ := tpZ_at r (n + 1) t p h
          exact ⟨i + 1, h1.trans (show (n + 1 + i : Nat) = n + (i + 1) by omega), h2⟩
      | false =>
        rw [e] at h
        obtain ⟨i, h1, h2⟩ := tpZ_at r (n + 1) (k :: t) p h
        exact ⟨i + 1, h1.trans (show (n + 1 + i : Nat) = n + (i + 1) by omega), h2⟩
theorem tpGet {l : List Obj} {life : Life} {ks : List Nat} (hk : ks = (tpZ l 0 ks).map (·.1)) (h : l.all tpF = true) : ks.map (Heap.get? ⟨l.toArray, life⟩) = (tpZ l 0 ks).map fun p => some p.2 := by
  have := congrArg (List.map (Heap.get? ⟨l.toArray, life⟩)) hk
  rw [this, List.map_map]
  refine List.map_congr_left fun p hp => ?_
  obtain ⟨i, h1, h2⟩ := tpZ_at l 0 ks p hp
  show (⟨l.toArray, life⟩ : Heap).get? p.1 = _
  rw [tpG h, h1, Nat.zero_add]
  exact h2
theorem boot_tree (P : Params) : boot_heap P = absHeap (tpB 10 (boot_heap P).objs.toList) (boot_heap P).objs.size (boot_heap P).life := by kernel_rfl
end Mp
namespace Mp
noncomputable abbrev pw := PySem.Challenge.pw_sz0093_03
noncomputable def tS (i : Nat) : Stmt := match pw.main.body[i]? with
  | some t => t
  | none => .Pass ⟨0, 0, 0, 0⟩
noncomputable def cS (i j : Nat) : Stmt := match tS i with
  | .ClassDef _ _ _ b _ _ _ _ _ _ _ => match b[j]? with
    | some t => t
    | none => .Pass ⟨0, 0, 0, 0⟩
  | _ => .Pass ⟨0, 0, 0, 0⟩
noncomputable def pS : Stmt → Arguments
  | .FunctionDef _ p _ _ _ _ _ _ _ _ => p
  | _ => { posonlyargs := [], args := [], vararg := none, kwonlyargs := [], kw_defaults := [], kwarg := none, defaults := [] }
noncomputable def bS : Stmt → FuncBody
  | .FunctionDef _ _ b _ _ _ _ _ _ _ => .stmts b
  | _ => .stmts []
noncomputable def sS : Stmt → Scope
  | .FunctionDef _ _ _ _ _ _ s _ _ _ => s
  | _ => { kind := .function, names := [], isGenerator := false, isCoroutine := false, more := [] }
noncomputable abbrev sv (s : String) (t : Nat) : Value := .str (Str.ofString s) t
noncomputable abbrev iv (n t : Nat) : Value := .int (.ofNat n) t
noncomputable abbrev ivn (n t : Nat) : Value := .int (.negSucc n) t
noncomputable abbrev qs (s : String) : Str := Str.ofString s
noncomputable abbrev qd (P : Params) (s : String) (t : Nat) (v : Value) : DictEntry := { hash := PyData.keyHash P (Str.ofString s), key := .str (Str.ofString s) t, val := v }
noncomputable abbrev qt (l : List Value) : Obj := { cls := .type "tuple", data := .seq l.toArray }
noncomputable abbrev qc (l : List Value) : Obj := { cls := .type "code", data := .fields l.toArray }
noncomputable abbrev qf (a b : String) (t : Stmt) (d m : Value) (c : Nat) : Obj := ⟨.type "function", none, .func (FuncData.mk (Str.ofString a) (Str.ofString b) (pS t) (bS t) (sS t) 3 [] d .none .none m none (.ref c) .none 0), #[]⟩
noncomputable abbrev qn (a b : String) (t : Stmt) : Obj := ⟨.none, none, .func (FuncData.mk (Str.ofString a) (Str.ofString b) (pS t) (bS t) (sS t) 0 [] .none .none .none .none none .none .none 0), #[]⟩
noncomputable def ob_2 (P : Params) : Obj := { cls := .none, data := .dict #[qd P "type.__subclasses__.Exception.0" 214 (iv 31 0), qd P "type.__subclasses__.Exception.n" 215 (iv 1 0)] 2 }
noncomputable def ob_3 (P : Params) : Obj := { cls := .type "dict", data := .dict #[qd P "__name__" 165 (sv "law_sz0093_03" 1523), qd P "__doc__" 166 (.none), qd P "__package__" 167 (.none), qd P "__loader__" 168 (.builtin "__main__.__loader__#opaque"), qd P "__spec__" 169 (.none), qd P "__annotations__" 170 (.ref 6), qd P "__builtins__" 171 (.ref 4), qd P "__file__" 173 (sv "/claim/cut.py" 172), qd P "__cached__" 174 (.none), qd P "PerlError" 217 (.ref 31), qd P "BadPattern" 243 (.ref 51), qd P "TooLong" 268 (.ref 70), qd P "BLANKS" 272 (sv " \t\n\x0d\x0c\x0b" 271), qd P "POSIX_RANGES" 357 (.ref 73), qd P "is_word_sign" 364 (.ref 122), qd P "in_class" 373 (.ref 129), qd P "other_case" 380 (.ref 136), qd P "same_sign" 389 (.ref 143), qd P "posix_items" 395 (.ref 148), qd P "item_holds" 403 (.ref 155), qd P "items_hold" 412 (.ref 162), qd P "set_holds" 423 (.ref 169), qd P "sign_fits" 431 (.ref 176), qd P "STEP_SIGNS" 435 (iv 100 434), qd P "STEP_GROUPS" 437 (iv 20 436), qd P "MatchRun" 480 (.ref 193), qd P "set_register" 489 (.ref 204), qd P "go_on" 496 (.ref 211), qd P "row_test" 504 (.ref 218), qd P "run_end" 515 (.ref 225), qd P "row_run" 530 (.ref 232), qd P "place_holds" 542 (.ref 239), qd P "row_at" 550 (.ref 246), qd P "row_back" 562 (.ref 253), qd P "row_open" 570 (.ref 260), qd P "row_close" 578 (.ref 267), qd P "row_jump" 586 (.ref 274), qd P "row_split" 594 (.ref 281), qd P "row_zero" 602 (.ref 288), qd P "row_loop" 619 (.ref 295), qd P "row_again" 627 (.ref 302), qd P "row_mark" 635 (.ref 309), qd P "row_cut" 641 (.ref 314), qd P "undo_entry" 649 (.ref 321), qd P "row_refuse" 658 (.ref 328), qd P "row_place" 666 (.ref 335), qd P "row_return" 674 (.ref 342), qd P "row_behind" 682 (.ref 349), qd P "row_words" 688 (.ref 356), qd P "take_more" 701 (.ref 363), qd P "back_up" 709 (.ref 370), qd P "match_from" 720 (.ref 377), qd P "search_pattern" 736 (.ref 385), qd P "next_match" 751 (.ref 393), qd P "substitute" 770 (.ref 401), qd P "Limits" 820 (.ref 419), qd P "ONE_SIGN" 826 (.ref 424), qd P "Program" 861 (.ref 441), qd P "RowMaker" 905 (.ref 476), qd P "add_node" 916 (.ref 487), qd P "add_branches" 928 (.ref 494), qd P "add_atomic" 937 (.ref 501), qd P "add_repeats" 950 (.ref 508), qd P "add_loop" 965 (.ref 515), qd P "add_look" 981 (.ref 522), qd P "compile_tree" 991 (.ref 529), qd P "PLAIN_ESCAPES" 1012 (.ref 530), qd P "OCTAL_FIGURES" 1014 (sv "01234567" 1013), qd P "HEX_FIGURES" 1016 (sv "0123456789abcdef" 1015), qd P "CLASS_LETTERS" 1018 (sv "dDwWsShHvV" 1017), qd P "POSIX_SIGNS" 1020 (sv "abcdefghijklmnopqrstuvwxyz^" 1019), qd P "MOST_CODE" 1022 (iv 1114111 1021), qd P "PatternText" 1073 (.ref 561), qd P "run_of" 1083 (.ref 572), qd P "number_of_run" 1093 (.ref 579), qd P "until_sign" 1103 (.ref 586), qd P "sign_of_code" 1111 (.ref 593), qd P "read_hex_sign" 1117 (.ref 598), qd P "read_octal_sign" 1123 (.ref 603), qd P "read_named_sign" 1129 (.ref 608), qd P "read_plain_escape" 1137 (.ref 615), qd P "read_control" 1145 (.ref 622), qd P "signs_end" 1154 (.ref 629), qd P "posix_end" 1163 (.ref 636), qd P "read_posix" 1175 (.ref 643), qd P "read_member" 1186 (.ref 650), qd P "is_one_sign" 1193 (.ref 657), qd P "read_range_end" 1204 (.ref 664), qd P "read_set" 1218 (.ref 671), qd P "FIGURES" 1222 (sv "0123456789" 1221), qd P "MOST_COUNT" 1224 (iv 32766 1223), qd P "COUNT_SIGNS" 1239 (.ref 672), qd P "count_groups" 1249 (.ref 682), qd P "behind_set" 1258 (.ref 689), qd P "behind_posix" 1267 (.ref 696), qd P "opens_capture" 1274 (.ref 703), qd P "is_name_text" 1280 (.ref 708), qd P "braces_count" 1291 (.ref 715), qd P "take_count" 1303 (.ref 722), qd P "read_name" 1313 (.ref 729), qd P "speak_of" 1322 (.ref 736), qd P "read_named_back" 1332 (.ref 743), qd P "read_numbered_back" 1345 (.ref 750), qd P "width_of" 1351 (.ref 755), qd P "FLAG_LETTERS" 1355 (sv "imsx" 1354), qd P "MOST_NESTED" 1357 (iv 40 1356), qd P "LOOKS" 1362 (.ref 760), qd P "NAME_SIGNS" 1369 (.ref 764), qd P "skip_unseen" 1378 (.ref 771), qd P "read_flags" 1384 (.ref 776), qd P "read_inline" 1394 (.ref 783), qd P "read_alternation" 1404 (.ref 790), qd P "read_branch" 1414 (.ref 797), qd P "read_atom" 1423 (.ref 804), qd P "read_counted" 1435 (.ref 811), qd P "read_inner" 1445 (.ref 818), qd P "read_capture" 1456 (.ref 825), qd P "read_look" 1469 (.ref 832), qd P "read_group" 1483 (.ref 839), qd P "is_sign_told" 1490 (.ref 846), qd P "read_escape" 1503 (.ref 853), qd P "parse_pattern" 1509 (.ref 858), qd P "compile_pattern" 1522 (.ref 865), qd P "_law_rest" 1535 (.ref 866), qd P "_law_shake" 1544 (.ref 873), qd P "_law_grown" 1558 (.ref 880), qd P "_law_odd" 1566 (.ref 887), qd P "_law_has_thrice" 1576 (.ref 894), qd P "law" 1582 (.ref 899)] 129 }
noncomputable def ob_15 (P : Params) : Obj := qt [.type "Exception"]
noncomputable def ob_22 (P : Params) : Obj := qt []
noncomputable def ob_24 (P : Params) : Obj := qt [sv "self" 204, sv "text" 205]
noncomputable def ob_25 (P : Params) : Obj := qt []
noncomputable def ob_27 (P : Params) : Obj := qc [sv "__init__" 201, sv "PerlError.__init__" 202, sv "/claim/cut.py" 203, iv 4 0, iv 2 0, iv 0 0, iv 0 0, iv 3 0, .ref 22, .bool true, iv 181 0, .ref 23, .none, .ref 24, .ref 25, .ref 26, iv 206 0, iv 4 0, sv "/claim/cut.py" 207]
noncomputable def ob_28 (P : Params) : Obj := qf "__init__" "PerlError.__init__" (cS 1 0) (.none) (sv "perlcore.errors" 187) 27
noncomputable def ob_29 (P : Params) : Obj := qt [sv "text" 209]
noncomputable def ob_30 (P : Params) : Obj := { cls := .type "dict", data := .dict #[qd P "__module__" 196 (sv "perlcore.errors" 187), qd P "__firstlineno__" 200 (iv 2 199), qd P "__init__" 208 (.ref 28), qd P "__static_attributes__" 210 (.ref 29), qd P "__weakref__" 212 (.ref 32), qd P "__doc__" 213 (.none)] 3 }
noncomputable def ob_31 (P : Params) : Obj := { cls := .type "type", data := .cls { name := qs "PerlError", bases := [.type "Exception"], mro := [.ref 31, .type "Exception", .type "BaseException", .type "object"], ns := 30, qualname := qs "PerlError", subclasses := [.ref 51, .ref 70] }, slots := #[some (.ref 15), none, some (sv "PerlError" 189), some (sv "PerlError" 197), some (.builtin "Exception.__new__"), some (.bool true)] }
noncomputable def ob_32 (P : Params) : Obj := { cls := .type "getset_descriptor", data := .fields #[sv "__weakref__" 211, .ref 31, .builtin "ExceptionGroup.__weakref__", .none] }
noncomputable def ob_35 (P : Params) : Obj := qt [.ref 31]
noncomputable def ob_42 (P : Params) : Obj := qt []
noncomputable def ob_44 (P : Params) : Obj := qt [sv "self" 233, sv "text" 234, sv "at" 235]
noncomputable def ob_45 (P : Params) : Obj := qt []
noncomputable def ob_47 (P : Params) : Obj := qc [sv "__init__" 230, sv "BadPattern.__init__" 231, sv "/claim/cut.py" 232, iv 9 0, iv 3 0, iv 0 0, iv 0 0, iv 3 0, .ref 42, .bool true, iv 181 0, .ref 43, .none, .ref 44, .ref 45, .ref 46, iv 236 0, iv 9 0, sv "/claim/cut.py" 237]
noncomputable def ob_48 (P : Params) : Obj := qf "__init__" "BadPattern.__init__" (cS 2 0) (.none) (sv "perlcore.errors" 187) 47
noncomputable def ob_49 (P : Params) : Obj := qt [sv "at" 239]
noncomputable def ob_50 (P : Params) : Obj := { cls := .type "dict", data := .dict #[qd P "__module__" 225 (sv "perlcore.errors" 187), qd P "__firstlineno__" 229 (iv 7 228), qd P "__init__" 238 (.ref 48), qd P "__static_attributes__" 240 (.ref 49), qd P "__doc__" 241 (.none)] 2 }
noncomputable def ob_51 (P : Params) : Obj := { cls := .type "type", data := .cls { name := qs "BadPattern", bases := [.ref 31], mro := [.ref 51, .ref 31, .type "Exception", .type "BaseException", .type "object"], ns := 50, qualname := qs "BadPattern" }, slots := #[some (.ref 35), none, some (sv "BadPattern" 218), some (sv "BadPattern" 226), some (.builtin "Exception.__new__"), some (.bool true)] }
noncomputable def ob_54 (P : Params) : Obj := qt [.ref 31]
noncomputable def ob_61 (P : Params) : Obj := qt []
noncomputable def ob_63 (P : Params) : Obj := qt [sv "self" 259, sv "steps" 260]
noncomputable def ob_64 (P : Params) : Obj := qt []
noncomputable def ob_66 (P : Params) : Obj := qc [sv "__init__" 256, sv "TooLong.__init__" 257, sv "/claim/cut.py" 258, iv 14 0, iv 2 0, iv 0 0, iv 0 0, iv 3 0, .ref 61, .bool true, iv 181 0, .ref 62, .none, .ref 63, .ref 64, .ref 65, iv 261 0, iv 14 0, sv "/claim/cut.py" 262]
noncomputable def ob_67 (P : Params) : Obj := qf "__init__" "TooLong.__init__" (cS 3 0) (.none) (sv "perlcore.errors" 187) 66
noncomputable def ob_68 (P : Params) : Obj := qt [sv "steps" 264]
noncomputable def ob_69 (P : Params) : Obj := { cls := .type "dict", data := .dict #[qd P "__module__" 251 (sv "perlcore.errors" 187), qd P "__firstlineno__" 255 (iv 12 254), qd P "__init__" 263 (.ref 67), qd P "__static_attributes__" 265 (.ref 68), qd P "__doc__" 266 (.none)] 2 }
noncomputable def ob_70 (P : Params) : Obj := { cls := .type "type", data := .cls { name := qs "TooLong", bases := [.ref 31], mro := [.ref 70, .ref 31, .type "Exception", .type "BaseException", .type "object"], ns := 69, qualname := qs "TooLong" }, slots := #[some (.ref 54), none, some (sv "TooLong" 244), some (sv "TooLong" 252), some (.builtin "Exception.__new__"), some (.bool true)] }
noncomputable def ob_73 (P : Params) : Obj := { cls := .type "dict", data := .dict #[qd P "alpha" 273 (.ref 76), qd P "digit" 278 (.ref 78), qd P "alnum" 281 (.ref 82), qd P "upper" 288 (.ref 84), qd P "lower" 291 (.ref 86), qd P "space" 294 (.ref 89), qd P "punct" 299 (.ref 94), qd P "xdigit" 308 (.ref 98), qd P "word" 315 (.ref 103), qd P "cntrl" 324 (.ref 106), qd P "print" 329 (.ref 108), qd P "graph" 332 (.ref 110), qd P "blank" 335 (.ref 113), qd P "ascii" 340 (.ref 115)] 14 }
noncomputable def ob_74 (P : Params) : Obj := qt [iv 65 274, iv 90 275]
noncomputable def ob_75 (P : Params) : Obj := qt [iv 97 276, iv 122 277]
noncomputable def ob_76 (P : Params) : Obj := { cls := .type "list", data := .seq #[.ref 74, .ref 75] }
noncomputable def ob_77 (P : Params) : Obj := qt [iv 48 279, iv 57 280]
noncomputable def ob_78 (P : Params) : Obj := { cls := .type "list", data := .seq #[.ref 77] }
noncomputable def ob_79 (P : Params) : Obj := qt [iv 48 282, iv 57 283]
noncomputable def ob_80 (P : Params) : Obj := qt [iv 65 284, iv 90 285]
noncomputable def ob_81 (P : Params) : Obj := qt [iv 97 286, iv 122 287]
noncomputable def ob_82 (P : Params) : Obj := { cls := .type "list", data := .seq #[.ref 79, .ref 80, .ref 81] }
noncomputable def ob_83 (P : Params) : Obj := qt [iv 65 289, iv 90 290]
noncomputable def ob_84 (P : Params) : Obj := { cls := .type "list", data := .seq #[.ref 83] }
noncomputable def ob_85 (P : Params) : Obj := qt [iv 97 292, iv 122 293]
noncomputable def ob_86 (P : Params) : Obj := { cls := .type "list", data := .seq #[.ref 85] }
noncomputable def ob_87 (P : Params) : Obj := qt [iv 9 295, iv 13 296]
noncomputable def ob_88 (P : Params) : Obj := qt [iv 32 297, iv 32 298]
noncomputable def ob_89 (P : Params) : Obj := { cls := .type "list", data := .seq #[.ref 87, .ref 88] }
noncomputable def ob_90 (P : Params) : Obj := qt [iv 33 300, iv 47 301]
noncomputable def ob_91 (P : Params) : Obj := qt [iv 58 302, iv 64 303]
noncomputable def ob_92 (P : Params) : Obj := qt [iv 91 304, iv 96 305]
noncomputable def ob_93 (P : Params) : Obj := qt [iv 123 306, iv 126 307]
noncomputable def ob_94 (P : Params) : Obj := { cls := .type "list", data := .seq #[.ref 90, .ref 91, .ref 92, .ref 93] }
noncomputable def ob_95 (P : Params) : Obj := qt [iv 48 309, iv 57 310]
noncomputable def ob_96 (P : Params) : Obj := qt [iv 65 311, iv 70 312]
noncomputable def ob_97 (P : Params) : Obj := qt [iv 97 313, iv 102 314]
noncomputable def ob_98 (P : Params) : Obj := { cls := .type "list", data := .seq #[.ref 95, .ref 96, .ref 97] }
noncomputable def ob_99 (P : Params) : Obj := qt [iv 48 316, iv 57 317]
noncomputable def ob_100 (P : Params) : Obj := qt [iv 65 318, iv 90 319]
noncomputable def ob_101 (P : Params) : Obj := qt [iv 95 320, iv 95 321]
noncomputable def ob_102 (P : Params) : Obj := qt [iv 97 322, iv 122 323]
noncomputable def ob_103 (P : Params) : Obj := { cls := .type "list", data := .seq #[.ref 99, .ref 100, .ref 101, .ref 102] }
noncomputable def ob_104 (P : Params) : Obj := qt [iv 0 325, iv 31 326]
noncomputable def ob_105 (P : Params) : Obj := qt [iv 127 327, iv 127 328]
noncomputable def ob_106 (P : Params) : Obj := { cls := .type "list", data := .seq #[.ref 104, .ref 105] }
noncomputable def ob_107 (P : Params) : Obj := qt [iv 32 330, iv 126 331]
noncomputable def ob_108 (P : Params) : Obj := { cls := .type "list", data := .seq #[.ref 107] }
noncomputable def ob_109 (P : Params) : Obj := qt [iv 33 333, iv 126 334]
noncomputable def ob_110 (P : Params) : Obj := { cls := .type "list", data := .seq #[.ref 109] }
noncomputable def ob_111 (P : Params) : Obj := qt [iv 9 336, iv 9 337]
noncomputable def ob_112 (P : Params) : Obj := qt [iv 32 338, iv 32 339]
noncomputable def ob_113 (P : Params) : Obj := { cls := .type "list", data := .seq #[.ref 111, .ref 112] }
noncomputable def ob_114 (P : Params) : Obj := qt [iv 0 341, iv 127 342]
noncomputable def ob_115 (P : Params) : Obj := { cls := .type "list", data := .seq #[.ref 114] }
noncomputable def ob_116 (P : Params) : Obj := qt []
noncomputable def ob_118 (P : Params) : Obj := qt [sv "sign" 361]
noncomputable def ob_119 (P : Params) : Obj := qt []
noncomputable def ob_121 (P : Params) : Obj := qc [sv "is_word_sign" 358, sv "is_word_sign" 359, sv "/claim/cut.py" 360, iv 20 0, iv 1 0, iv 0 0, iv 0 0, iv 3 0, .ref 116, .bool true, iv 181 0, .ref 117, .none, .ref 118, .ref 119, .ref 120, iv 362 0, iv 20 0, sv "/claim/cut.py" 363]
noncomputable def ob_122 (P : Params) : Obj := qf "is_word_sign" "is_word_sign" (tS 7) (.none) (sv "perlcore.signclass" 269) 121
noncomputable def ob_123 (P : Params) : Obj := qt []
noncomputable def ob_125 (P : Params) : Obj := qt [sv "letter" 368, sv "sign" 369, sv "found" 370]
noncomputable def ob_126 (P : Params) : Obj := qt []
noncomputable def ob_128 (P : Params) : Obj := qc [sv "in_class" 365, sv "in_class" 366, sv "/claim/cut.py" 367, iv 22 0, iv 2 0, iv 0 0, iv 0 0, iv 3 0, .ref 123, .bool true, iv 181 0, .ref 124, .none, .ref 125, .ref 126, .ref 127, iv 371 0, iv 22 0, sv "/claim/cut.py" 372]
noncomputable def ob_129 (P : Params) : Obj := qf "in_class" "in_class" (tS 8) (.none) (sv "perlcore.signclass" 269) 128
noncomputable def ob_130 (P : Params) : Obj := qt []
noncomputable def ob_132 (P : Params) : Obj := qt [sv "sign" 377]
noncomputable def ob_133 (P : Params) : Obj := qt []
noncomputable def ob_135 (P : Params) : Obj := qc [sv "other_case" 374, sv "other_case" 375, sv "/claim/cut.py" 376, iv 36 0, iv 1 0, iv 0 0, iv 0 0, iv 3 0, .ref 130, .bool true, iv 181 0, .ref 131, .none, .ref 132, .ref 133, .ref 134, iv 378 0, iv 36 0, sv "/claim/cut.py" 379]
noncomputable def ob_136 (P : Params) : Obj := qf "other_case" "other_case" (tS 9) (.none) (sv "perlcore.signclass" 269) 135
noncomputable def ob_137 (P : Params) : Obj := qt []
noncomputable def ob_139 (P : Params) : Obj := qt [sv "one" 384, sv "other" 385, sv "is_folded" 386]
noncomputable def ob_140 (P : Params) : Obj := qt []
noncomputable def ob_142 (P : Params) : Obj := qc [sv "same_sign" 381, sv "same_sign" 382, sv "/claim/cut.py" 383, iv 42 0, iv 3 0, iv 0 0, iv 0 0, iv 3 0, .ref 137, .bool true, iv 181 0, .ref 138, .none, .ref 139, .ref 140, .ref 141, iv 387 0, iv 42 0, sv "/claim/cut.py" 388]
noncomputable def ob_143 (P : Params) : Obj := qf "same_sign" "same_sign" (tS 10) (.none) (sv "perlcore.signclass" 269) 142
noncomputable def ob_144 (P : Params) : Obj := qt []
noncomputable def ob_147 (P : Params) : Obj := qc [sv "posix_items" 390, sv "posix_items" 391, sv "/claim/cut.py" 392, iv 44 0, iv 1 0, iv 0 0, iv 0 0, iv 3 0, .ref 144, .bool true, iv 181 0, .ref 145, .none, .none, .none, .ref 146, iv 393 0, iv 44 0, sv "/claim/cut.py" 394]
noncomputable def ob_148 (P : Params) : Obj := qf "posix_items" "posix_items" (tS 11) (.none) (sv "perlcore.signclass" 269) 147
noncomputable def ob_149 (P : Params) : Obj := qt []
noncomputable def ob_151 (P : Params) : Obj := qt [sv "item" 399, sv "sign" 400]
noncomputable def ob_152 (P : Params) : Obj := qt []
noncomputable def ob_154 (P : Params) : Obj := qc [sv "item_holds" 396, sv "item_holds" 397, sv "/claim/cut.py" 398, iv 46 0, iv 2 0, iv 0 0, iv 0 0, iv 3 0, .ref 149, .bool true, iv 181 0, .ref 150, .none, .ref 151, .ref 152, .ref 153, iv 401 0, iv 46 0, sv "/claim/cut.py" 402]
noncomputable def ob_155 (P : Params) : Obj := qf "item_holds" "item_holds" (tS 12) (.none) (sv "perlcore.signclass" 269) 154
noncomputable def ob_156 (P : Params) : Obj := qt []
noncomputable def ob_158 (P : Params) : Obj := qt [sv "items" 407, sv "sign" 408, sv "item" 409]
noncomputable def ob_159 (P : Params) : Obj := qt []
noncomputable def ob_161 (P : Params) : Obj := qc [sv "items_hold" 404, sv "items_hold" 405, sv "/claim/cut.py" 406, iv 52 0, iv 2 0, iv 0 0, iv 0 0, iv 3 0, .ref 156, .bool true, iv 181 0, .ref 157, .none, .ref 158, .ref 159, .ref 160, iv 410 0, iv 52 0, sv "/claim/cut.py" 411]
noncomputable def ob_162 (P : Params) : Obj := qf "items_hold" "items_hold" (tS 13) (.none) (sv "perlcore.signclass" 269) 161
noncomputable def ob_163 (P : Params) : Obj := qt []
noncomputable def ob_165 (P : Params) : Obj := qt [sv "items" 416, sv "is_negated" 417, sv "is_folded" 418, sv "sign" 419, sv "found" 420]
noncomputable def ob_166 (P : Params) : Obj := qt []
noncomputable def ob_168 (P : Params) : Obj := qc [sv "set_holds" 413, sv "set_holds" 414, sv "/claim/cut.py" 415, iv 57 0, iv 4 0, iv 0 0, iv 0 0, iv 3 0, .ref 163, .bool true, iv 181 0, .ref 164, .none, .ref 165, .ref 166, .ref 167, iv 421 0, iv 57 0, sv "/claim/cut.py" 422]
noncomputable def ob_169 (P : Params) : Obj := qf "set_holds" "set_holds" (tS 14) (.none) (sv "perlcore.signclass" 269) 168
noncomputable def ob_170 (P : Params) : Obj := qt []
noncomputable def ob_172 (P : Params) : Obj := qt [sv "test" 427, sv "sign" 428]
noncomputable def ob_173 (P : Params) : Obj := qt []
noncomputable def ob_175 (P : Params) : Obj := qc [sv "sign_fits" 424, sv "sign_fits" 425, sv "/claim/cut.py" 426, iv 62 0, iv 2 0, iv 0 0, iv 0 0, iv 3 0, .ref 170, .bool true, iv 181 0, .ref 171, .none, .ref 172, .ref 173, .ref 174, iv 429 0, iv 62 0, sv "/claim/cut.py" 430]
noncomputable def ob_176 (P : Params) : Obj := qf "sign_fits" "sign_fits" (tS 15) (.none) (sv "perlcore.signclass" 269) 175
noncomputable def ob_184 (P : Params) : Obj := qt []
noncomputable def ob_186 (P : Params) : Obj := qt [sv "self" 453, sv "program" 454, sv "text" 455, sv "begin" 456, sv "least_end" 457, sv "most" 458]
noncomputable def ob_187 (P : Params) : Obj := qt []
noncomputable def ob_189 (P : Params) : Obj := qc [sv "__init__" 450, sv "MatchRun.__init__" 451, sv "/claim/cut.py" 452, iv 73 0, iv 6 0, iv 0 0, iv 0 0, iv 3 0, .ref 184, .bool true, iv 181 0, .ref 185, .none, .ref 186, .ref 187, .ref 188, iv 459 0, iv 73 0, sv "/claim/cut.py" 460]
noncomputable def ob_190 (P : Params) : Obj := qf "__init__" "MatchRun.__init__" (cS 19 0) (.none) (sv "perlcore.rematch" 432) 189
noncomputable def ob_191 (P : Params) : Obj := qt [sv "at" 462, sv "begin" 463, sv "groups" 464, sv "least_end" 465, sv "most" 466, sv "pile" 467, sv "program" 468, sv "registers" 469, sv "row" 470, sv "steps" 471, sv "text" 472]
noncomputable def ob_192 (P : Params) : Obj := { cls := .type "dict", data := .dict #[qd P "__module__" 445 (sv "perlcore.rematch" 432), qd P "__firstlineno__" 449 (iv 71 448), qd P "__init__" 461 (.ref 190), qd P "__static_attributes__" 473 (.ref 191), qd P "__dict__" 475 (.ref 194), qd P "__weakref__" 477 (.ref 195), qd P "__doc__" 478 (.none)] 4 }
noncomputable def ob_193 (P : Params) : Obj := { cls := .type "type", data := .cls { name := qs "MatchRun", bases := [.type "object"], mro := [.ref 193, .type "object"], ns := 192, qualname := qs "MatchRun" }, slots := #[none, none, some (sv "MatchRun" 438), some (sv "MatchRun" 446), some (.builtin "object.__new__"), some (.bool true)] }
noncomputable def ob_194 (P : Params) : Obj := { cls := .type "getset_descriptor", data := .fields #[sv "__dict__" 474, .ref 193, .builtin "function.__dict__", .builtin "function.__dict__#set"] }
noncomputable def ob_195 (P : Params) : Obj := { cls := .type "getset_descriptor", data := .fields #[sv "__weakref__" 476, .ref 193, .builtin "ExceptionGroup.__weakref__", .none] }
noncomputable def ob_198 (P : Params) : Obj := qt []
noncomputable def ob_200 (P : Params) : Obj := qt [sv "run" 484, sv "k" 485, sv "value" 486]
noncomputable def ob_201 (P : Params) : Obj := qt []
noncomputable def ob_203 (P : Params) : Obj := qc [sv "set_register" 481, sv "set_register" 482, sv "/claim/cut.py" 483, iv 85 0, iv 3 0, iv 0 0, iv 0 0, iv 3 0, .ref 198, .bool true, iv 181 0, .ref 199, .none, .ref 200, .ref 201, .ref 202, iv 487 0, iv 85 0, sv "/claim/cut.py" 488]
noncomputable def ob_204 (P : Params) : Obj := qf "set_register" "set_register" (tS 20) (.none) (sv "perlcore.rematch" 432) 203
noncomputable def ob_205 (P : Params) : Obj := qt []
noncomputable def ob_207 (P : Params) : Obj := qt [sv "run" 493]
noncomputable def ob_208 (P : Params) : Obj := qt []
noncomputable def ob_210 (P : Params) : Obj := qc [sv "go_on" 490, sv "go_on" 491, sv "/claim/cut.py" 492, iv 88 0, iv 1 0, iv 0 0, iv 0 0, iv 3 0, .ref 205, .bool true, iv 181 0, .ref 206, .none, .ref 207, .ref 208, .ref 209, iv 494 0, iv 88 0, sv "/claim/cut.py" 495]
noncomputable def ob_211 (P : Params) : Obj := qf "go_on" "go_on" (tS 21) (.none) (sv "perlcore.rematch" 432) 210
noncomputable def ob_212 (P : Params) : Obj := qt []
noncomputable def ob_214 (P : Params) : Obj := qt [sv "run" 500, sv "row" 501]
noncomputable def ob_215 (P : Params) : Obj := qt []
noncomputable def ob_217 (P : Params) : Obj := qc [sv "row_test" 497, sv "row_test" 498, sv "/claim/cut.py" 499, iv 91 0, iv 2 0, iv 0 0, iv 0 0, iv 3 0, .ref 212, .bool true, iv 181 0, .ref 213, .none, .ref 214, .ref 215, .ref 216, iv 502 0, iv 91 0, sv "/claim/cut.py" 503]
noncomputable def ob_218 (P : Params) : Obj := qf "row_test" "row_test" (tS 22) (.none) (sv "perlcore.rematch" 432) 217
noncomputable def ob_219 (P : Params) : Obj := qt []
noncomputable def ob_221 (P : Params) : Obj := qt [sv "run" 508, sv "test" 509, sv "at" 510, sv "most" 511, sv "stop" 512]
noncomputable def ob_222 (P : Params) : Obj := qt []
noncomputable def ob_224 (P : Params) : Obj := qc [sv "run_end" 505, sv "run_end" 506, sv "/claim/cut.py" 507, iv 96 0, iv 4 0, iv 0 0, iv 0 0, iv 3 0, .ref 219, .bool true, iv 181 0, .ref 220, .none, .ref 221, .ref 222, .ref 223, iv 513 0, iv 96 0, sv "/claim/cut.py" 514]
noncomputable def ob_225 (P : Params) : Obj := qf "run_end" "run_end" (tS 23) (.none) (sv "perlcore.rematch" 432) 224
noncomputable def ob_226 (P : Params) : Obj := qt []
noncomputable def ob_228 (P : Params) : Obj := qt [sv "run" 519, sv "row" 520, sv "word" 521, sv "test" 522, sv "least" 523, sv "most" 524, sv "is_lazy" 525, sv "low" 526, sv "end" 527]
noncomputable def ob_229 (P : Params) : Obj := qt []
noncomputable def ob_231 (P : Params) : Obj := qc [sv "row_run" 516, sv "row_run" 517, sv "/claim/cut.py" 518, iv 101 0, iv 2 0, iv 0 0, iv 0 0, iv 3 0, .ref 226, .bool true, iv 181 0, .ref 227, .none, .ref 228, .ref 229, .ref 230, iv 528 0, iv 101 0, sv "/claim/cut.py" 529]
noncomputable def ob_232 (P : Params) : Obj := qf "row_run" "row_run" (tS 24) (.none) (sv "perlcore.rematch" 432) 231
noncomputable def ob_233 (P : Params) : Obj := qt []
noncomputable def ob_235 (P : Params) : Obj := qt [sv "run" 534, sv "word" 535, sv "at" 536, sv "text" 537, sv "is_word_ahead" 538, sv "is_edge" 539]
noncomputable def ob_236 (P : Params) : Obj := qt []
noncomputable def ob_238 (P : Params) : Obj := qc [sv "place_holds" 531, sv "place_holds" 532, sv "/claim/cut.py" 533, iv 115 0, iv 2 0, iv 0 0, iv 0 0, iv 3 0, .ref 233, .bool true, iv 181 0, .ref 234, .none, .ref 235, .ref 236, .ref 237, iv 540 0, iv 115 0, sv "/claim/cut.py" 541]
noncomputable def ob_239 (P : Params) : Obj := qf "place_holds" "place_holds" (tS 25) (.none) (sv "perlcore.rematch" 432) 238
noncomputable def ob_240 (P : Params) : Obj := qt []
noncomputable def ob_242 (P : Params) : Obj := qt [sv "run" 546, sv "row" 547]
noncomputable def ob_243 (P : Params) : Obj := qt []
noncomputable def ob_245 (P : Params) : Obj := qc [sv "row_at" 543, sv "row_at" 544, sv "/claim/cut.py" 545, iv 133 0, iv 2 0, iv 0 0, iv 0 0, iv 3 0, .ref 240, .bool true, iv 181 0, .ref 241, .none, .ref 242, .ref 243, .ref 244, iv 548 0, iv 133 0, sv "/claim/cut.py" 549]
noncomputable def ob_246 (P : Params) : Obj := qf "row_at" "row_at" (tS 26) (.none) (sv "perlcore.rematch" 432) 245
noncomputable def ob_247 (P : Params) : Obj := qt []
noncomputable def ob_249 (P : Params) : Obj := qt [sv "run" 554, sv "row" 555, sv "n" 556, sv "begin" 557, sv "end" 558, sv "k" 559]
noncomputable def ob_250 (P : Params) : Obj := qt []
noncomputable def ob_252 (P : Params) : Obj := qc [sv "row_back" 551, sv "row_back" 552, sv "/claim/cut.py" 553, iv 135 0, iv 2 0, iv 0 0, iv 0 0, iv 3 0, .ref 247, .bool true, iv 181 0, .ref 248, .none, .ref 249, .ref 250, .ref 251, iv 560 0, iv 135 0, sv "/claim/cut.py" 561]
noncomputable def ob_253 (P : Params) : Obj := qf "row_back" "row_back" (tS 27) (.none) (sv "perlcore.rematch" 432) 252
noncomputable def ob_254 (P : Params) : Obj := qt []
noncomputable def ob_256 (P : Params) : Obj := qt [sv "run" 566, sv "row" 567]
noncomputable def ob_257 (P : Params) : Obj := qt []
noncomputable def ob_259 (P : Params) : Obj := qc [sv "row_open" 563, sv "row_open" 564, sv "/claim/cut.py" 565, iv 148 0, iv 2 0, iv 0 0, iv 0 0, iv 3 0, .ref 254, .bool true, iv 181 0, .ref 255, .none, .ref 256, .ref 257, .ref 258, iv 568 0, iv 148 0, sv "/claim/cut.py" 569]
noncomputable def ob_260 (P : Params) : Obj := qf "row_open" "row_open" (tS 28) (.none) (sv "perlcore.rematch" 432) 259
noncomputable def ob_261 (P : Params) : Obj := qt []
noncomputable def ob_263 (P : Params) : Obj := qt [sv "run" 574, sv "row" 575]
noncomputable def ob_264 (P : Params) : Obj := qt []
noncomputable def ob_266 (P : Params) : Obj := qc [sv "row_close" 571, sv "row_close" 572, sv "/claim/cut.py" 573, iv 151 0, iv 2 0, iv 0 0, iv 0 0, iv 3 0, .ref 261, .bool true, iv 181 0, .ref 262, .none, .ref 263, .ref 264, .ref 265, iv 576 0, iv 151 0, sv "/claim/cut.py" 577]
noncomputable def ob_267 (P : Params) : Obj := qf "row_close" "row_close" (tS 29) (.none) (sv "perlcore.rematch" 432) 266
noncomputable def ob_268 (P : Params) : Obj := qt []
noncomputable def ob_270 (P : Params) : Obj := qt [sv "run" 582, sv "row" 583]
noncomputable def ob_271 (P : Params) : Obj := qt []
noncomputable def ob_273 (P : Params) : Obj := qc [sv "row_jump" 579, sv "row_jump" 580, sv "/claim/cut.py" 581, iv 155 0, iv 2 0, iv 0 0, iv 0 0, iv 3 0, .ref 268, .bool true, iv 181 0, .ref 269, .none, .ref 270, .ref 271, .ref 272, iv 584 0, iv 155 0, sv "/claim/cut.py" 585]
noncomputable def ob_274 (P : Params) : Obj := qf "row_jump" "row_jump" (tS 30) (.none) (sv "perlcore.rematch" 432) 273
noncomputable def ob_275 (P : Params) : Obj := qt []
noncomputable def ob_277 (P : Params) : Obj := qt [sv "run" 590, sv "row" 591]
noncomputable def ob_278 (P : Params) : Obj := qt []
noncomputable def ob_280 (P : Params) : Obj := qc [sv "row_split" 587, sv "row_split" 588, sv "/claim/cut.py" 589, iv 158 0, iv 2 0, iv 0 0, iv 0 0, iv 3 0, .ref 275, .bool true, iv 181 0, .ref 276, .none, .ref 277, .ref 278, .ref 279, iv 592 0, iv 158 0, sv "/claim/cut.py" 593]
noncomputable def ob_281 (P : Params) : Obj := qf "row_split" "row_split" (tS 31) (.none) (sv "perlcore.rematch" 432) 280
noncomputable def ob_282 (P : Params) : Obj := qt []
noncomputable def ob_284 (P : Params) : Obj := qt [sv "run" 598, sv "row" 599]
noncomputable def ob_285 (P : Params) : Obj := qt []
noncomputable def ob_287 (P : Params) : Obj := qc [sv "row_zero" 595, sv "row_zero" 596, sv "/claim/cut.py" 597, iv 162 0, iv 2 0, iv 0 0, iv 0 0, iv 3 0, .ref 282, .bool true, iv 181 0, .ref 283, .none, .ref 284, .ref 285, .ref 286, iv 600 0, iv 162 0, sv "/claim/cut.py" 601]
noncomputable def ob_288 (P : Params) : Obj := qf "row_zero" "row_zero" (tS 32) (.none) (sv "perlcore.rematch" 432) 287
noncomputable def ob_289 (P : Params) : Obj := qt []
noncomputable def ob_291 (P : Params) : Obj := qt [sv "run" 606, sv "row" 607, sv "word" 608, sv "count" 609, sv "place" 610, sv "least" 611, sv "most" 612, sv "is_lazy" 613, sv "again" 614, sv "behind" 615, sv "rounds" 616]
noncomputable def ob_292 (P : Params) : Obj := qt []
noncomputable def ob_294 (P : Params) : Obj := qc [sv "row_loop" 603, sv "row_loop" 604, sv "/claim/cut.py" 605, iv 166 0, iv 2 0, iv 0 0, iv 0 0, iv 3 0, .ref 289, .bool true, iv 181 0, .ref 290, .none, .ref 291, .ref 292, .ref 293, iv 617 0, iv 166 0, sv "/claim/cut.py" 618]
noncomputable def ob_295 (P : Params) : Obj := qf "row_loop" "row_loop" (tS 33) (.none) (sv "perlcore.rematch" 432) 294
noncomputable def ob_296 (P : Params) : Obj := qt []
noncomputable def ob_298 (P : Params) : Obj := qt [sv "run" 623, sv "row" 624]
noncomputable def ob_299 (P : Params) : Obj := qt []
noncomputable def ob_301 (P : Params) : Obj := qc [sv "row_again" 620, sv "row_again" 621, sv "/claim/cut.py" 622, iv 180 0, iv 2 0, iv 0 0, iv 0 0, iv 3 0, .ref 296, .bool true, iv 181 0, .ref 297, .none, .ref 298, .ref 299, .ref 300, iv 625 0, iv 180 0, sv "/claim/cut.py" 626]
noncomputable def ob_302 (P : Params) : Obj := qf "row_again" "row_again" (tS 34) (.none) (sv "perlcore.rematch" 432) 301
noncomputable def ob_303 (P : Params) : Obj := qt []
noncomputable def ob_305 (P : Params) : Obj := qt [sv "run" 631, sv "row" 632]
noncomputable def ob_306 (P : Params) : Obj := qt []
noncomputable def ob_308 (P : Params) : Obj := qc [sv "row_mark" 628, sv "row_mark" 629, sv "/claim/cut.py" 630, iv 185 0, iv 2 0, iv 0 0, iv 0 0, iv 3 0, .ref 303, .bool true, iv 181 0, .ref 304, .none, .ref 305, .ref 306, .ref 307, iv 633 0, iv 185 0, sv "/claim/cut.py" 634]
noncomputable def ob_309 (P : Params) : Obj := qf "row_mark" "row_mark" (tS 35) (.none) (sv "perlcore.rematch" 432) 308
noncomputable def ob_310 (P : Params) : Obj := qt []
noncomputable def ob_313 (P : Params) : Obj := qc [sv "row_cut" 636, sv "row_cut" 637, sv "/claim/cut.py" 638, iv 189 0, iv 2 0, iv 0 0, iv 0 0, iv 3 0, .ref 310, .bool true, iv 181 0, .ref 311, .none, .none, .none, .ref 312, iv 639 0, iv 189 0, sv "/claim/cut.py" 640]
noncomputable def ob_314 (P : Params) : Obj := qf "row_cut" "row_cut" (tS 36) (.none) (sv "perlcore.rematch" 432) 313
noncomputable def ob_315 (P : Params) : Obj := qt []
noncomputable def ob_317 (P : Params) : Obj := qt [sv "run" 645, sv "entry" 646]
noncomputable def ob_318 (P : Params) : Obj := qt []
noncomputable def ob_320 (P : Params) : Obj := qc [sv "undo_entry" 642, sv "undo_entry" 643, sv "/claim/cut.py" 644, iv 193 0, iv 2 0, iv 0 0, iv 0 0, iv 3 0, .ref 315, .bool true, iv 181 0, .ref 316, .none, .ref 317, .ref 318, .ref 319, iv 647 0, iv 193 0, sv "/claim/cut.py" 648]
noncomputable def ob_321 (P : Params) : Obj := qf "undo_entry" "undo_entry" (tS 37) (.none) (sv "perlcore.rematch" 432) 320
noncomputable def ob_322 (P : Params) : Obj := qt []
noncomputable def ob_324 (P : Params) : Obj := qt [sv "run" 653, sv "row" 654, sv "height" 655]
noncomputable def ob_325 (P : Params) : Obj := qt []
noncomputable def ob_327 (P : Params) : Obj := qc [sv "row_refuse" 650, sv "row_refuse" 651, sv "/claim/cut.py" 652, iv 198 0, iv 2 0, iv 0 0, iv 0 0, iv 3 0, .ref 322, .bool true, iv 181 0, .ref 323, .none, .ref 324, .ref 325, .ref 326, iv 656 0, iv 198 0, sv "/claim/cut.py" 657]
noncomputable def ob_328 (P : Params) : Obj := qf "row_refuse" "row_refuse" (tS 38) (.none) (sv "perlcore.rematch" 432) 327
noncomputable def ob_329 (P : Params) : Obj := qt []
noncomputable def ob_331 (P : Params) : Obj := qt [sv "run" 662, sv "row" 663]
noncomputable def ob_332 (P : Params) : Obj := qt []
noncomputable def ob_334 (P : Params) : Obj := qc [sv "row_place" 659, sv "row_place" 660, sv "/claim/cut.py" 661, iv 203 0, iv 2 0, iv 0 0, iv 0 0, iv 3 0, .ref 329, .bool true, iv 181 0, .ref 330, .none, .ref 331, .ref 332, .ref 333, iv 664 0, iv 203 0, sv "/claim/cut.py" 665]
noncomputable def ob_335 (P : Params) : Obj := qf "row_place" "row_place" (tS 39) (.none) (sv "perlcore.rematch" 432) 334
noncomputable def ob_336 (P : Params) : Obj := qt []
noncomputable def ob_338 (P : Params) : Obj := qt [sv "run" 670, sv "row" 671]
noncomputable def ob_339 (P : Params) : Obj := qt []
noncomputable def ob_341 (P : Params) : Obj := qc [sv "row_return" 667, sv "row_return" 668, sv "/claim/cut.py" 669, iv 206 0, iv 2 0, iv 0 0, iv 0 0, iv 3 0, .ref 336, .bool true, iv 181 0, .ref 337, .none, .ref 338, .ref 339, .ref 340, iv 672 0, iv 206 0, sv "/claim/cut.py" 673]
noncomputable def ob_342 (P : Params) : Obj := qf "row_return" "row_return" (tS 40) (.none) (sv "perlcore.rematch" 432) 341
noncomputable def ob_343 (P : Params) : Obj := qt []
noncomputable def ob_345 (P : Params) : Obj := qt [sv "run" 678, sv "row" 679]
noncomputable def ob_346 (P : Params) : Obj := qt []
noncomputable def ob_348 (P : Params) : Obj := qc [sv "row_behind" 675, sv "row_behind" 676, sv "/claim/cut.py" 677, iv 209 0, iv 2 0, iv 0 0, iv 0 0, iv 3 0, .ref 343, .bool true, iv 181 0, .ref 344, .none, .ref 345, .ref 346, .ref 347, iv 680 0, iv 209 0, sv "/claim/cut.py" 681]
noncomputable def ob_349 (P : Params) : Obj := qf "row_behind" "row_behind" (tS 41) (.none) (sv "perlcore.rematch" 432) 348
noncomputable def ob_350 (P : Params) : Obj := qt []
noncomputable def ob_352 (P : Params) : Obj := qt []
noncomputable def ob_353 (P : Params) : Obj := qt []
noncomputable def ob_355 (P : Params) : Obj := qc [sv "row_words" 683, sv "row_words" 684, sv "/claim/cut.py" 685, iv 214 0, iv 0 0, iv 0 0, iv 0 0, iv 3 0, .ref 350, .bool true, iv 181 0, .ref 351, .none, .ref 352, .ref 353, .ref 354, iv 686 0, iv 214 0, sv "/claim/cut.py" 687]
noncomputable def ob_356 (P : Params) : Obj := qf "row_words" "row_words" (tS 42) (.none) (sv "perlcore.rematch" 432) 355
noncomputable def ob_357 (P : Params) : Obj := qt []
noncomputable def ob_359 (P : Params) : Obj := qt [sv "run" 692, sv "entry" 693, sv "word" 694, sv "row" 695, sv "test" 696, sv "at" 697, sv "left" 698]
noncomputable def ob_360 (P : Params) : Obj := qt []
noncomputable def ob_362 (P : Params) : Obj := qc [sv "take_more" 689, sv "take_more" 690, sv "/claim/cut.py" 691, iv 216 0, iv 2 0, iv 0 0, iv 0 0, iv 3 0, .ref 357, .bool true, iv 181 0, .ref 358, .none, .ref 359, .ref 360, .ref 361, iv 699 0, iv 216 0, sv "/claim/cut.py" 700]
noncomputable def ob_363 (P : Params) : Obj := qf "take_more" "take_more" (tS 43) (.none) (sv "perlcore.rematch" 432) 362
noncomputable def ob_364 (P : Params) : Obj := qt []
noncomputable def ob_366 (P : Params) : Obj := qt [sv "run" 705, sv "entry" 706]
noncomputable def ob_367 (P : Params) : Obj := qt []
noncomputable def ob_369 (P : Params) : Obj := qc [sv "back_up" 702, sv "back_up" 703, sv "/claim/cut.py" 704, iv 225 0, iv 1 0, iv 0 0, iv 0 0, iv 3 0, .ref 364, .bool true, iv 181 0, .ref 365, .none, .ref 366, .ref 367, .ref 368, iv 707 0, iv 225 0, sv "/claim/cut.py" 708]
noncomputable def ob_370 (P : Params) : Obj := qf "back_up" "back_up" (tS 44) (.none) (sv "perlcore.rematch" 432) 369
noncomputable def ob_371 (P : Params) : Obj := qt []
noncomputable def ob_373 (P : Params) : Obj := qt [sv "run" 713, sv "words" 714, sv "start" 715, sv "row" 716, sv "is_right" 717]
noncomputable def ob_374 (P : Params) : Obj := qt []
noncomputable def ob_376 (P : Params) : Obj := qc [sv "match_from" 710, sv "match_from" 711, sv "/claim/cut.py" 712, iv 244 0, iv 3 0, iv 0 0, iv 0 0, iv 3 0, .ref 371, .bool true, iv 181 0, .ref 372, .none, .ref 373, .ref 374, .ref 375, iv 718 0, iv 244 0, sv "/claim/cut.py" 719]
noncomputable def ob_377 (P : Params) : Obj := qf "match_from" "match_from" (tS 45) (.none) (sv "perlcore.rematch" 432) 376
noncomputable def ob_378 (P : Params) : Obj := qt [.none, .none]
noncomputable def ob_379 (P : Params) : Obj := qt []
noncomputable def ob_381 (P : Params) : Obj := qt [sv "program" 724, sv "text" 725, sv "at" 726, sv "limits" 727, sv "least_end" 728, sv "begin" 729, sv "spent" 730, sv "run" 731, sv "words" 732, sv "start" 733]
noncomputable def ob_382 (P : Params) : Obj := qt []
noncomputable def ob_384 (P : Params) : Obj := qc [sv "search_pattern" 721, sv "search_pattern" 722, sv "/claim/cut.py" 723, iv 265 0, iv 7 0, iv 0 0, iv 0 0, iv 3 0, .ref 379, .bool true, iv 181 0, .ref 380, .none, .ref 381, .ref 382, .ref 383, iv 734 0, iv 265 0, sv "/claim/cut.py" 735]
noncomputable def ob_385 (P : Params) : Obj := ⟨.type "function", none, .func (FuncData.mk (qs "search_pattern") (qs "search_pattern") (pS (tS 46)) (bS (tS 46)) (sS (tS 46)) 3 ([]) (.ref 378) (.none) (.none) (sv "perlcore.rematch" 432) (none) (.ref 384) (.none) 0), #[]⟩
noncomputable def ob_386 (P : Params) : Obj := qt [.none, .none]
noncomputable def ob_387 (P : Params) : Obj := qt []
noncomputable def ob_389 (P : Params) : Obj := qt [sv "program" 742, sv "text" 743, sv "at" 744, sv "was_empty" 745, sv "limits" 746, sv "begin" 747, sv "spent" 748]
noncomputable def ob_390 (P : Params) : Obj := qt []
noncomputable def ob_392 (P : Params) : Obj := qc [sv "next_match" 739, sv "next_match" 740, sv "/claim/cut.py" 741, iv 276 0, iv 7 0, iv 0 0, iv 0 0, iv 3 0, .ref 387, .bool true, iv 181 0, .ref 388, .none, .ref 389, .ref 390, .ref 391, iv 749 0, iv 276 0, sv "/claim/cut.py" 750]
noncomputable def ob_393 (P : Params) : Obj := ⟨.type "function", none, .func (FuncData.mk (qs "next_match") (qs "next_match") (pS (tS 48)) (bS (tS 48)) (sS (tS 48)) 3 ([]) (.ref 386) (.none) (.none) (sv "perlcore.reglobal" 737) (none) (.ref 392) (.none) 0), #[]⟩
noncomputable def ob_394 (P : Params) : Obj := qt [.none]
noncomputable def ob_395 (P : Params) : Obj := qt []
noncomputable def ob_397 (P : Params) : Obj := qt [sv "program" 755, sv "text" 756, sv "replace" 757, sv "is_global" 758, sv "limits" 759, sv "begin" 760, sv "parts" 761, sv "done" 762, sv "count" 763, sv "spent" 764, sv "groups" 765, sv "first" 766, sv "end" 767]
noncomputable def ob_398 (P : Params) : Obj := qt []
noncomputable def ob_400 (P : Params) : Obj := qc [sv "substitute" 752, sv "substitute" 753, sv "/claim/cut.py" 754, iv 280 0, iv 6 0, iv 0 0, iv 0 0, iv 3 0, .ref 395, .bool true, iv 181 0, .ref 396, .none, .ref 397, .ref 398, .ref 399, iv 768 0, iv 280 0, sv "/claim/cut.py" 769]
noncomputable def ob_401 (P : Params) : Obj := ⟨.type "function", none, .func (FuncData.mk (qs "substitute") (qs "substitute") (pS (tS 49)) (bS (tS 49)) (sS (tS 49)) 3 ([]) (.ref 394) (.none) (.none) (sv "perlcore.reglobal" 737) (none) (.ref 400) (.none) 0), #[]⟩
noncomputable def ob_409 (P : Params) : Obj := qt [iv 64 785, iv 50 786, iv 1000000 789, iv 100000 792, iv 10000 795]
noncomputable def ob_410 (P : Params) : Obj := qt []
noncomputable def ob_412 (P : Params) : Obj := qt [sv "self" 799, sv "width" 800, sv "depth" 801, sv "steps" 802, sv "text" 803, sv "items" 804]
noncomputable def ob_413 (P : Params) : Obj := qt []
noncomputable def ob_415 (P : Params) : Obj := qc [sv "__init__" 796, sv "Limits.__init__" 797, sv "/claim/cut.py" 798, iv 299 0, iv 6 0, iv 0 0, iv 0 0, iv 3 0, .ref 410, .bool true, iv 181 0, .ref 411, .none, .ref 412, .ref 413, .ref 414, iv 805 0, iv 299 0, sv "/claim/cut.py" 806]
noncomputable def ob_416 (P : Params) : Obj := ⟨.type "function", none, .func (FuncData.mk (qs "__init__") (qs "Limits.__init__") (pS (cS 51 0)) (bS (cS 51 0)) (sS (cS 51 0)) 3 ([]) (.ref 409) (.none) (.none) (sv "perlcore.limits" 771) (none) (.ref 415) (.none) 0), #[]⟩
noncomputable def ob_417 (P : Params) : Obj := qt [sv "depth" 808, sv "items" 809, sv "steps" 810, sv "text" 811, sv "width" 812]
noncomputable def ob_418 (P : Params) : Obj := { cls := .type "dict", data := .dict #[qd P "__module__" 780 (sv "perlcore.limits" 771), qd P "__firstlineno__" 784 (iv 297 783), qd P "__init__" 807 (.ref 416), qd P "__static_attributes__" 813 (.ref 417), qd P "__dict__" 815 (.ref 420), qd P "__weakref__" 817 (.ref 421), qd P "__doc__" 818 (.none)] 4 }
noncomputable def ob_419 (P : Params) : Obj := { cls := .type "type", data := .cls { name := qs "Limits", bases := [.type "object"], mro := [.ref 419, .type "object"], ns := 418, qualname := qs "Limits" }, slots := #[none, none, some (sv "Limits" 773), some (sv "Limits" 781), some (.builtin "object.__new__"), some (.bool true)] }
noncomputable def ob_420 (P : Params) : Obj := { cls := .type "getset_descriptor", data := .fields #[sv "__dict__" 814, .ref 419, .builtin "function.__dict__", .builtin "function.__dict__#set"] }
noncomputable def ob_421 (P : Params) : Obj := { cls := .type "getset_descriptor", data := .fields #[sv "__weakref__" 816, .ref 419, .builtin "ExceptionGroup.__weakref__", .none] }
noncomputable def ob_424 (P : Params) : Obj := qt [sv "sign" 823, sv "any" 824, sv "set" 825]
noncomputable def ob_432 (P : Params) : Obj := qt []
noncomputable def ob_434 (P : Params) : Obj := qt [sv "self" 842, sv "rows" 843, sv "groups" 844, sv "registers" 845, sv "names" 846]
noncomputable def ob_435 (P : Params) : Obj := qt []
noncomputable def ob_437 (P : Params) : Obj := qc [sv "__init__" 839, sv "Program.__init__" 840, sv "/claim/cut.py" 841, iv 309 0, iv 5 0, iv 0 0, iv 0 0, iv 3 0, .ref 432, .bool true, iv 181 0, .ref 433, .none, .ref 434, .ref 435, .ref 436, iv 847 0, iv 309 0, sv "/claim/cut.py" 848]
noncomputable def ob_438 (P : Params) : Obj := qf "__init__" "Program.__init__" (cS 54 0) (.none) (sv "perlcore.recompile" 821) 437
noncomputable def ob_439 (P : Params) : Obj := qt [sv "groups" 850, sv "names" 851, sv "registers" 852, sv "rows" 853]
noncomputable def ob_440 (P : Params) : Obj := { cls := .type "dict", data := .dict #[qd P "__module__" 834 (sv "perlcore.recompile" 821), qd P "__firstlineno__" 838 (iv 307 837), qd P "__init__" 849 (.ref 438), qd P "__static_attributes__" 854 (.ref 439), qd P "__dict__" 856 (.ref 442), qd P "__weakref__" 858 (.ref 443), qd P "__doc__" 859 (.none)] 4 }
noncomputable def ob_441 (P : Params) : Obj := { cls := .type "type", data := .cls { name := qs "Program", bases := [.type "object"], mro := [.ref 441, .type "object"], ns := 440, qualname := qs "Program" }, slots := #[none, none, some (sv "Program" 827), some (sv "Program" 835), some (.builtin "object.__new__"), some (.bool true)] }
noncomputable def ob_442 (P : Params) : Obj := { cls := .type "getset_descriptor", data := .fields #[sv "__dict__" 855, .ref 441, .builtin "function.__dict__", .builtin "function.__dict__#set"] }
noncomputable def ob_443 (P : Params) : Obj := { cls := .type "getset_descriptor", data := .fields #[sv "__weakref__" 857, .ref 441, .builtin "ExceptionGroup.__weakref__", .none] }
noncomputable def ob_453 (P : Params) : Obj := qt []
noncomputable def ob_455 (P : Params) : Obj := qt [sv "self" 877]
noncomputable def ob_456 (P : Params) : Obj := qt []
noncomputable def ob_458 (P : Params) : Obj := qc [sv "__init__" 874, sv "RowMaker.__init__" 875, sv "/claim/cut.py" 876, iv 316 0, iv 1 0, iv 0 0, iv 0 0, iv 3 0, .ref 453, .bool true, iv 181 0, .ref 454, .none, .ref 455, .ref 456, .ref 457, iv 878 0, iv 316 0, sv "/claim/cut.py" 879]
noncomputable def ob_459 (P : Params) : Obj := qf "__init__" "RowMaker.__init__" (cS 55 0) (.none) (sv "perlcore.recompile" 821) 458
noncomputable def ob_460 (P : Params) : Obj := qt []
noncomputable def ob_462 (P : Params) : Obj := qt [sv "self" 884, sv "row" 885]
noncomputable def ob_463 (P : Params) : Obj := qt []
noncomputable def ob_465 (P : Params) : Obj := qc [sv "add" 881, sv "RowMaker.add" 882, sv "/claim/cut.py" 883, iv 320 0, iv 2 0, iv 0 0, iv 0 0, iv 3 0, .ref 460, .bool true, iv 181 0, .ref 461, .none, .ref 462, .ref 463, .ref 464, iv 886 0, iv 320 0, sv "/claim/cut.py" 887]
noncomputable def ob_466 (P : Params) : Obj := qf "add" "RowMaker.add" (cS 55 1) (.none) (sv "perlcore.recompile" 821) 465
noncomputable def ob_467 (P : Params) : Obj := qt []
noncomputable def ob_469 (P : Params) : Obj := qt [sv "self" 892]
noncomputable def ob_470 (P : Params) : Obj := qt []
noncomputable def ob_472 (P : Params) : Obj := qc [sv "fresh" 889, sv "RowMaker.fresh" 890, sv "/claim/cut.py" 891, iv 324 0, iv 1 0, iv 0 0, iv 0 0, iv 3 0, .ref 467, .bool true, iv 181 0, .ref 468, .none, .ref 469, .ref 470, .ref 471, iv 893 0, iv 324 0, sv "/claim/cut.py" 894]
noncomputable def ob_473 (P : Params) : Obj := qf "fresh" "RowMaker.fresh" (cS 55 2) (.none) (sv "perlcore.recompile" 821) 472
noncomputable def ob_474 (P : Params) : Obj := qt [sv "registers" 896, sv "rows" 897]
noncomputable def ob_475 (P : Params) : Obj := { cls := .type "dict", data := .dict #[qd P "__module__" 869 (sv "perlcore.recompile" 821), qd P "__firstlineno__" 873 (iv 314 872), qd P "__init__" 880 (.ref 459), qd P "add" 888 (.ref 466), qd P "fresh" 895 (.ref 473), qd P "__static_attributes__" 898 (.ref 474), qd P "__dict__" 900 (.ref 477), qd P "__weakref__" 902 (.ref 478), qd P "__doc__" 903 (.none)] 4 }
noncomputable def ob_476 (P : Params) : Obj := { cls := .type "type", data := .cls { name := qs "RowMaker", bases := [.type "object"], mro := [.ref 476, .type "object"], ns := 475, qualname := qs "RowMaker" }, slots := #[none, none, some (sv "RowMaker" 862), some (sv "RowMaker" 870), some (.builtin "object.__new__"), some (.bool true)] }
noncomputable def ob_477 (P : Params) : Obj := { cls := .type "getset_descriptor", data := .fields #[sv "__dict__" 899, .ref 476, .builtin "function.__dict__", .builtin "function.__dict__#set"] }
noncomputable def ob_478 (P : Params) : Obj := { cls := .type "getset_descriptor", data := .fields #[sv "__weakref__" 901, .ref 476, .builtin "ExceptionGroup.__weakref__", .none] }
noncomputable def ob_481 (P : Params) : Obj := qt []
noncomputable def ob_483 (P : Params) : Obj := qt [sv "maker" 909, sv "node" 910, sv "word" 911, sv "one" 912, sv "register" 913]
noncomputable def ob_484 (P : Params) : Obj := qt []
noncomputable def ob_486 (P : Params) : Obj := qc [sv "add_node" 906, sv "add_node" 907, sv "/claim/cut.py" 908, iv 327 0, iv 2 0, iv 0 0, iv 0 0, iv 3 0, .ref 481, .bool true, iv 181 0, .ref 482, .none, .ref 483, .ref 484, .ref 485, iv 914 0, iv 327 0, sv "/claim/cut.py" 915]
noncomputable def ob_487 (P : Params) : Obj := qf "add_node" "add_node" (tS 56) (.none) (sv "perlcore.recompile" 821) 486
noncomputable def ob_488 (P : Params) : Obj := qt []
noncomputable def ob_490 (P : Params) : Obj := qt [sv "maker" 920, sv "branches" 921, sv "jumps" 922, sv "one" 923, sv "split" 924, sv "at" 925]
noncomputable def ob_491 (P : Params) : Obj := qt []
noncomputable def ob_493 (P : Params) : Obj := qc [sv "add_branches" 917, sv "add_branches" 918, sv "/claim/cut.py" 919, iv 347 0, iv 2 0, iv 0 0, iv 0 0, iv 3 0, .ref 488, .bool true, iv 181 0, .ref 489, .none, .ref 490, .ref 491, .ref 492, iv 926 0, iv 347 0, sv "/claim/cut.py" 927]
noncomputable def ob_494 (P : Params) : Obj := qf "add_branches" "add_branches" (tS 57) (.none) (sv "perlcore.recompile" 821) 493
noncomputable def ob_495 (P : Params) : Obj := qt []
noncomputable def ob_497 (P : Params) : Obj := qt [sv "maker" 932, sv "node" 933, sv "register" 934]
noncomputable def ob_498 (P : Params) : Obj := qt []
noncomputable def ob_500 (P : Params) : Obj := qc [sv "add_atomic" 929, sv "add_atomic" 930, sv "/claim/cut.py" 931, iv 357 0, iv 2 0, iv 0 0, iv 0 0, iv 3 0, .ref 495, .bool true, iv 181 0, .ref 496, .none, .ref 497, .ref 498, .ref 499, iv 935 0, iv 357 0, sv "/claim/cut.py" 936]
noncomputable def ob_501 (P : Params) : Obj := qf "add_atomic" "add_atomic" (tS 58) (.none) (sv "perlcore.recompile" 821) 500
noncomputable def ob_502 (P : Params) : Obj := qt []
noncomputable def ob_504 (P : Params) : Obj := qt [sv "maker" 941, sv "node" 942, sv "word" 943, sv "inner" 944, sv "least" 945, sv "most" 946, sv "mode" 947]
noncomputable def ob_505 (P : Params) : Obj := qt []
noncomputable def ob_507 (P : Params) : Obj := qc [sv "add_repeats" 938, sv "add_repeats" 939, sv "/claim/cut.py" 940, iv 362 0, iv 2 0, iv 0 0, iv 0 0, iv 3 0, .ref 502, .bool true, iv 181 0, .ref 503, .none, .ref 504, .ref 505, .ref 506, iv 948 0, iv 362 0, sv "/claim/cut.py" 949]
noncomputable def ob_508 (P : Params) : Obj := qf "add_repeats" "add_repeats" (tS 59) (.none) (sv "perlcore.recompile" 821) 507
noncomputable def ob_509 (P : Params) : Obj := qt []
noncomputable def ob_511 (P : Params) : Obj := qt [sv "maker" 954, sv "inner" 955, sv "least" 956, sv "most" 957, sv "is_lazy" 958, sv "count" 959, sv "place" 960, sv "loop" 961, sv "again" 962]
noncomputable def ob_512 (P : Params) : Obj := qt []
noncomputable def ob_514 (P : Params) : Obj := qc [sv "add_loop" 951, sv "add_loop" 952, sv "/claim/cut.py" 953, iv 370 0, iv 5 0, iv 0 0, iv 0 0, iv 3 0, .ref 509, .bool true, iv 181 0, .ref 510, .none, .ref 511, .ref 512, .ref 513, iv 963 0, iv 370 0, sv "/claim/cut.py" 964]
noncomputable def ob_515 (P : Params) : Obj := qf "add_loop" "add_loop" (tS 60) (.none) (sv "perlcore.recompile" 821) 514
noncomputable def ob_516 (P : Params) : Obj := qt []
noncomputable def ob_518 (P : Params) : Obj := qt [sv "maker" 969, sv "node" 970, sv "word" 971, sv "inner" 972, sv "is_behind" 973, sv "is_negated" 974, sv "width" 975, sv "place" 976, sv "mark" 977, sv "split" 978]
noncomputable def ob_519 (P : Params) : Obj := qt []
noncomputable def ob_521 (P : Params) : Obj := qc [sv "add_look" 966, sv "add_look" 967, sv "/claim/cut.py" 968, iv 379 0, iv 2 0, iv 0 0, iv 0 0, iv 3 0, .ref 516, .bool true, iv 181 0, .ref 517, .none, .ref 518, .ref 519, .ref 520, iv 979 0, iv 379 0, sv "/claim/cut.py" 980]
noncomputable def ob_522 (P : Params) : Obj := qf "add_look" "add_look" (tS 61) (.none) (sv "perlcore.recompile" 821) 521
noncomputable def ob_523 (P : Params) : Obj := qt []
noncomputable def ob_525 (P : Params) : Obj := qt [sv "node" 985, sv "groups" 986, sv "names" 987, sv "maker" 988]
noncomputable def ob_526 (P : Params) : Obj := qt []
noncomputable def ob_528 (P : Params) : Obj := qc [sv "compile_tree" 982, sv "compile_tree" 983, sv "/claim/cut.py" 984, iv 397 0, iv 3 0, iv 0 0, iv 0 0, iv 3 0, .ref 523, .bool true, iv 181 0, .ref 524, .none, .ref 525, .ref 526, .ref 527, iv 989 0, iv 397 0, sv "/claim/cut.py" 990]
noncomputable def ob_529 (P : Params) : Obj := qf "compile_tree" "compile_tree" (tS 62) (.none) (sv "perlcore.recompile" 821) 528
noncomputable def ob_530 (P : Params) : Obj := { cls := .type "dict", data := .dict #[qd P "n" 994 (sv "\n" 995), qd P "t" 996 (sv "\t" 997), qd P "r" 998 (sv "\x0d" 999), qd P "f" 1000 (sv "\x0c" 1001), qd P "e" 1002 (sv "\x1b" 1003), qd P "a" 1004 (sv "\x07" 1005)] 6 }
noncomputable def ob_538 (P : Params) : Obj := qt []
noncomputable def ob_540 (P : Params) : Obj := qt [sv "self" 1038, sv "text" 1039, sv "total" 1040]
noncomputable def ob_541 (P : Params) : Obj := qt []
noncomputable def ob_543 (P : Params) : Obj := qc [sv "__init__" 1035, sv "PatternText.__init__" 1036, sv "/claim/cut.py" 1037, iv 411 0, iv 3 0, iv 0 0, iv 0 0, iv 3 0, .ref 538, .bool true, iv 181 0, .ref 539, .none, .ref 540, .ref 541, .ref 542, iv 1041 0, iv 411 0, sv "/claim/cut.py" 1042]
noncomputable def ob_544 (P : Params) : Obj := qf "__init__" "PatternText.__init__" (cS 70 0) (.none) (sv "perlcore.reescape" 992) 543
noncomputable def ob_545 (P : Params) : Obj := qt []
noncomputable def ob_547 (P : Params) : Obj := qt [sv "self" 1047]
noncomputable def ob_548 (P : Params) : Obj := qt []
noncomputable def ob_550 (P : Params) : Obj := qc [sv "peek" 1044, sv "PatternText.peek" 1045, sv "/claim/cut.py" 1046, iv 420 0, iv 1 0, iv 0 0, iv 0 0, iv 3 0, .ref 545, .bool true, iv 181 0, .ref 546, .none, .ref 547, .ref 548, .ref 549, iv 1048 0, iv 420 0, sv "/claim/cut.py" 1049]
noncomputable def ob_551 (P : Params) : Obj := qf "peek" "PatternText.peek" (cS 70 1) (.none) (sv "perlcore.reescape" 992) 550
noncomputable def ob_552 (P : Params) : Obj := qt []
noncomputable def ob_554 (P : Params) : Obj := qt [sv "self" 1054, sv "word" 1055]
noncomputable def ob_555 (P : Params) : Obj := qt []
noncomputable def ob_557 (P : Params) : Obj := qc [sv "skips" 1051, sv "PatternText.skips" 1052, sv "/claim/cut.py" 1053, iv 423 0, iv 2 0, iv 0 0, iv 0 0, iv 3 0, .ref 552, .bool true, iv 181 0, .ref 553, .none, .ref 554, .ref 555, .ref 556, iv 1056 0, iv 423 0, sv "/claim/cut.py" 1057]
noncomputable def ob_558 (P : Params) : Obj := qf "skips" "PatternText.skips" (cS 70 2) (.none) (sv "perlcore.reescape" 992) 557
noncomputable def ob_559 (P : Params) : Obj := qt [sv "at" 1059, sv "depth" 1060, sv "groups" 1061, sv "names" 1062, sv "spoken" 1063, sv "text" 1064, sv "total" 1065]
noncomputable def ob_560 (P : Params) : Obj := { cls := .type "dict", data := .dict #[qd P "__module__" 1030 (sv "perlcore.reescape" 992), qd P "__firstlineno__" 1034 (iv 409 1033), qd P "__init__" 1043 (.ref 544), qd P "peek" 1050 (.ref 551), qd P "skips" 1058 (.ref 558), qd P "__static_attributes__" 1066 (.ref 559), qd P "__dict__" 1068 (.ref 562), qd P "__weakref__" 1070 (.ref 563), qd P "__doc__" 1071 (.none)] 4 }
noncomputable def ob_561 (P : Params) : Obj := { cls := .type "type", data := .cls { name := qs "PatternText", bases := [.type "object"], mro := [.ref 561, .type "object"], ns := 560, qualname := qs "PatternText" }, slots := #[none, none, some (sv "PatternText" 1023), some (sv "PatternText" 1031), some (.builtin "object.__new__"), some (.bool true)] }
noncomputable def ob_562 (P : Params) : Obj := { cls := .type "getset_descriptor", data := .fields #[sv "__dict__" 1067, .ref 561, .builtin "function.__dict__", .builtin "function.__dict__#set"] }
noncomputable def ob_563 (P : Params) : Obj := { cls := .type "getset_descriptor", data := .fields #[sv "__weakref__" 1069, .ref 561, .builtin "ExceptionGroup.__weakref__", .none] }
noncomputable def ob_566 (P : Params) : Obj := qt []
noncomputable def ob_568 (P : Params) : Obj := qt [sv "state" 1077, sv "signs" 1078, sv "most" 1079, sv "begun" 1080]
noncomputable def ob_569 (P : Params) : Obj := qt []
noncomputable def ob_571 (P : Params) : Obj := qc [sv "run_of" 1074, sv "run_of" 1075, sv "/claim/cut.py" 1076, iv 428 0, iv 3 0, iv 0 0, iv 0 0, iv 3 0, .ref 566, .bool true, iv 181 0, .ref 567, .none, .ref 568, .ref 569, .ref 570, iv 1081 0, iv 428 0, sv "/claim/cut.py" 1082]
noncomputable def ob_572 (P : Params) : Obj := qf "run_of" "run_of" (tS 71) (.none) (sv "perlcore.reescape" 992) 571
noncomputable def ob_573 (P : Params) : Obj := qt []
noncomputable def ob_575 (P : Params) : Obj := qt [sv "run" 1087, sv "base" 1088, sv "found" 1089, sv "sign" 1090]
noncomputable def ob_576 (P : Params) : Obj := qt []
noncomputable def ob_578 (P : Params) : Obj := qc [sv "number_of_run" 1084, sv "number_of_run" 1085, sv "/claim/cut.py" 1086, iv 433 0, iv 2 0, iv 0 0, iv 0 0, iv 3 0, .ref 573, .bool true, iv 181 0, .ref 574, .none, .ref 575, .ref 576, .ref 577, iv 1091 0, iv 433 0, sv "/claim/cut.py" 1092]
noncomputable def ob_579 (P : Params) : Obj := qf "number_of_run" "number_of_run" (tS 72) (.none) (sv "perlcore.reescape" 992) 578
noncomputable def ob_580 (P : Params) : Obj := qt []
noncomputable def ob_582 (P : Params) : Obj := qt [sv "state" 1097, sv "end" 1098, sv "close" 1099, sv "found" 1100]
noncomputable def ob_583 (P : Params) : Obj := qt []
noncomputable def ob_585 (P : Params) : Obj := qc [sv "until_sign" 1094, sv "until_sign" 1095, sv "/claim/cut.py" 1096, iv 438 0, iv 2 0, iv 0 0, iv 0 0, iv 3 0, .ref 580, .bool true, iv 181 0, .ref 581, .none, .ref 582, .ref 583, .ref 584, iv 1101 0, iv 438 0, sv "/claim/cut.py" 1102]
noncomputable def ob_586 (P : Params) : Obj := qf "until_sign" "until_sign" (tS 73) (.none) (sv "perlcore.reescape" 992) 585
noncomputable def ob_587 (P : Params) : Obj := qt []
noncomputable def ob_589 (P : Params) : Obj := qt [sv "code" 1107, sv "at" 1108]
noncomputable def ob_590 (P : Params) : Obj := qt []
noncomputable def ob_592 (P : Params) : Obj := qc [sv "sign_of_code" 1104, sv "sign_of_code" 1105, sv "/claim/cut.py" 1106, iv 445 0, iv 2 0, iv 0 0, iv 0 0, iv 3 0, .ref 587, .bool true, iv 181 0, .ref 588, .none, .ref 589, .ref 590, .ref 591, iv 1109 0, iv 445 0, sv "/claim/cut.py" 1110]
noncomputable def ob_593 (P : Params) : Obj := qf "sign_of_code" "sign_of_code" (tS 74) (.none) (sv "perlcore.reescape" 992) 592
noncomputable def ob_594 (P : Params) : Obj := qt []
noncomputable def ob_597 (P : Params) : Obj := qc [sv "read_hex_sign" 1112, sv "read_hex_sign" 1113, sv "/claim/cut.py" 1114, iv 449 0, iv 1 0, iv 0 0, iv 0 0, iv 3 0, .ref 594, .bool true, iv 181 0, .ref 595, .none, .none, .none, .ref 596, iv 1115 0, iv 449 0, sv "/claim/cut.py" 1116]
noncomputable def ob_598 (P : Params) : Obj := qf "read_hex_sign" "read_hex_sign" (tS 75) (.none) (sv "perlcore.reescape" 992) 597
noncomputable def ob_599 (P : Params) : Obj := qt []
noncomputable def ob_602 (P : Params) : Obj := qc [sv "read_octal_sign" 1118, sv "read_octal_sign" 1119, sv "/claim/cut.py" 1120, iv 457 0, iv 1 0, iv 0 0, iv 0 0, iv 3 0, .ref 599, .bool true, iv 181 0, .ref 600, .none, .none, .none, .ref 601, iv 1121 0, iv 457 0, sv "/claim/cut.py" 1122]
noncomputable def ob_603 (P : Params) : Obj := qf "read_octal_sign" "read_octal_sign" (tS 76) (.none) (sv "perlcore.reescape" 992) 602
noncomputable def ob_604 (P : Params) : Obj := qt []
noncomputable def ob_607 (P : Params) : Obj := qc [sv "read_named_sign" 1124, sv "read_named_sign" 1125, sv "/claim/cut.py" 1126, iv 465 0, iv 1 0, iv 0 0, iv 0 0, iv 3 0, .ref 604, .bool true, iv 181 0, .ref 605, .none, .none, .none, .ref 606, iv 1127 0, iv 465 0, sv "/claim/cut.py" 1128]
noncomputable def ob_608 (P : Params) : Obj := qf "read_named_sign" "read_named_sign" (tS 77) (.none) (sv "perlcore.reescape" 992) 607
noncomputable def ob_609 (P : Params) : Obj := qt []
noncomputable def ob_611 (P : Params) : Obj := qt [sv "state" 1133, sv "sign" 1134]
noncomputable def ob_612 (P : Params) : Obj := qt []
noncomputable def ob_614 (P : Params) : Obj := qc [sv "read_plain_escape" 1130, sv "read_plain_escape" 1131, sv "/claim/cut.py" 1132, iv 473 0, iv 1 0, iv 0 0, iv 0 0, iv 3 0, .ref 609, .bool true, iv 181 0, .ref 610, .none, .ref 611, .ref 612, .ref 613, iv 1135 0, iv 473 0, sv "/claim/cut.py" 1136]
noncomputable def ob_615 (P : Params) : Obj := qf "read_plain_escape" "read_plain_escape" (tS 78) (.none) (sv "perlcore.reescape" 992) 614
noncomputable def ob_616 (P : Params) : Obj := qt []
noncomputable def ob_618 (P : Params) : Obj := qt [sv "state" 1141, sv "sign" 1142]
noncomputable def ob_619 (P : Params) : Obj := qt []
noncomputable def ob_621 (P : Params) : Obj := qc [sv "read_control" 1138, sv "read_control" 1139, sv "/claim/cut.py" 1140, iv 489 0, iv 1 0, iv 0 0, iv 0 0, iv 3 0, .ref 616, .bool true, iv 181 0, .ref 617, .none, .ref 618, .ref 619, .ref 620, iv 1143 0, iv 489 0, sv "/claim/cut.py" 1144]
noncomputable def ob_622 (P : Params) : Obj := qf "read_control" "read_control" (tS 79) (.none) (sv "perlcore.reescape" 992) 621
noncomputable def ob_623 (P : Params) : Obj := qt []
noncomputable def ob_625 (P : Params) : Obj := qt [sv "text" 1149, sv "at" 1150, sv "signs" 1151]
noncomputable def ob_626 (P : Params) : Obj := qt []
noncomputable def ob_628 (P : Params) : Obj := qc [sv "signs_end" 1146, sv "signs_end" 1147, sv "/claim/cut.py" 1148, iv 495 0, iv 3 0, iv 0 0, iv 0 0, iv 3 0, .ref 623, .bool true, iv 181 0, .ref 624, .none, .ref 625, .ref 626, .ref 627, iv 1152 0, iv 495 0, sv "/claim/cut.py" 1153]
noncomputable def ob_629 (P : Params) : Obj := qf "signs_end" "signs_end" (tS 80) (.none) (sv "perlcore.reescape" 992) 628
noncomputable def ob_630 (P : Params) : Obj := qt []
noncomputable def ob_632 (P : Params) : Obj := qt [sv "text" 1158, sv "at" 1159, sv "close" 1160]
noncomputable def ob_633 (P : Params) : Obj := qt []
noncomputable def ob_635 (P : Params) : Obj := qc [sv "posix_end" 1155, sv "posix_end" 1156, sv "/claim/cut.py" 1157, iv 499 0, iv 2 0, iv 0 0, iv 0 0, iv 3 0, .ref 630, .bool true, iv 181 0, .ref 631, .none, .ref 632, .ref 633, .ref 634, iv 1161 0, iv 499 0, sv "/claim/cut.py" 1162]
noncomputable def ob_636 (P : Params) : Obj := qf "posix_end" "posix_end" (tS 81) (.none) (sv "perlcore.reescape" 992) 635
noncomputable def ob_637 (P : Params) : Obj := qt []
noncomputable def ob_639 (P : Params) : Obj := qt [sv "state" 1167, sv "is_folded" 1168, sv "close" 1169, sv "name" 1170, sv "bare" 1171, sv "items" 1172]
noncomputable def ob_640 (P : Params) : Obj := qt []
noncomputable def ob_642 (P : Params) : Obj := qc [sv "read_posix" 1164, sv "read_posix" 1165, sv "/claim/cut.py" 1166, iv 504 0, iv 2 0, iv 0 0, iv 0 0, iv 3 0, .ref 637, .bool true, iv 181 0, .ref 638, .none, .ref 639, .ref 640, .ref 641, iv 1173 0, iv 504 0, sv "/claim/cut.py" 1174]
noncomputable def ob_643 (P : Params) : Obj := qf "read_posix" "read_posix" (tS 82) (.none) (sv "perlcore.reescape" 992) 642
noncomputable def ob_644 (P : Params) : Obj := qt []
noncomputable def ob_646 (P : Params) : Obj := qt [sv "state" 1179, sv "is_folded" 1180, sv "found" 1181, sv "sign" 1182, sv "letter" 1183]
noncomputable def ob_647 (P : Params) : Obj := qt []
noncomputable def ob_649 (P : Params) : Obj := qc [sv "read_member" 1176, sv "read_member" 1177, sv "/claim/cut.py" 1178, iv 515 0, iv 2 0, iv 0 0, iv 0 0, iv 3 0, .ref 644, .bool true, iv 181 0, .ref 645, .none, .ref 646, .ref 647, .ref 648, iv 1184 0, iv 515 0, sv "/claim/cut.py" 1185]
noncomputable def ob_650 (P : Params) : Obj := qf "read_member" "read_member" (tS 83) (.none) (sv "perlcore.reescape" 992) 649
noncomputable def ob_651 (P : Params) : Obj := qt []
noncomputable def ob_653 (P : Params) : Obj := qt [sv "items" 1190]
noncomputable def ob_654 (P : Params) : Obj := qt []
noncomputable def ob_656 (P : Params) : Obj := qc [sv "is_one_sign" 1187, sv "is_one_sign" 1188, sv "/claim/cut.py" 1189, iv 532 0, iv 1 0, iv 0 0, iv 0 0, iv 3 0, .ref 651, .bool true, iv 181 0, .ref 652, .none, .ref 653, .ref 654, .ref 655, iv 1191 0, iv 532 0, sv "/claim/cut.py" 1192]
noncomputable def ob_657 (P : Params) : Obj := qf "is_one_sign" "is_one_sign" (tS 84) (.none) (sv "perlcore.reescape" 992) 656
noncomputable def ob_658 (P : Params) : Obj := qt []
noncomputable def ob_660 (P : Params) : Obj := qt [sv "state" 1197, sv "first" 1198, sv "is_folded" 1199, sv "at" 1200, sv "second" 1201]
noncomputable def ob_661 (P : Params) : Obj := qt []
noncomputable def ob_663 (P : Params) : Obj := qc [sv "read_range_end" 1194, sv "read_range_end" 1195, sv "/claim/cut.py" 1196, iv 534 0, iv 3 0, iv 0 0, iv 0 0, iv 3 0, .ref 658, .bool true, iv 181 0, .ref 659, .none, .ref 660, .ref 661, .ref 662, iv 1202 0, iv 534 0, sv "/claim/cut.py" 1203]
noncomputable def ob_664 (P : Params) : Obj := qf "read_range_end" "read_range_end" (tS 85) (.none) (sv "perlcore.reescape" 992) 663
noncomputable def ob_665 (P : Params) : Obj := qt []
noncomputable def ob_667 (P : Params) : Obj := qt [sv "state" 1208, sv "is_folded" 1209, sv "begun" 1210, sv "is_negated" 1211, sv "items" 1212, sv "is_first" 1213, sv "found" 1214, sv "behind" 1215]
noncomputable def ob_668 (P : Params) : Obj := qt []
noncomputable def ob_670 (P : Params) : Obj := qc [sv "read_set" 1205, sv "read_set" 1206, sv "/claim/cut.py" 1207, iv 543 0, iv 2 0, iv 0 0, iv 0 0, iv 3 0, .ref 665, .bool true, iv 181 0, .ref 666, .none, .ref 667, .ref 668, .ref 669, iv 1216 0, iv 543 0, sv "/claim/cut.py" 1217]
noncomputable def ob_671 (P : Params) : Obj := qf "read_set" "read_set" (tS 86) (.none) (sv "perlcore.reescape" 992) 670
noncomputable def ob_672 (P : Params) : Obj := { cls := .type "dict", data := .dict #[qd P "*" 1225 (.ref 673), qd P "+" 1229 (.ref 674), qd P "?" 1233 (.ref 675)] 3 }
noncomputable def ob_673 (P : Params) : Obj := qt [iv 0 1226, ivn 0 1228]
noncomputable def ob_674 (P : Params) : Obj := qt [iv 1 1230, ivn 0 1232]
noncomputable def ob_675 (P : Params) : Obj := qt [iv 0 1234, iv 1 1235]
noncomputable def ob_676 (P : Params) : Obj := qt []
noncomputable def ob_678 (P : Params) : Obj := qt [sv "text" 1243, sv "found" 1244, sv "at" 1245, sv "close" 1246]
noncomputable def ob_679 (P : Params) : Obj := qt []
noncomputable def ob_681 (P : Params) : Obj := qc [sv "count_groups" 1240, sv "count_groups" 1241, sv "/claim/cut.py" 1242, iv 564 0, iv 1 0, iv 0 0, iv 0 0, iv 3 0, .ref 676, .bool true, iv 181 0, .ref 677, .none, .ref 678, .ref 679, .ref 680, iv 1247 0, iv 564 0, sv "/claim/cut.py" 1248]
noncomputable def ob_682 (P : Params) : Obj := qf "count_groups" "count_groups" (tS 91) (.none) (sv "perlcore.repieces" 1219) 681
noncomputable def ob_683 (P : Params) : Obj := qt []
noncomputable def ob_685 (P : Params) : Obj := qt [sv "text" 1253, sv "at" 1254, sv "behind" 1255]
noncomputable def ob_686 (P : Params) : Obj := qt []
noncomputable def ob_688 (P : Params) : Obj := qc [sv "behind_set" 1250, sv "behind_set" 1251, sv "/claim/cut.py" 1252, iv 579 0, iv 2 0, iv 0 0, iv 0 0, iv 3 0, .ref 683, .bool true, iv 181 0, .ref 684, .none, .ref 685, .ref 686, .ref 687, iv 1256 0, iv 579 0, sv "/claim/cut.py" 1257]
noncomputable def ob_689 (P : Params) : Obj := qf "behind_set" "behind_set" (tS 92) (.none) (sv "perlcore.repieces" 1219) 688
noncomputable def ob_690 (P : Params) : Obj := qt []
noncomputable def ob_692 (P : Params) : Obj := qt [sv "text" 1262, sv "at" 1263, sv "close" 1264]
noncomputable def ob_693 (P : Params) : Obj := qt []
noncomputable def ob_695 (P : Params) : Obj := qc [sv "behind_posix" 1259, sv "behind_posix" 1260, sv "/claim/cut.py" 1261, iv 592 0, iv 2 0, iv 0 0, iv 0 0, iv 3 0, .ref 690, .bool true, iv 181 0, .ref 691, .none, .ref 692, .ref 693, .ref 694, iv 1265 0, iv 592 0, sv "/claim/cut.py" 1266]
noncomputable def ob_696 (P : Params) : Obj := qf "behind_posix" "behind_posix" (tS 93) (.none) (sv "perlcore.repieces" 1219) 695
noncomputable def ob_697 (P : Params) : Obj := qt []
noncomputable def ob_699 (P : Params) : Obj := qt [sv "signs" 1271]
noncomputable def ob_700 (P : Params) : Obj := qt []
noncomputable def ob_702 (P : Params) : Obj := qc [sv "opens_capture" 1268, sv "opens_capture" 1269, sv "/claim/cut.py" 1270, iv 595 0, iv 1 0, iv 0 0, iv 0 0, iv 3 0, .ref 697, .bool true, iv 181 0, .ref 698, .none, .ref 699, .ref 700, .ref 701, iv 1272 0, iv 595 0, sv "/claim/cut.py" 1273]
noncomputable def ob_703 (P : Params) : Obj := qf "opens_capture" "opens_capture" (tS 94) (.none) (sv "perlcore.repieces" 1219) 702
noncomputable def ob_704 (P : Params) : Obj := qt []
noncomputable def ob_707 (P : Params) : Obj := qc [sv "is_name_text" 1275, sv "is_name_text" 1276, sv "/claim/cut.py" 1277, iv 599 0, iv 1 0, iv 0 0, iv 0 0, iv 3 0, .ref 704, .bool true, iv 181 0, .ref 705, .none, .none, .none, .ref 706, iv 1278 0, iv 599 0, sv "/claim/cut.py" 1279]
noncomputable def ob_708 (P : Params) : Obj := qf "is_name_text" "is_name_text" (tS 95) (.none) (sv "perlcore.repieces" 1219) 707
noncomputable def ob_709 (P : Params) : Obj := qt []
noncomputable def ob_711 (P : Params) : Obj := qt [sv "text" 1284, sv "at" 1285, sv "comma" 1286, sv "least" 1287, sv "close" 1288]
noncomputable def ob_712 (P : Params) : Obj := qt []
noncomputable def ob_714 (P : Params) : Obj := qc [sv "braces_count" 1281, sv "braces_count" 1282, sv "/claim/cut.py" 1283, iv 601 0, iv 2 0, iv 0 0, iv 0 0, iv 3 0, .ref 709, .bool true, iv 181 0, .ref 710, .none, .ref 711, .ref 712, .ref 713, iv 1289 0, iv 601 0, sv "/claim/cut.py" 1290]
noncomputable def ob_715 (P : Params) : Obj := qf "braces_count" "braces_count" (tS 96) (.none) (sv "perlcore.repieces" 1219) 714
noncomputable def ob_716 (P : Params) : Obj := qt []
noncomputable def ob_718 (P : Params) : Obj := qt [sv "state" 1295, sv "sign" 1296, sv "found" 1297, sv "least" 1298, sv "most" 1299, sv "behind" 1300]
noncomputable def ob_719 (P : Params) : Obj := qt []
noncomputable def ob_721 (P : Params) : Obj := qc [sv "take_count" 1292, sv "take_count" 1293, sv "/claim/cut.py" 1294, iv 612 0, iv 1 0, iv 0 0, iv 0 0, iv 3 0, .ref 716, .bool true, iv 181 0, .ref 717, .none, .ref 718, .ref 719, .ref 720, iv 1301 0, iv 612 0, sv "/claim/cut.py" 1302]
noncomputable def ob_722 (P : Params) : Obj := qf "take_count" "take_count" (tS 97) (.none) (sv "perlcore.repieces" 1219) 721
noncomputable def ob_723 (P : Params) : Obj := qt []
noncomputable def ob_725 (P : Params) : Obj := qt [sv "state" 1307, sv "close" 1308, sv "at" 1309, sv "name" 1310]
noncomputable def ob_726 (P : Params) : Obj := qt []
noncomputable def ob_728 (P : Params) : Obj := qc [sv "read_name" 1304, sv "read_name" 1305, sv "/claim/cut.py" 1306, iv 627 0, iv 3 0, iv 0 0, iv 0 0, iv 3 0, .ref 723, .bool true, iv 181 0, .ref 724, .none, .ref 725, .ref 726, .ref 727, iv 1311 0, iv 627 0, sv "/claim/cut.py" 1312]
noncomputable def ob_729 (P : Params) : Obj := qf "read_name" "read_name" (tS 98) (.none) (sv "perlcore.repieces" 1219) 728
noncomputable def ob_730 (P : Params) : Obj := qt []
noncomputable def ob_732 (P : Params) : Obj := qt [sv "state" 1317, sv "numbers" 1318, sv "at" 1319]
noncomputable def ob_733 (P : Params) : Obj := qt []
noncomputable def ob_735 (P : Params) : Obj := qc [sv "speak_of" 1314, sv "speak_of" 1315, sv "/claim/cut.py" 1316, iv 632 0, iv 3 0, iv 0 0, iv 0 0, iv 3 0, .ref 730, .bool true, iv 181 0, .ref 731, .none, .ref 732, .ref 733, .ref 734, iv 1320 0, iv 632 0, sv "/claim/cut.py" 1321]
noncomputable def ob_736 (P : Params) : Obj := qf "speak_of" "speak_of" (tS 99) (.none) (sv "perlcore.repieces" 1219) 735
noncomputable def ob_737 (P : Params) : Obj := qt []
noncomputable def ob_739 (P : Params) : Obj := qt [sv "state" 1326, sv "at" 1327, sv "opening" 1328, sv "close" 1329]
noncomputable def ob_740 (P : Params) : Obj := qt []
noncomputable def ob_742 (P : Params) : Obj := qc [sv "read_named_back" 1323, sv "read_named_back" 1324, sv "/claim/cut.py" 1325, iv 635 0, iv 2 0, iv 0 0, iv 0 0, iv 3 0, .ref 737, .bool true, iv 181 0, .ref 738, .none, .ref 739, .ref 740, .ref 741, iv 1330 0, iv 635 0, sv "/claim/cut.py" 1331]
noncomputable def ob_743 (P : Params) : Obj := qf "read_named_back" "read_named_back" (tS 100) (.none) (sv "perlcore.repieces" 1219) 742
noncomputable def ob_744 (P : Params) : Obj := qt []
noncomputable def ob_746 (P : Params) : Obj := qt [sv "state" 1336, sv "at" 1337, sv "begun" 1338, sv "has_braces" 1339, sv "is_back" 1340, sv "run" 1341, sv "number" 1342]
noncomputable def ob_747 (P : Params) : Obj := qt []
noncomputable def ob_749 (P : Params) : Obj := qc [sv "read_numbered_back" 1333, sv "read_numbered_back" 1334, sv "/claim/cut.py" 1335, iv 640 0, iv 2 0, iv 0 0, iv 0 0, iv 3 0, .ref 744, .bool true, iv 181 0, .ref 745, .none, .ref 746, .ref 747, .ref 748, iv 1343 0, iv 640 0, sv "/claim/cut.py" 1344]
noncomputable def ob_750 (P : Params) : Obj := qf "read_numbered_back" "read_numbered_back" (tS 101) (.none) (sv "perlcore.repieces" 1219) 749
noncomputable def ob_751 (P : Params) : Obj := qt []
noncomputable def ob_754 (P : Params) : Obj := qc [sv "width_of" 1346, sv "width_of" 1347, sv "/claim/cut.py" 1348, iv 650 0, iv 1 0, iv 0 0, iv 0 0, iv 3 0, .ref 751, .bool true, iv 181 0, .ref 752, .none, .none, .none, .ref 753, iv 1349 0, iv 650 0, sv "/claim/cut.py" 1350]
noncomputable def ob_755 (P : Params) : Obj := qf "width_of" "width_of" (tS 102) (.none) (sv "perlcore.repieces" 1219) 754
noncomputable def ob_756 (P : Params) : Obj := qt [sv "(?=" 1358, .bool false, .bool false]
noncomputable def ob_757 (P : Params) : Obj := qt [sv "(?!" 1359, .bool false, .bool true]
noncomputable def ob_758 (P : Params) : Obj := qt [sv "(?<=" 1360, .bool true, .bool false]
noncomputable def ob_759 (P : Params) : Obj := qt [sv "(?<!" 1361, .bool true, .bool true]
noncomputable def ob_760 (P : Params) : Obj := { cls := .type "list", data := .seq #[.ref 756, .ref 757, .ref 758, .ref 759] }
noncomputable def ob_761 (P : Params) : Obj := qt [sv "(?<" 1363, sv ">" 1364]
noncomputable def ob_762 (P : Params) : Obj := qt [sv "(?P<" 1365, sv ">" 1366]
noncomputable def ob_763 (P : Params) : Obj := qt [sv "(?'" 1367, sv "'" 1368]
noncomputable def ob_764 (P : Params) : Obj := { cls := .type "list", data := .seq #[.ref 761, .ref 762, .ref 763] }
noncomputable def ob_765 (P : Params) : Obj := qt []
noncomputable def ob_767 (P : Params) : Obj := qt [sv "state" 1373, sv "flags" 1374, sv "close" 1375]
noncomputable def ob_768 (P : Params) : Obj := qt []
noncomputable def ob_770 (P : Params) : Obj := qc [sv "skip_unseen" 1370, sv "skip_unseen" 1371, sv "/claim/cut.py" 1372, iv 672 0, iv 2 0, iv 0 0, iv 0 0, iv 3 0, .ref 765, .bool true, iv 181 0, .ref 766, .none, .ref 767, .ref 768, .ref 769, iv 1376 0, iv 672 0, sv "/claim/cut.py" 1377]
noncomputable def ob_771 (P : Params) : Obj := qf "skip_unseen" "skip_unseen" (tS 108) (.none) (sv "perlcore.repattern" 1352) 770
noncomputable def ob_772 (P : Params) : Obj := qt []
noncomputable def ob_775 (P : Params) : Obj := qc [sv "read_flags" 1379, sv "read_flags" 1380, sv "/claim/cut.py" 1381, iv 683 0, iv 2 0, iv 0 0, iv 0 0, iv 3 0, .ref 772, .bool true, iv 181 0, .ref 773, .none, .none, .none, .ref 774, iv 1382 0, iv 683 0, sv "/claim/cut.py" 1383]
noncomputable def ob_776 (P : Params) : Obj := qf "read_flags" "read_flags" (tS 109) (.none) (sv "perlcore.repattern" 1352) 775
noncomputable def ob_777 (P : Params) : Obj := qt []
noncomputable def ob_779 (P : Params) : Obj := qt [sv "state" 1388, sv "flags" 1389, sv "begun" 1390, sv "found" 1391]
noncomputable def ob_780 (P : Params) : Obj := qt []
noncomputable def ob_782 (P : Params) : Obj := qc [sv "read_inline" 1385, sv "read_inline" 1386, sv "/claim/cut.py" 1387, iv 687 0, iv 2 0, iv 0 0, iv 0 0, iv 3 0, .ref 777, .bool true, iv 181 0, .ref 778, .none, .ref 779, .ref 780, .ref 781, iv 1392 0, iv 687 0, sv "/claim/cut.py" 1393]
noncomputable def ob_783 (P : Params) : Obj := qf "read_inline" "read_inline" (tS 110) (.none) (sv "perlcore.repattern" 1352) 782
noncomputable def ob_784 (P : Params) : Obj := qt []
noncomputable def ob_786 (P : Params) : Obj := qt [sv "state" 1398, sv "flags" 1399, sv "branches" 1400, sv "node" 1401]
noncomputable def ob_787 (P : Params) : Obj := qt []
noncomputable def ob_789 (P : Params) : Obj := qc [sv "read_alternation" 1395, sv "read_alternation" 1396, sv "/claim/cut.py" 1397, iv 696 0, iv 2 0, iv 0 0, iv 0 0, iv 3 0, .ref 784, .bool true, iv 181 0, .ref 785, .none, .ref 786, .ref 787, .ref 788, iv 1402 0, iv 696 0, sv "/claim/cut.py" 1403]
noncomputable def ob_790 (P : Params) : Obj := qf "read_alternation" "read_alternation" (tS 111) (.none) (sv "perlcore.repattern" 1352) 789
noncomputable def ob_791 (P : Params) : Obj := qt []
noncomputable def ob_793 (P : Params) : Obj := qt [sv "state" 1408, sv "flags" 1409, sv "parts" 1410, sv "changed" 1411]
noncomputable def ob_794 (P : Params) : Obj := qt []
noncomputable def ob_796 (P : Params) : Obj := qc [sv "read_branch" 1405, sv "read_branch" 1406, sv "/claim/cut.py" 1407, iv 703 0, iv 2 0, iv 0 0, iv 0 0, iv 3 0, .ref 791, .bool true, iv 181 0, .ref 792, .none, .ref 793, .ref 794, .ref 795, iv 1412 0, iv 703 0, sv "/claim/cut.py" 1413]
noncomputable def ob_797 (P : Params) : Obj := qf "read_branch" "read_branch" (tS 112) (.none) (sv "perlcore.repattern" 1352) 796
noncomputable def ob_798 (P : Params) : Obj := qt []
noncomputable def ob_800 (P : Params) : Obj := qt [sv "state" 1418, sv "flags" 1419, sv "sign" 1420]
noncomputable def ob_801 (P : Params) : Obj := qt []
noncomputable def ob_803 (P : Params) : Obj := qc [sv "read_atom" 1415, sv "read_atom" 1416, sv "/claim/cut.py" 1417, iv 714 0, iv 2 0, iv 0 0, iv 0 0, iv 3 0, .ref 798, .bool true, iv 181 0, .ref 799, .none, .ref 800, .ref 801, .ref 802, iv 1421 0, iv 714 0, sv "/claim/cut.py" 1422]
noncomputable def ob_804 (P : Params) : Obj := qf "read_atom" "read_atom" (tS 113) (.none) (sv "perlcore.repattern" 1352) 803
noncomputable def ob_805 (P : Params) : Obj := qt []
noncomputable def ob_807 (P : Params) : Obj := qt [sv "state" 1427, sv "flags" 1428, sv "node" 1429, sv "count" 1430, sv "mode" 1431, sv "begun" 1432]
noncomputable def ob_808 (P : Params) : Obj := qt []
noncomputable def ob_810 (P : Params) : Obj := qc [sv "read_counted" 1424, sv "read_counted" 1425, sv "/claim/cut.py" 1426, iv 732 0, iv 3 0, iv 0 0, iv 0 0, iv 3 0, .ref 805, .bool true, iv 181 0, .ref 806, .none, .ref 807, .ref 808, .ref 809, iv 1433 0, iv 732 0, sv "/claim/cut.py" 1434]
noncomputable def ob_811 (P : Params) : Obj := qf "read_counted" "read_counted" (tS 114) (.none) (sv "perlcore.repattern" 1352) 810
noncomputable def ob_812 (P : Params) : Obj := qt []
noncomputable def ob_814 (P : Params) : Obj := qt [sv "state" 1439, sv "flags" 1440, sv "begun" 1441, sv "node" 1442]
noncomputable def ob_815 (P : Params) : Obj := qt []
noncomputable def ob_817 (P : Params) : Obj := qc [sv "read_inner" 1436, sv "read_inner" 1437, sv "/claim/cut.py" 1438, iv 751 0, iv 3 0, iv 0 0, iv 0 0, iv 3 0, .ref 812, .bool true, iv 181 0, .ref 813, .none, .ref 814, .ref 815, .ref 816, iv 1443 0, iv 751 0, sv "/claim/cut.py" 1444]
noncomputable def ob_818 (P : Params) : Obj := qf "read_inner" "read_inner" (tS 115) (.none) (sv "perlcore.repattern" 1352) 817
noncomputable def ob_819 (P : Params) : Obj := qt []
noncomputable def ob_821 (P : Params) : Obj := qt [sv "state" 1449, sv "flags" 1450, sv "begun" 1451, sv "name" 1452, sv "number" 1453]
noncomputable def ob_822 (P : Params) : Obj := qt []
noncomputable def ob_824 (P : Params) : Obj := qc [sv "read_capture" 1446, sv "read_capture" 1447, sv "/claim/cut.py" 1448, iv 760 0, iv 4 0, iv 0 0, iv 0 0, iv 3 0, .ref 819, .bool true, iv 181 0, .ref 820, .none, .ref 821, .ref 822, .ref 823, iv 1454 0, iv 760 0, sv "/claim/cut.py" 1455]
noncomputable def ob_825 (P : Params) : Obj := qf "read_capture" "read_capture" (tS 116) (.none) (sv "perlcore.repattern" 1352) 824
noncomputable def ob_826 (P : Params) : Obj := qt []
noncomputable def ob_828 (P : Params) : Obj := qt [sv "state" 1460, sv "flags" 1461, sv "begun" 1462, sv "is_behind" 1463, sv "is_negated" 1464, sv "node" 1465, sv "width" 1466]
noncomputable def ob_829 (P : Params) : Obj := qt []
noncomputable def ob_831 (P : Params) : Obj := qc [sv "read_look" 1457, sv "read_look" 1458, sv "/claim/cut.py" 1459, iv 766 0, iv 5 0, iv 0 0, iv 0 0, iv 3 0, .ref 826, .bool true, iv 181 0, .ref 827, .none, .ref 828, .ref 829, .ref 830, iv 1467 0, iv 766 0, sv "/claim/cut.py" 1468]
noncomputable def ob_832 (P : Params) : Obj := qf "read_look" "read_look" (tS 117) (.none) (sv "perlcore.repattern" 1352) 831
noncomputable def ob_833 (P : Params) : Obj := qt []
noncomputable def ob_835 (P : Params) : Obj := qt [sv "state" 1473, sv "flags" 1474, sv "begun" 1475, sv "opening" 1476, sv "is_behind" 1477, sv "is_negated" 1478, sv "close" 1479, sv "changed" 1480]
noncomputable def ob_836 (P : Params) : Obj := qt []
noncomputable def ob_838 (P : Params) : Obj := qc [sv "read_group" 1470, sv "read_group" 1471, sv "/claim/cut.py" 1472, iv 772 0, iv 2 0, iv 0 0, iv 0 0, iv 3 0, .ref 833, .bool true, iv 181 0, .ref 834, .none, .ref 835, .ref 836, .ref 837, iv 1481 0, iv 772 0, sv "/claim/cut.py" 1482]
noncomputable def ob_839 (P : Params) : Obj := qf "read_group" "read_group" (tS 118) (.none) (sv "perlcore.repattern" 1352) 838
noncomputable def ob_840 (P : Params) : Obj := qt []
noncomputable def ob_842 (P : Params) : Obj := qt [sv "state" 1487]
noncomputable def ob_843 (P : Params) : Obj := qt []
noncomputable def ob_845 (P : Params) : Obj := qc [sv "is_sign_told" 1484, sv "is_sign_told" 1485, sv "/claim/cut.py" 1486, iv 791 0, iv 1 0, iv 0 0, iv 0 0, iv 3 0, .ref 840, .bool true, iv 181 0, .ref 841, .none, .ref 842, .ref 843, .ref 844, iv 1488 0, iv 791 0, sv "/claim/cut.py" 1489]
noncomputable def ob_846 (P : Params) : Obj := qf "is_sign_told" "is_sign_told" (tS 119) (.none) (sv "perlcore.repattern" 1352) 845
noncomputable def ob_847 (P : Params) : Obj := qt []
noncomputable def ob_849 (P : Params) : Obj := qt [sv "state" 1494, sv "flags" 1495, sv "at" 1496, sv "is_folded" 1497, sv "letter" 1498, sv "begun" 1499, sv "number" 1500]
noncomputable def ob_850 (P : Params) : Obj := qt []
noncomputable def ob_852 (P : Params) : Obj := qc [sv "read_escape" 1491, sv "read_escape" 1492, sv "/claim/cut.py" 1493, iv 793 0, iv 2 0, iv 0 0, iv 0 0, iv 3 0, .ref 847, .bool true, iv 181 0, .ref 848, .none, .ref 849, .ref 850, .ref 851, iv 1501 0, iv 793 0, sv "/claim/cut.py" 1502]
noncomputable def ob_853 (P : Params) : Obj := qf "read_escape" "read_escape" (tS 120) (.none) (sv "perlcore.repattern" 1352) 852
noncomputable def ob_854 (P : Params) : Obj := qt []
noncomputable def ob_857 (P : Params) : Obj := qc [sv "parse_pattern" 1504, sv "parse_pattern" 1505, sv "/claim/cut.py" 1506, iv 817 0, iv 2 0, iv 0 0, iv 0 0, iv 3 0, .ref 854, .bool true, iv 181 0, .ref 855, .none, .none, .none, .ref 856, iv 1507 0, iv 817 0, sv "/claim/cut.py" 1508]
noncomputable def ob_858 (P : Params) : Obj := qf "parse_pattern" "parse_pattern" (tS 121) (.none) (sv "perlcore.repattern" 1352) 857
noncomputable def ob_859 (P : Params) : Obj := qt []
noncomputable def ob_861 (P : Params) : Obj := qt [sv "text" 1515, sv "flags" 1516, sv "node" 1517, sv "groups" 1518, sv "names" 1519]
noncomputable def ob_862 (P : Params) : Obj := qt []
noncomputable def ob_864 (P : Params) : Obj := qc [sv "compile_pattern" 1512, sv "compile_pattern" 1513, sv "/claim/cut.py" 1514, iv 827 0, iv 2 0, iv 0 0, iv 0 0, iv 3 0, .ref 859, .bool true, iv 181 0, .ref 860, .none, .ref 861, .ref 862, .ref 863, iv 1520 0, iv 827 0, sv "/claim/cut.py" 1521]
noncomputable def ob_865 (P : Params) : Obj := qf "compile_pattern" "compile_pattern" (tS 123) (.none) (sv "perlcore.patterns" 1510) 864
noncomputable def ob_866 (P : Params) : Obj := qt [iv 3 1525, iv 4 1526, iv 0 1527, iv 6 1528, iv 1 1529, iv 0 1530, iv 1 1531, iv 0 1532, iv 1 1533, iv 0 1534]
noncomputable def ob_867 (P : Params) : Obj := qt []
noncomputable def ob_869 (P : Params) : Obj := qt [sv "tree" 1539, sv "many" 1540, sv "spot" 1541]
noncomputable def ob_870 (P : Params) : Obj := qt []
noncomputable def ob_872 (P : Params) : Obj := qc [sv "_law_shake" 1536, sv "_law_shake" 1537, sv "/claim/cut.py" 1538, iv 832 0, iv 2 0, iv 0 0, iv 0 0, iv 3 0, .ref 867, .bool true, iv 181 0, .ref 868, .none, .ref 869, .ref 870, .ref 871, iv 1542 0, iv 832 0, sv "/claim/cut.py" 1543]
noncomputable def ob_873 (P : Params) : Obj := qf "_law_shake" "_law_shake" (tS 126) (.none) (sv "law_sz0093_03" 1523) 872
noncomputable def ob_874 (P : Params) : Obj := qt []
noncomputable def ob_876 (P : Params) : Obj := qt [sv "letter" 1548, sv "word" 1549, sv "begun" 1550, sv "goes" 1551, sv "other" 1552, sv "turn" 1553]
noncomputable def ob_877 (P : Params) : Obj := qt [sv "word" 1554, sv "found" 1555]
noncomputable def ob_879 (P : Params) : Obj := qc [sv "_law_grown" 1545, sv "_law_grown" 1546, sv "/claim/cut.py" 1547, iv 836 0, iv 4 0, iv 0 0, iv 0 0, iv 3 0, .ref 874, .bool true, iv 181 0, .ref 875, .none, .ref 876, .ref 877, .ref 878, iv 1556 0, iv 836 0, sv "/claim/cut.py" 1557]
noncomputable def ob_880 (P : Params) : Obj := qf "_law_grown" "_law_grown" (tS 127) (.none) (sv "law_sz0093_03" 1523) 879
noncomputable def ob_881 (P : Params) : Obj := qt []
noncomputable def ob_883 (P : Params) : Obj := qt [sv "place" 1562, sv "ones" 1563]
noncomputable def ob_884 (P : Params) : Obj := qt []
noncomputable def ob_886 (P : Params) : Obj := qc [sv "_law_odd" 1559, sv "_law_odd" 1560, sv "/claim/cut.py" 1561, iv 844 0, iv 1 0, iv 0 0, iv 0 0, iv 3 0, .ref 881, .bool true, iv 181 0, .ref 882, .none, .ref 883, .ref 884, .ref 885, iv 1564 0, iv 844 0, sv "/claim/cut.py" 1565]
noncomputable def ob_887 (P : Params) : Obj := qf "_law_odd" "_law_odd" (tS 128) (.none) (sv "law_sz0093_03" 1523) 886
noncomputable def ob_888 (P : Params) : Obj := qt []
noncomputable def ob_890 (P : Params) : Obj := qt [sv "word" 1570, sv "begin" 1571, sv "size" 1572, sv "part" 1573]
noncomputable def ob_891 (P : Params) : Obj := qt []
noncomputable def ob_893 (P : Params) : Obj := qc [sv "_law_has_thrice" 1567, sv "_law_has_thrice" 1568, sv "/claim/cut.py" 1569, iv 849 0, iv 1 0, iv 0 0, iv 0 0, iv 3 0, .ref 888, .bool true, iv 181 0, .ref 889, .none, .ref 890, .ref 891, .ref 892, iv 1574 0, iv 849 0, sv "/claim/cut.py" 1575]
noncomputable def ob_894 (P : Params) : Obj := qf "_law_has_thrice" "_law_has_thrice" (tS 129) (.none) (sv "law_sz0093_03" 1523) 893
noncomputable def ob_895 (P : Params) : Obj := qt []
noncomputable def ob_898 (P : Params) : Obj := qc [sv "law" 1577, sv "law" 1578, sv "/claim/cut.py" 1579, iv 856 0, iv 1 0, iv 0 0, iv 0 0, iv 3 0, .ref 895, .bool true, iv 181 0, .ref 896, .none, .none, .none, .ref 897, iv 1580 0, iv 856 0, sv "/claim/cut.py" 1581]
noncomputable def ob_899 (P : Params) : Obj := qf "law" "law" (tS 130) (.none) (sv "law_sz0093_03" 1523) 898
noncomputable def oc_0 (P : Params) : List Obj := [
 boot_o_0 P,
 boot_o_1 P,
 ob_2 P,
 ob_3 P,
 boot_o_4 P,
 boot_o_5 P,
 boot_o_6 P,
 boot_o_7 P,
 boot_o_8 P,
 boot_o_9 P,
 boot_o_10 P,
 qt [],
 { cls := .none, data := .fields #[iv 2 0, iv 0 0, .ref 20, iv 7 0, iv 0 0, .ref 40, iv 12 0, iv 0 0, .ref 59, iv 20 0, iv 0 0, .ref 121, iv 22 0, iv 0 0, .ref 128, iv 36 0, iv 0 0, .ref 135, iv 42 0, iv 0 0, .ref 142, iv 44 0, iv 0 0, .ref 147, iv 46 0, iv 0 0, .ref 154, iv 52 0, iv 0 0, .ref 161, iv 57 0, iv 0 0, .ref 168, iv 62 0, iv 0 0, .ref 175, iv 71 0, iv 0 0, .ref 182, iv 85 0, iv 0 0, .ref 203, iv 88 0, iv 0 0, .ref 210, iv 91 0, iv 0 0, .ref 217, iv 96 0, iv 0 0, .ref 224, iv 101 0, iv 0 0, .ref 231, iv 115 0, iv 0 0, .ref 238, iv 133 0, iv 0 0, .ref 245, iv 135 0, iv 0 0, .ref 252, iv 148 0, iv 0 0, .ref 259, iv 151 0, iv 0 0, .ref 266, iv 155 0, iv 0 0, .ref 273, iv 158 0, iv 0 0, .ref 280, iv 162 0, iv 0 0, .ref 287, iv 166 0, iv 0 0, .ref 294, iv 180 0, iv 0 0, .ref 301, iv 185 0, iv 0 0, .ref 308, iv 189 0, iv 0 0, .ref 313, iv 193 0, iv 0 0, .ref 320, iv 198 0, iv 0 0, .ref 327, iv 203 0, iv 0 0, .ref 334, iv 206 0, iv 0 0, .ref 341, iv 209 0, iv 0 0, .ref 348, iv 214 0, iv 0 0, .ref 355, iv 216 0, iv 0 0, .ref 362, iv 225 0, iv 0 0, .ref 369, iv 244 0, iv 0 0, .ref 376, iv 265 0, iv 0 0, .ref 384, iv 276 0, iv 0 0, .ref 392, iv 280 0, iv 0 0, .ref 400, iv 297 0, iv 0 0, .ref 407, iv 307 0, iv 0 0, .ref 430, iv 314 0, iv 0 0, .ref 451, iv 327 0, iv 0 0, .ref 486, iv 347 0, iv 0 0, .ref 493, iv 357 0, iv 0 0, .ref 500, iv 362 0, iv 0 0, .ref 507, iv 370 0, iv 0 0, .ref 514, iv 379 0, iv 0 0, .ref 521, iv 397 0, iv 0 0, .ref 528, iv 409 0, iv 0 0, .ref 536, iv 428 0, iv 0 0, .ref 571, iv 433 0, iv 0 0, .ref 578, iv 438 0, iv 0 0, .ref 585, iv 445 0, iv 0 0, .ref 592, iv 449 0, iv 0 0, .ref 597, iv 457 0, iv 0 0, .ref 602, iv 465 0, iv 0 0, .ref 607, iv 473 0, iv 0 0, .ref 614, iv 489 0, iv 0 0, .ref 621, iv 495 0, iv 0 0, .ref 628, iv 499 0, iv 0 0, .ref 635, iv 504 0, iv 0 0, .ref 642, iv 515 0, iv 0 0, .ref 649, iv 532 0, iv 0 0, .ref 656, iv 534 0, iv 0 0, .ref 663, iv 543 0, iv 0 0, .ref 670, iv 564 0, iv 0 0, .ref 681, iv 579 0, iv 0 0, .ref 688, iv 592 0, iv 0 0, .ref 695, iv 595 0, iv 0 0, .ref 702, iv 599 0, iv 0 0, .ref 707, iv 601 0, iv 0 0, .ref 714, iv 612 0, iv 0 0, .ref 721, iv 627 0, iv 0 0, .ref 728, iv 632 0, iv 0 0, .ref 735, iv 635 0, iv 0 0, .ref 742, iv 640 0, iv 0 0, .ref 749, iv 650 0, iv 0 0, .ref 754, iv 672 0, iv 0 0, .ref 770, iv 683 0, iv 0 0, .ref 775, iv 687 0, iv 0 0, .ref 782, iv 696 0, iv 0 0, .ref 789, iv 703 0, iv 0 0, .ref 796, iv 714 0, iv 0 0, .ref 803, iv 732 0, iv 0 0, .ref 810, iv 751 0, iv 0 0, .ref 817, iv 760 0, iv 0 0, .ref 824, iv 766 0, iv 0 0, .ref 831, iv 772 0, iv 0 0, .ref 838, iv 791 0, iv 0 0, .ref 845, iv 793 0, iv 0 0, .ref 852, iv 817 0, iv 0 0, .ref 857, iv 827 0, iv 0 0, .ref 864, iv 832 0, iv 0 0, .ref 872, iv 836 0, iv 0 0, .ref 879, iv 844 0, iv 0 0, .ref 886, iv 849 0, iv 0 0, .ref 893, iv 856 0, iv 0 0, .ref 898] },
 qc [sv "<module>" 182, sv "<module>" 183, sv "/claim/cut.py" 184, iv 1 0, iv 0 0, iv 0 0, iv 0 0, iv 0 0, .ref 11, .bool false, iv 181 0, .ref 12, .none, .none, .none, .none, iv 185 0, iv 1 0, sv "/claim/cut.py" 186],
 { cls := .type "frame", slots := #[some (.ref 13), some (.ref 3), some (.ref 3), none, some (sv "__main__" 164), none, some (.ref 0)] },
 ob_15 P,
 { cls := .type "builtin_function_or_method", data := .fields #[.builtin "type.__prepare__", .type "type"] },
 { cls := .type "dict", data := .dict #[qd P "__module__" 196 (sv "perlcore.errors" 187), qd P "__qualname__" 198 (sv "PerlError" 197), qd P "__firstlineno__" 200 (iv 2 199), qd P "__init__" 208 (.ref 28), qd P "__static_attributes__" 210 (.ref 29)] 5 },
 qt [],
 { cls := .none, data := .fields #[iv 4 0, iv 4 0, .ref 27] },
 qc [sv "PerlError" 191, sv "PerlError" 192, sv "/claim/cut.py" 193, iv 2 0, iv 0 0, iv 0 0, iv 0 0, iv 0 0, .ref 18, .bool false, iv 181 0, .ref 19, .none, .none, .none, .none, iv 194 0, iv 2 0, sv "/claim/cut.py" 195],
 { cls := .type "frame", slots := #[some (.ref 20), some (.ref 3), some (.ref 17), none, some (sv "perlcore.errors" 187), none, some (.ref 0)] },
 ob_22 P,
 { cls := .none, data := .fields #[] },
 ob_24 P,
 ob_25 P,
 qn "__init__" "PerlError.__init__" (cS 1 0),
 ob_27 P,
 ob_28 P,
 ob_29 P,
 ob_30 P,
 ob_31 P,
 ob_32 P,
 { cls := .type "super", data := .fields #[.ref 31, .ref 31, .ref 31] },
 { cls := .type "builtin_function_or_method", data := .fields #[.builtin "object.__init_subclass__", .ref 31] },
 ob_35 P,
 { cls := .type "builtin_function_or_method", data := .fields #[.builtin "type.__prepare__", .type "type"] },
 { cls := .type "dict", data := .dict #[qd P "__module__" 225 (sv "perlcore.errors" 187), qd P "__qualname__" 227 (sv "BadPattern" 226), qd P "__firstlineno__" 229 (iv 7 228), qd P "__init__" 238 (.ref 48), qd P "__static_attributes__" 240 (.ref 49)] 5 },
 qt [],
 { cls := .none, data := .fields #[iv 9 0, iv 4 0, .ref 47] }]
noncomputable def oc_1 (P : Params) : List Obj := [
 qc [sv "BadPattern" 220, sv "BadPattern" 221, sv "/claim/cut.py" 222, iv 7 0, iv 0 0, iv 0 0, iv 0 0, iv 0 0, .ref 38, .bool false, iv 181 0, .ref 39, .none, .none, .none, .none, iv 223 0, iv 7 0, sv "/claim/cut.py" 224],
 { cls := .type "frame", slots := #[some (.ref 40), some (.ref 3), some (.ref 37), none, some (sv "perlcore.errors" 187), none, some (.ref 0)] },
 ob_42 P,
 { cls := .none, data := .fields #[] },
 ob_44 P,
 ob_45 P,
 qn "__init__" "BadPattern.__init__" (cS 2 0),
 ob_47 P,
 ob_48 P,
 ob_49 P,
 ob_50 P,
 ob_51 P,
 { cls := .type "super", data := .fields #[.ref 51, .ref 51, .ref 51] },
 { cls := .type "builtin_function_or_method", data := .fields #[.builtin "object.__init_subclass__", .ref 51] },
 ob_54 P,
 { cls := .type "builtin_function_or_method", data := .fields #[.builtin "type.__prepare__", .type "type"] },
 { cls := .type "dict", data := .dict #[qd P "__module__" 251 (sv "perlcore.errors" 187), qd P "__qualname__" 253 (sv "TooLong" 252), qd P "__firstlineno__" 255 (iv 12 254), qd P "__init__" 263 (.ref 67), qd P "__static_attributes__" 265 (.ref 68)] 5 },
 qt [],
 { cls := .none, data := .fields #[iv 14 0, iv 4 0, .ref 66] },
 qc [sv "TooLong" 246, sv "TooLong" 247, sv "/claim/cut.py" 248, iv 12 0, iv 0 0, iv 0 0, iv 0 0, iv 0 0, .ref 57, .bool false, iv 181 0, .ref 58, .none, .none, .none, .none, iv 249 0, iv 12 0, sv "/claim/cut.py" 250],
 { cls := .type "frame", slots := #[some (.ref 59), some (.ref 3), some (.ref 56), none, some (sv "perlcore.errors" 187), none, some (.ref 0)] },
 ob_61 P,
 { cls := .none, data := .fields #[] },
 ob_63 P,
 ob_64 P,
 qn "__init__" "TooLong.__init__" (cS 3 0),
 ob_66 P,
 ob_67 P,
 ob_68 P,
 ob_69 P,
 ob_70 P,
 { cls := .type "super", data := .fields #[.ref 70, .ref 70, .ref 70] },
 { cls := .type "builtin_function_or_method", data := .fields #[.builtin "object.__init_subclass__", .ref 70] },
 ob_73 P,
 ob_74 P,
 ob_75 P,
 ob_76 P,
 ob_77 P,
 ob_78 P,
 ob_79 P]
noncomputable def oc_2 (P : Params) : List Obj := [
 ob_80 P,
 ob_81 P,
 ob_82 P,
 ob_83 P,
 ob_84 P,
 ob_85 P,
 ob_86 P,
 ob_87 P,
 ob_88 P,
 ob_89 P,
 ob_90 P,
 ob_91 P,
 ob_92 P,
 ob_93 P,
 ob_94 P,
 ob_95 P,
 ob_96 P,
 ob_97 P,
 ob_98 P,
 ob_99 P,
 ob_100 P,
 ob_101 P,
 ob_102 P,
 ob_103 P,
 ob_104 P,
 ob_105 P,
 ob_106 P,
 ob_107 P,
 ob_108 P,
 ob_109 P,
 ob_110 P,
 ob_111 P,
 ob_112 P,
 ob_113 P,
 ob_114 P,
 ob_115 P,
 ob_116 P,
 { cls := .none, data := .fields #[] },
 ob_118 P,
 ob_119 P]
noncomputable def oc_3 (P : Params) : List Obj := [
 qn "is_word_sign" "is_word_sign" (tS 7),
 ob_121 P,
 ob_122 P,
 ob_123 P,
 { cls := .none, data := .fields #[] },
 ob_125 P,
 ob_126 P,
 qn "in_class" "in_class" (tS 8),
 ob_128 P,
 ob_129 P,
 ob_130 P,
 { cls := .none, data := .fields #[] },
 ob_132 P,
 ob_133 P,
 qn "other_case" "other_case" (tS 9),
 ob_135 P,
 ob_136 P,
 ob_137 P,
 { cls := .none, data := .fields #[] },
 ob_139 P,
 ob_140 P,
 qn "same_sign" "same_sign" (tS 10),
 ob_142 P,
 ob_143 P,
 ob_144 P,
 { cls := .none, data := .fields #[] },
 qn "posix_items" "posix_items" (tS 11),
 ob_147 P,
 ob_148 P,
 ob_149 P,
 { cls := .none, data := .fields #[] },
 ob_151 P,
 ob_152 P,
 qn "item_holds" "item_holds" (tS 12),
 ob_154 P,
 ob_155 P,
 ob_156 P,
 { cls := .none, data := .fields #[] },
 ob_158 P,
 ob_159 P]
noncomputable def oc_4 (P : Params) : List Obj := [
 qn "items_hold" "items_hold" (tS 13),
 ob_161 P,
 ob_162 P,
 ob_163 P,
 { cls := .none, data := .fields #[] },
 ob_165 P,
 ob_166 P,
 qn "set_holds" "set_holds" (tS 14),
 ob_168 P,
 ob_169 P,
 ob_170 P,
 { cls := .none, data := .fields #[] },
 ob_172 P,
 ob_173 P,
 qn "sign_fits" "sign_fits" (tS 15),
 ob_175 P,
 ob_176 P,
 qt [],
 { cls := .type "builtin_function_or_method", data := .fields #[.builtin "type.__prepare__", .type "type"] },
 { cls := .type "dict", data := .dict #[qd P "__module__" 445 (sv "perlcore.rematch" 432), qd P "__qualname__" 447 (sv "MatchRun" 446), qd P "__firstlineno__" 449 (iv 71 448), qd P "__init__" 461 (.ref 190), qd P "__static_attributes__" 473 (.ref 191)] 5 },
 qt [],
 { cls := .none, data := .fields #[iv 73 0, iv 4 0, .ref 189] },
 qc [sv "MatchRun" 440, sv "MatchRun" 441, sv "/claim/cut.py" 442, iv 71 0, iv 0 0, iv 0 0, iv 0 0, iv 0 0, .ref 180, .bool false, iv 181 0, .ref 181, .none, .none, .none, .none, iv 443 0, iv 71 0, sv "/claim/cut.py" 444],
 { cls := .type "frame", slots := #[some (.ref 182), some (.ref 3), some (.ref 179), none, some (sv "perlcore.rematch" 432), none, some (.ref 0)] },
 ob_184 P,
 { cls := .none, data := .fields #[] },
 ob_186 P,
 ob_187 P,
 qn "__init__" "MatchRun.__init__" (cS 19 0),
 ob_189 P,
 ob_190 P,
 ob_191 P,
 ob_192 P,
 ob_193 P,
 ob_194 P,
 ob_195 P,
 { cls := .type "super", data := .fields #[.ref 193, .ref 193, .ref 193] },
 { cls := .type "builtin_function_or_method", data := .fields #[.builtin "object.__init_subclass__", .ref 193] },
 ob_198 P,
 { cls := .none, data := .fields #[] }]
noncomputable def oc_5 (P : Params) : List Obj := [
 ob_200 P,
 ob_201 P,
 qn "set_register" "set_register" (tS 20),
 ob_203 P,
 ob_204 P,
 ob_205 P,
 { cls := .none, data := .fields #[] },
 ob_207 P,
 ob_208 P,
 qn "go_on" "go_on" (tS 21),
 ob_210 P,
 ob_211 P,
 ob_212 P,
 { cls := .none, data := .fields #[] },
 ob_214 P,
 ob_215 P,
 qn "row_test" "row_test" (tS 22),
 ob_217 P,
 ob_218 P,
 ob_219 P,
 { cls := .none, data := .fields #[] },
 ob_221 P,
 ob_222 P,
 qn "run_end" "run_end" (tS 23),
 ob_224 P,
 ob_225 P,
 ob_226 P,
 { cls := .none, data := .fields #[] },
 ob_228 P,
 ob_229 P,
 qn "row_run" "row_run" (tS 24),
 ob_231 P,
 ob_232 P,
 ob_233 P,
 { cls := .none, data := .fields #[] },
 ob_235 P,
 ob_236 P,
 qn "place_holds" "place_holds" (tS 25),
 ob_238 P,
 ob_239 P]
noncomputable def oc_6 (P : Params) : List Obj := [
 ob_240 P,
 { cls := .none, data := .fields #[] },
 ob_242 P,
 ob_243 P,
 qn "row_at" "row_at" (tS 26),
 ob_245 P,
 ob_246 P,
 ob_247 P,
 { cls := .none, data := .fields #[] },
 ob_249 P,
 ob_250 P,
 qn "row_back" "row_back" (tS 27),
 ob_252 P,
 ob_253 P,
 ob_254 P,
 { cls := .none, data := .fields #[] },
 ob_256 P,
 ob_257 P,
 qn "row_open" "row_open" (tS 28),
 ob_259 P,
 ob_260 P,
 ob_261 P,
 { cls := .none, data := .fields #[] },
 ob_263 P,
 ob_264 P,
 qn "row_close" "row_close" (tS 29),
 ob_266 P,
 ob_267 P,
 ob_268 P,
 { cls := .none, data := .fields #[] },
 ob_270 P,
 ob_271 P,
 qn "row_jump" "row_jump" (tS 30),
 ob_273 P,
 ob_274 P,
 ob_275 P,
 { cls := .none, data := .fields #[] },
 ob_277 P,
 ob_278 P,
 qn "row_split" "row_split" (tS 31)]
noncomputable def oc_7 (P : Params) : List Obj := [
 ob_280 P,
 ob_281 P,
 ob_282 P,
 { cls := .none, data := .fields #[] },
 ob_284 P,
 ob_285 P,
 qn "row_zero" "row_zero" (tS 32),
 ob_287 P,
 ob_288 P,
 ob_289 P,
 { cls := .none, data := .fields #[] },
 ob_291 P,
 ob_292 P,
 qn "row_loop" "row_loop" (tS 33),
 ob_294 P,
 ob_295 P,
 ob_296 P,
 { cls := .none, data := .fields #[] },
 ob_298 P,
 ob_299 P,
 qn "row_again" "row_again" (tS 34),
 ob_301 P,
 ob_302 P,
 ob_303 P,
 { cls := .none, data := .fields #[] },
 ob_305 P,
 ob_306 P,
 qn "row_mark" "row_mark" (tS 35),
 ob_308 P,
 ob_309 P,
 ob_310 P,
 { cls := .none, data := .fields #[] },
 qn "row_cut" "row_cut" (tS 36),
 ob_313 P,
 ob_314 P,
 ob_315 P,
 { cls := .none, data := .fields #[] },
 ob_317 P,
 ob_318 P,
 qn "undo_entry" "undo_entry" (tS 37)]
noncomputable def oc_8 (P : Params) : List Obj := [
 ob_320 P,
 ob_321 P,
 ob_322 P,
 { cls := .none, data := .fields #[] },
 ob_324 P,
 ob_325 P,
 qn "row_refuse" "row_refuse" (tS 38),
 ob_327 P,
 ob_328 P,
 ob_329 P,
 { cls := .none, data := .fields #[] },
 ob_331 P,
 ob_332 P,
 qn "row_place" "row_place" (tS 39),
 ob_334 P,
 ob_335 P,
 ob_336 P,
 { cls := .none, data := .fields #[] },
 ob_338 P,
 ob_339 P,
 qn "row_return" "row_return" (tS 40),
 ob_341 P,
 ob_342 P,
 ob_343 P,
 { cls := .none, data := .fields #[] },
 ob_345 P,
 ob_346 P,
 qn "row_behind" "row_behind" (tS 41),
 ob_348 P,
 ob_349 P,
 ob_350 P,
 { cls := .none, data := .fields #[] },
 ob_352 P,
 ob_353 P,
 qn "row_words" "row_words" (tS 42),
 ob_355 P,
 ob_356 P,
 ob_357 P,
 { cls := .none, data := .fields #[] },
 ob_359 P]
noncomputable def oc_9 (P : Params) : List Obj := [
 ob_360 P,
 qn "take_more" "take_more" (tS 43),
 ob_362 P,
 ob_363 P,
 ob_364 P,
 { cls := .none, data := .fields #[] },
 ob_366 P,
 ob_367 P,
 qn "back_up" "back_up" (tS 44),
 ob_369 P,
 ob_370 P,
 ob_371 P,
 { cls := .none, data := .fields #[] },
 ob_373 P,
 ob_374 P,
 qn "match_from" "match_from" (tS 45),
 ob_376 P,
 ob_377 P,
 ob_378 P,
 ob_379 P,
 { cls := .none, data := .fields #[] },
 ob_381 P,
 ob_382 P,
 qn "search_pattern" "search_pattern" (tS 46),
 ob_384 P,
 ob_385 P,
 ob_386 P,
 ob_387 P,
 { cls := .none, data := .fields #[] },
 ob_389 P,
 ob_390 P,
 qn "next_match" "next_match" (tS 48),
 ob_392 P,
 ob_393 P,
 ob_394 P,
 ob_395 P,
 { cls := .none, data := .fields #[] },
 ob_397 P,
 ob_398 P,
 qn "substitute" "substitute" (tS 49)]
noncomputable def oc_10 (P : Params) : List Obj := [
 ob_400 P,
 ob_401 P,
 qt [],
 { cls := .type "builtin_function_or_method", data := .fields #[.builtin "type.__prepare__", .type "type"] },
 { cls := .type "dict", data := .dict #[qd P "__module__" 780 (sv "perlcore.limits" 771), qd P "__qualname__" 782 (sv "Limits" 781), qd P "__firstlineno__" 784 (iv 297 783), qd P "__init__" 807 (.ref 416), qd P "__static_attributes__" 813 (.ref 417)] 5 },
 qt [],
 { cls := .none, data := .fields #[iv 299 0, iv 4 0, .ref 415] },
 qc [sv "Limits" 775, sv "Limits" 776, sv "/claim/cut.py" 777, iv 297 0, iv 0 0, iv 0 0, iv 0 0, iv 0 0, .ref 405, .bool false, iv 181 0, .ref 406, .none, .none, .none, .none, iv 778 0, iv 297 0, sv "/claim/cut.py" 779],
 { cls := .type "frame", slots := #[some (.ref 407), some (.ref 3), some (.ref 404), none, some (sv "perlcore.limits" 771), none, some (.ref 0)] },
 ob_409 P,
 ob_410 P,
 { cls := .none, data := .fields #[] },
 ob_412 P,
 ob_413 P,
 qn "__init__" "Limits.__init__" (cS 51 0),
 ob_415 P,
 ob_416 P,
 ob_417 P,
 ob_418 P,
 ob_419 P,
 ob_420 P,
 ob_421 P,
 { cls := .type "super", data := .fields #[.ref 419, .ref 419, .ref 419] },
 { cls := .type "builtin_function_or_method", data := .fields #[.builtin "object.__init_subclass__", .ref 419] },
 ob_424 P,
 qt [],
 { cls := .type "builtin_function_or_method", data := .fields #[.builtin "type.__prepare__", .type "type"] },
 { cls := .type "dict", data := .dict #[qd P "__module__" 834 (sv "perlcore.recompile" 821), qd P "__qualname__" 836 (sv "Program" 835), qd P "__firstlineno__" 838 (iv 307 837), qd P "__init__" 849 (.ref 438), qd P "__static_attributes__" 854 (.ref 439)] 5 },
 qt [],
 { cls := .none, data := .fields #[iv 309 0, iv 4 0, .ref 437] },
 qc [sv "Program" 829, sv "Program" 830, sv "/claim/cut.py" 831, iv 307 0, iv 0 0, iv 0 0, iv 0 0, iv 0 0, .ref 428, .bool false, iv 181 0, .ref 429, .none, .none, .none, .none, iv 832 0, iv 307 0, sv "/claim/cut.py" 833],
 { cls := .type "frame", slots := #[some (.ref 430), some (.ref 3), some (.ref 427), none, some (sv "perlcore.recompile" 821), none, some (.ref 0)] },
 ob_432 P,
 { cls := .none, data := .fields #[] },
 ob_434 P,
 ob_435 P,
 qn "__init__" "Program.__init__" (cS 54 0),
 ob_437 P,
 ob_438 P,
 ob_439 P]
noncomputable def oc_11 (P : Params) : List Obj := [
 ob_440 P,
 ob_441 P,
 ob_442 P,
 ob_443 P,
 { cls := .type "super", data := .fields #[.ref 441, .ref 441, .ref 441] },
 { cls := .type "builtin_function_or_method", data := .fields #[.builtin "object.__init_subclass__", .ref 441] },
 qt [],
 { cls := .type "builtin_function_or_method", data := .fields #[.builtin "type.__prepare__", .type "type"] },
 { cls := .type "dict", data := .dict #[qd P "__module__" 869 (sv "perlcore.recompile" 821), qd P "__qualname__" 871 (sv "RowMaker" 870), qd P "__firstlineno__" 873 (iv 314 872), qd P "__init__" 880 (.ref 459), qd P "add" 888 (.ref 466), qd P "fresh" 895 (.ref 473), qd P "__static_attributes__" 898 (.ref 474)] 7 },
 qt [],
 { cls := .none, data := .fields #[iv 316 0, iv 4 0, .ref 458, iv 320 0, iv 4 0, .ref 465, iv 324 0, iv 4 0, .ref 472] },
 qc [sv "RowMaker" 864, sv "RowMaker" 865, sv "/claim/cut.py" 866, iv 314 0, iv 0 0, iv 0 0, iv 0 0, iv 0 0, .ref 449, .bool false, iv 181 0, .ref 450, .none, .none, .none, .none, iv 867 0, iv 314 0, sv "/claim/cut.py" 868],
 { cls := .type "frame", slots := #[some (.ref 451), some (.ref 3), some (.ref 448), none, some (sv "perlcore.recompile" 821), none, some (.ref 0)] },
 ob_453 P,
 { cls := .none, data := .fields #[] },
 ob_455 P,
 ob_456 P,
 qn "__init__" "RowMaker.__init__" (cS 55 0),
 ob_458 P,
 ob_459 P,
 ob_460 P,
 { cls := .none, data := .fields #[] },
 ob_462 P,
 ob_463 P,
 qn "add" "RowMaker.add" (cS 55 1),
 ob_465 P,
 ob_466 P,
 ob_467 P,
 { cls := .none, data := .fields #[] },
 ob_469 P,
 ob_470 P,
 qn "fresh" "RowMaker.fresh" (cS 55 2),
 ob_472 P,
 ob_473 P,
 ob_474 P,
 ob_475 P,
 ob_476 P,
 ob_477 P,
 ob_478 P,
 { cls := .type "super", data := .fields #[.ref 476, .ref 476, .ref 476] }]
noncomputable def oc_12 (P : Params) : List Obj := [
 { cls := .type "builtin_function_or_method", data := .fields #[.builtin "object.__init_subclass__", .ref 476] },
 ob_481 P,
 { cls := .none, data := .fields #[] },
 ob_483 P,
 ob_484 P,
 qn "add_node" "add_node" (tS 56),
 ob_486 P,
 ob_487 P,
 ob_488 P,
 { cls := .none, data := .fields #[] },
 ob_490 P,
 ob_491 P,
 qn "add_branches" "add_branches" (tS 57),
 ob_493 P,
 ob_494 P,
 ob_495 P,
 { cls := .none, data := .fields #[] },
 ob_497 P,
 ob_498 P,
 qn "add_atomic" "add_atomic" (tS 58),
 ob_500 P,
 ob_501 P,
 ob_502 P,
 { cls := .none, data := .fields #[] },
 ob_504 P,
 ob_505 P,
 qn "add_repeats" "add_repeats" (tS 59),
 ob_507 P,
 ob_508 P,
 ob_509 P,
 { cls := .none, data := .fields #[] },
 ob_511 P,
 ob_512 P,
 qn "add_loop" "add_loop" (tS 60),
 ob_514 P,
 ob_515 P,
 ob_516 P,
 { cls := .none, data := .fields #[] },
 ob_518 P,
 ob_519 P]
noncomputable def oc_13 (P : Params) : List Obj := [
 qn "add_look" "add_look" (tS 61),
 ob_521 P,
 ob_522 P,
 ob_523 P,
 { cls := .none, data := .fields #[] },
 ob_525 P,
 ob_526 P,
 qn "compile_tree" "compile_tree" (tS 62),
 ob_528 P,
 ob_529 P,
 ob_530 P,
 qt [],
 { cls := .type "builtin_function_or_method", data := .fields #[.builtin "type.__prepare__", .type "type"] },
 { cls := .type "dict", data := .dict #[qd P "__module__" 1030 (sv "perlcore.reescape" 992), qd P "__qualname__" 1032 (sv "PatternText" 1031), qd P "__firstlineno__" 1034 (iv 409 1033), qd P "__init__" 1043 (.ref 544), qd P "peek" 1050 (.ref 551), qd P "skips" 1058 (.ref 558), qd P "__static_attributes__" 1066 (.ref 559)] 7 },
 qt [],
 { cls := .none, data := .fields #[iv 411 0, iv 4 0, .ref 543, iv 420 0, iv 4 0, .ref 550, iv 423 0, iv 4 0, .ref 557] },
 qc [sv "PatternText" 1025, sv "PatternText" 1026, sv "/claim/cut.py" 1027, iv 409 0, iv 0 0, iv 0 0, iv 0 0, iv 0 0, .ref 534, .bool false, iv 181 0, .ref 535, .none, .none, .none, .none, iv 1028 0, iv 409 0, sv "/claim/cut.py" 1029],
 { cls := .type "frame", slots := #[some (.ref 536), some (.ref 3), some (.ref 533), none, some (sv "perlcore.reescape" 992), none, some (.ref 0)] },
 ob_538 P,
 { cls := .none, data := .fields #[] },
 ob_540 P,
 ob_541 P,
 qn "__init__" "PatternText.__init__" (cS 70 0),
 ob_543 P,
 ob_544 P,
 ob_545 P,
 { cls := .none, data := .fields #[] },
 ob_547 P,
 ob_548 P,
 qn "peek" "PatternText.peek" (cS 70 1),
 ob_550 P,
 ob_551 P,
 ob_552 P,
 { cls := .none, data := .fields #[] },
 ob_554 P,
 ob_555 P,
 qn "skips" "PatternText.skips" (cS 70 2),
 ob_557 P,
 ob_558 P,
 ob_559 P]
noncomputable def oc_14 (P : Params) : List Obj := [
 ob_560 P,
 ob_561 P,
 ob_562 P,
 ob_563 P,
 { cls := .type "super", data := .fields #[.ref 561, .ref 561, .ref 561] },
 { cls := .type "builtin_function_or_method", data := .fields #[.builtin "object.__init_subclass__", .ref 561] },
 ob_566 P,
 { cls := .none, data := .fields #[] },
 ob_568 P,
 ob_569 P,
 qn "run_of" "run_of" (tS 71),
 ob_571 P,
 ob_572 P,
 ob_573 P,
 { cls := .none, data := .fields #[] },
 ob_575 P,
 ob_576 P,
 qn "number_of_run" "number_of_run" (tS 72),
 ob_578 P,
 ob_579 P,
 ob_580 P,
 { cls := .none, data := .fields #[] },
 ob_582 P,
 ob_583 P,
 qn "until_sign" "until_sign" (tS 73),
 ob_585 P,
 ob_586 P,
 ob_587 P,
 { cls := .none, data := .fields #[] },
 ob_589 P,
 ob_590 P,
 qn "sign_of_code" "sign_of_code" (tS 74),
 ob_592 P,
 ob_593 P,
 ob_594 P,
 { cls := .none, data := .fields #[] },
 qn "read_hex_sign" "read_hex_sign" (tS 75),
 ob_597 P,
 ob_598 P,
 ob_599 P]
noncomputable def oc_15 (P : Params) : List Obj := [
 { cls := .none, data := .fields #[] },
 qn "read_octal_sign" "read_octal_sign" (tS 76),
 ob_602 P,
 ob_603 P,
 ob_604 P,
 { cls := .none, data := .fields #[] },
 qn "read_named_sign" "read_named_sign" (tS 77),
 ob_607 P,
 ob_608 P,
 ob_609 P,
 { cls := .none, data := .fields #[] },
 ob_611 P,
 ob_612 P,
 qn "read_plain_escape" "read_plain_escape" (tS 78),
 ob_614 P,
 ob_615 P,
 ob_616 P,
 { cls := .none, data := .fields #[] },
 ob_618 P,
 ob_619 P,
 qn "read_control" "read_control" (tS 79),
 ob_621 P,
 ob_622 P,
 ob_623 P,
 { cls := .none, data := .fields #[] },
 ob_625 P,
 ob_626 P,
 qn "signs_end" "signs_end" (tS 80),
 ob_628 P,
 ob_629 P,
 ob_630 P,
 { cls := .none, data := .fields #[] },
 ob_632 P,
 ob_633 P,
 qn "posix_end" "posix_end" (tS 81),
 ob_635 P,
 ob_636 P,
 ob_637 P,
 { cls := .none, data := .fields #[] },
 ob_639 P]
noncomputable def oc_16 (P : Params) : List Obj := [
 ob_640 P,
 qn "read_posix" "read_posix" (tS 82),
 ob_642 P,
 ob_643 P,
 ob_644 P,
 { cls := .none, data := .fields #[] },
 ob_646 P,
 ob_647 P,
 qn "read_member" "read_member" (tS 83),
 ob_649 P,
 ob_650 P,
 ob_651 P,
 { cls := .none, data := .fields #[] },
 ob_653 P,
 ob_654 P,
 qn "is_one_sign" "is_one_sign" (tS 84),
 ob_656 P,
 ob_657 P,
 ob_658 P,
 { cls := .none, data := .fields #[] },
 ob_660 P,
 ob_661 P,
 qn "read_range_end" "read_range_end" (tS 85),
 ob_663 P,
 ob_664 P,
 ob_665 P,
 { cls := .none, data := .fields #[] },
 ob_667 P,
 ob_668 P,
 qn "read_set" "read_set" (tS 86),
 ob_670 P,
 ob_671 P,
 ob_672 P,
 ob_673 P,
 ob_674 P,
 ob_675 P,
 ob_676 P,
 { cls := .none, data := .fields #[] },
 ob_678 P,
 ob_679 P]
noncomputable def oc_17 (P : Params) : List Obj := [
 qn "count_groups" "count_groups" (tS 91),
 ob_681 P,
 ob_682 P,
 ob_683 P,
 { cls := .none, data := .fields #[] },
 ob_685 P,
 ob_686 P,
 qn "behind_set" "behind_set" (tS 92),
 ob_688 P,
 ob_689 P,
 ob_690 P,
 { cls := .none, data := .fields #[] },
 ob_692 P,
 ob_693 P,
 qn "behind_posix" "behind_posix" (tS 93),
 ob_695 P,
 ob_696 P,
 ob_697 P,
 { cls := .none, data := .fields #[] },
 ob_699 P,
 ob_700 P,
 qn "opens_capture" "opens_capture" (tS 94),
 ob_702 P,
 ob_703 P,
 ob_704 P,
 { cls := .none, data := .fields #[] },
 qn "is_name_text" "is_name_text" (tS 95),
 ob_707 P,
 ob_708 P,
 ob_709 P,
 { cls := .none, data := .fields #[] },
 ob_711 P,
 ob_712 P,
 qn "braces_count" "braces_count" (tS 96),
 ob_714 P,
 ob_715 P,
 ob_716 P,
 { cls := .none, data := .fields #[] },
 ob_718 P,
 ob_719 P]
noncomputable def oc_18 (P : Params) : List Obj := [
 qn "take_count" "take_count" (tS 97),
 ob_721 P,
 ob_722 P,
 ob_723 P,
 { cls := .none, data := .fields #[] },
 ob_725 P,
 ob_726 P,
 qn "read_name" "read_name" (tS 98),
 ob_728 P,
 ob_729 P,
 ob_730 P,
 { cls := .none, data := .fields #[] },
 ob_732 P,
 ob_733 P,
 qn "speak_of" "speak_of" (tS 99),
 ob_735 P,
 ob_736 P,
 ob_737 P,
 { cls := .none, data := .fields #[] },
 ob_739 P,
 ob_740 P,
 qn "read_named_back" "read_named_back" (tS 100),
 ob_742 P,
 ob_743 P,
 ob_744 P,
 { cls := .none, data := .fields #[] },
 ob_746 P,
 ob_747 P,
 qn "read_numbered_back" "read_numbered_back" (tS 101),
 ob_749 P,
 ob_750 P,
 ob_751 P,
 { cls := .none, data := .fields #[] },
 qn "width_of" "width_of" (tS 102),
 ob_754 P,
 ob_755 P,
 ob_756 P,
 ob_757 P,
 ob_758 P,
 ob_759 P]
noncomputable def oc_19 (P : Params) : List Obj := [
 ob_760 P,
 ob_761 P,
 ob_762 P,
 ob_763 P,
 ob_764 P,
 ob_765 P,
 { cls := .none, data := .fields #[] },
 ob_767 P,
 ob_768 P,
 qn "skip_unseen" "skip_unseen" (tS 108),
 ob_770 P,
 ob_771 P,
 ob_772 P,
 { cls := .none, data := .fields #[] },
 qn "read_flags" "read_flags" (tS 109),
 ob_775 P,
 ob_776 P,
 ob_777 P,
 { cls := .none, data := .fields #[] },
 ob_779 P,
 ob_780 P,
 qn "read_inline" "read_inline" (tS 110),
 ob_782 P,
 ob_783 P,
 ob_784 P,
 { cls := .none, data := .fields #[] },
 ob_786 P,
 ob_787 P,
 qn "read_alternation" "read_alternation" (tS 111),
 ob_789 P,
 ob_790 P,
 ob_791 P,
 { cls := .none, data := .fields #[] },
 ob_793 P,
 ob_794 P,
 qn "read_branch" "read_branch" (tS 112),
 ob_796 P,
 ob_797 P,
 ob_798 P,
 { cls := .none, data := .fields #[] }]
noncomputable def oc_20 (P : Params) : List Obj := [
 ob_800 P,
 ob_801 P,
 qn "read_atom" "read_atom" (tS 113),
 ob_803 P,
 ob_804 P,
 ob_805 P,
 { cls := .none, data := .fields #[] },
 ob_807 P,
 ob_808 P,
 qn "read_counted" "read_counted" (tS 114),
 ob_810 P,
 ob_811 P,
 ob_812 P,
 { cls := .none, data := .fields #[] },
 ob_814 P,
 ob_815 P,
 qn "read_inner" "read_inner" (tS 115),
 ob_817 P,
 ob_818 P,
 ob_819 P,
 { cls := .none, data := .fields #[] },
 ob_821 P,
 ob_822 P,
 qn "read_capture" "read_capture" (tS 116),
 ob_824 P,
 ob_825 P,
 ob_826 P,
 { cls := .none, data := .fields #[] },
 ob_828 P,
 ob_829 P,
 qn "read_look" "read_look" (tS 117),
 ob_831 P,
 ob_832 P,
 ob_833 P,
 { cls := .none, data := .fields #[] },
 ob_835 P,
 ob_836 P,
 qn "read_group" "read_group" (tS 118),
 ob_838 P,
 ob_839 P]
noncomputable def oc_21 (P : Params) : List Obj := [
 ob_840 P,
 { cls := .none, data := .fields #[] },
 ob_842 P,
 ob_843 P,
 qn "is_sign_told" "is_sign_told" (tS 119),
 ob_845 P,
 ob_846 P,
 ob_847 P,
 { cls := .none, data := .fields #[] },
 ob_849 P,
 ob_850 P,
 qn "read_escape" "read_escape" (tS 120),
 ob_852 P,
 ob_853 P,
 ob_854 P,
 { cls := .none, data := .fields #[] },
 qn "parse_pattern" "parse_pattern" (tS 121),
 ob_857 P,
 ob_858 P,
 ob_859 P,
 { cls := .none, data := .fields #[] },
 ob_861 P,
 ob_862 P,
 qn "compile_pattern" "compile_pattern" (tS 123),
 ob_864 P,
 ob_865 P,
 ob_866 P,
 ob_867 P,
 { cls := .none, data := .fields #[] },
 ob_869 P,
 ob_870 P,
 qn "_law_shake" "_law_shake" (tS 126),
 ob_872 P,
 ob_873 P,
 ob_874 P,
 { cls := .none, data := .fields #[] },
 ob_876 P,
 ob_877 P,
 qn "_law_grown" "_law_grown" (tS 127),
 ob_879 P]
noncomputable def oc_22 (P : Params) : List Obj := [
 ob_880 P,
 ob_881 P,
 { cls := .none, data := .fields #[] },
 ob_883 P,
 ob_884 P,
 qn "_law_odd" "_law_odd" (tS 128),
 ob_886 P,
 ob_887 P,
 ob_888 P,
 { cls := .none, data := .fields #[] },
 ob_890 P,
 ob_891 P,
 qn "_law_has_thrice" "_law_has_thrice" (tS 129),
 ob_893 P,
 ob_894 P,
 ob_895 P,
 { cls := .none, data := .fields #[] },
 qn "law" "law" (tS 130),
 ob_898 P,
 ob_899 P]
noncomputable def HL (P : Params) : List Obj := oc_0 P ++ (oc_1 P ++ (oc_2 P ++ (oc_3 P ++ (oc_4 P ++ (oc_5 P ++ (oc_6 P ++ (oc_7 P ++ (oc_8 P ++ (oc_9 P ++ (oc_10 P ++ (oc_11 P ++ (oc_12 P ++ (oc_13 P ++ (oc_14 P ++ (oc_15 P ++ (oc_16 P ++ (oc_17 P ++ (oc_18 P ++ (oc_19 P ++ (oc_20 P ++ (oc_21 P ++ (oc_22 P))))))))))))))))))))))
noncomputable def HF (P : Params) : Heap := ⟨(HL P).toArray, (boot_heap P).life⟩
noncomputable def kas : List Nat := [2, 3, 15, 22, 24, 25, 27, 28, 29, 30, 31, 32, 35, 42, 44, 45, 47, 48, 49, 50, 51, 54, 61, 63, 64, 66, 67, 68, 69, 70, 73, 74, 75, 76, 77, 78, 79, 80, 81, 82, 83, 84, 85, 86, 87, 88, 89, 90, 91, 92, 93, 94, 95, 96, 97, 98, 99, 100, 101, 102, 103, 104, 105, 106, 107, 108, 109, 110, 111, 112, 113, 114, 115, 116, 118, 119, 121, 122, 123, 125, 126, 128, 129, 130, 132, 133, 135, 136, 137, 139, 140, 142, 143, 144, 147, 148, 149, 151, 152, 154, 155, 156, 158, 159, 161, 162, 163, 165, 166, 168, 169, 170, 172, 173, 175, 176, 184, 186, 187, 189, 190, 191, 192, 193, 194, 195, 198, 200, 201, 203, 204, 205, 207, 208, 210, 211, 212, 214, 215, 217, 218, 219, 221, 222, 224, 225, 226, 228, 229, 231, 232, 233, 235, 236, 238, 239, 240, 242, 243, 245, 246, 247, 249, 250, 252, 253, 254, 256, 257, 259, 260, 261, 263, 264, 266, 267, 268, 270, 271, 273, 274, 275, 277, 278, 280, 281, 282, 284, 285, 287, 288, 289, 291, 292, 294, 295, 296, 298, 299, 301, 302, 303, 305, 306, 308, 309, 310, 313, 314, 315, 317, 318, 320, 321, 322, 324, 325, 327, 328, 329, 331, 332, 334, 335, 336, 338, 339, 341, 342, 343, 345, 346, 348, 349, 350, 352, 353, 355, 356, 357, 359, 360, 362, 363, 364, 366, 367, 369, 370, 371, 373, 374, 376, 377, 378, 379, 381, 382, 384, 385, 386, 387, 389, 390, 392, 393, 394, 395, 397, 398, 400, 401, 409, 410, 412, 413, 415, 416, 417, 418, 419, 420, 421, 424, 432, 434, 435, 437, 438, 439, 440, 441, 442, 443, 453, 455, 456, 458, 459, 460, 462, 463, 465, 466, 467, 469, 470, 472, 473, 474, 475, 476, 477, 478, 481, 483, 484, 486, 487, 488, 490, 491, 493, 494, 495, 497, 498, 500, 501, 502, 504, 505, 507, 508, 509, 511, 512, 514, 515, 516, 518, 519, 521, 522, 523, 525, 526, 528, 529, 530, 538, 540, 541, 543, 544, 545, 547, 548, 550, 551, 552, 554, 555, 557, 558, 559, 560, 561, 562, 563, 566, 568, 569, 571, 572, 573, 575, 576, 578, 579, 580, 582, 583, 585, 586, 587, 589, 590, 592, 593, 594, 597, 598, 599, 602, 603, 604, 607, 608, 609, 611, 612, 614, 615, 616, 618, 619, 621, 622, 623, 625, 626, 628, 629, 630, 632, 633, 635, 636, 637, 639, 640, 642, 643, 644, 646, 647, 649, 650, 651, 653, 654, 656, 657, 658, 660, 661, 663, 664, 665, 667, 668, 670, 671, 672, 673, 674, 675, 676, 678, 679, 681, 682, 683, 685, 686, 688, 689, 690, 692, 693, 695, 696, 697, 699, 700, 702, 703, 704, 707, 708, 709, 711, 712, 714, 715, 716, 718, 719, 721, 722, 723, 725, 726, 728, 729, 730, 732, 733, 735, 736, 737, 739, 740, 742, 743, 744, 746, 747, 749, 750, 751, 754, 755, 756, 757, 758, 759, 760, 761, 762, 763, 764, 765, 767, 768, 770, 771, 772, 775, 776, 777, 779, 780, 782, 783, 784, 786, 787, 789, 790, 791, 793, 794, 796, 797, 798, 800, 801, 803, 804, 805, 807, 808, 810, 811, 812, 814, 815, 817, 818, 819, 821, 822, 824, 825, 826, 828, 829, 831, 832, 833, 835, 836, 838, 839, 840, 842, 843, 845, 846, 847, 849, 850, 852, 853, 854, 857, 858, 859, 861, 862, 864, 865, 866, 867, 869, 870, 872, 873, 874, 876, 877, 879, 880, 881, 883, 884, 886, 887, 888, 890, 891, 893, 894, 895, 898, 899]
noncomputable def K : Params → Frag := fun P => (nat_lit 2, ob_2 P) :: (nat_lit 3, ob_3 P) :: (nat_lit 15, ob_15 P) :: (nat_lit 22, ob_22 P) :: (nat_lit 24, ob_24 P) :: (nat_lit 25, ob_25 P) :: (nat_lit 27, ob_27 P) :: (nat_lit 28, ob_28 P) :: (nat_lit 29, ob_29 P) :: (nat_lit 30, ob_30 P) :: (nat_lit 31, ob_31 P) :: (nat_lit 32, ob_32 P) :: (nat_lit 35, ob_35 P) :: (nat_lit 42, ob_42 P) :: (nat_lit 44, ob_44 P) :: (nat_lit 45, ob_45 P) :: (nat_lit 47, ob_47 P) :: (nat_lit 48, ob_48 P) :: (nat_lit 49, ob_49 P) :: (nat_lit 50, ob_50 P) :: (nat_lit 51, ob_51 P) :: (nat_lit 54, ob_54 P) :: (nat_lit 61, ob_61 P) :: (nat_lit 63, ob_63 P) :: (nat_lit 64, ob_64 P) :: (nat_lit 66, ob_66 P) :: (nat_lit 67, ob_67 P) :: (nat_lit 68, ob_68 P) :: (nat_lit 69, ob_69 P) :: (nat_lit 70, ob_70 P) :: (nat_lit 73, ob_73 P) :: (nat_lit 74, ob_74 P) :: (nat_lit 75, ob_75 P) :: (nat_lit 76, ob_76 P) :: (nat_lit 77, ob_77 P) :: (nat_lit 78, ob_78 P) :: (nat_lit 79, ob_79 P) :: (nat_lit 80, ob_80 P) :: (nat_lit 81, ob_81 P) :: (nat_lit 82, ob_82 P) :: (nat_lit 83, ob_83 P) :: (nat_lit 84, ob_84 P) :: (nat_lit 85, ob_85 P) :: (nat_lit 86, ob_86 P) :: (nat_lit 87, ob_87 P) :: (nat_lit 88, ob_88 P) :: (nat_lit 89, ob_89 P) :: (nat_lit 90, ob_90 P) :: (nat_lit 91, ob_91 P) :: (nat_lit 92, ob_92 P) :: (nat_lit 93, ob_93 P) :: (nat_lit 94, ob_94 P) :: (nat_lit 95, ob_95 P) :: (nat_lit 96, ob_96 P) :: (nat_lit 97, ob_97 P) :: (nat_lit 98, ob_98 P) :: (nat_lit 99, ob_99 P) :: (nat_lit 100, ob_100 P) :: (nat_lit 101, ob_101 P) :: (nat_lit 102, ob_102 P) :: (nat_lit 103, ob_103 P) :: (nat_lit 104, ob_104 P) :: (nat_lit 105, ob_105 P) :: (nat_lit 106, ob_106 P) :: (nat_lit 107, ob_107 P) :: (nat_lit 108, ob_108 P) :: (nat_lit 109, ob_109 P) :: (nat_lit 110, ob_110 P) :: (nat_lit 111, ob_111 P) :: (nat_lit 112, ob_112 P) :: (nat_lit 113, ob_113 P) :: (nat_lit 114, ob_114 P) :: (nat_lit 115, ob_115 P) :: (nat_lit 116, ob_116 P) :: (nat_lit 118, ob_118 P) :: (nat_lit 119, ob_119 P) :: (nat_lit 121, ob_121 P) :: (nat_lit 122, ob_122 P) :: (nat_lit 123, ob_123 P) :: (nat_lit 125, ob_125 P) :: (nat_lit 126, ob_126 P) :: (nat_lit 128, ob_128 P) :: (nat_lit 129, ob_129 P) :: (nat_lit 130, ob_130 P) :: (nat_lit 132, ob_132 P) :: (nat_lit 133, ob_133 P) :: (nat_lit 135, ob_135 P) :: (nat_lit 136, ob_136 P) :: (nat_lit 137, ob_137 P) :: (nat_lit 139, ob_139 P) :: (nat_lit 140, ob_140 P) :: (nat_lit 142, ob_142 P) :: (nat_lit 143, ob_143 P) :: (nat_lit 144, ob_144 P) :: (nat_lit 147, ob_147 P) :: (nat_lit 148, ob_148 P) :: (nat_lit 149, ob_149 P) :: (nat_lit 151, ob_151 P) :: (nat_lit 152, ob_152 P) :: (nat_lit 154, ob_154 P) :: (nat_lit 155, ob_155 P) :: (nat_lit 156, ob_156 P) :: (nat_lit 158, ob_158 P) :: (nat_lit 159, ob_159 P) :: (nat_lit 161, ob_161 P) :: (nat_lit 162, ob_162 P) :: (nat_lit 163, ob_163 P) :: (nat_lit 165, ob_165 P) :: (nat_lit 166, ob_166 P) :: (nat_lit 168, ob_168 P) :: (nat_lit 169, ob_169 P) :: (nat_lit 170, ob_170 P) :: (nat_lit 172, ob_172 P) :: (nat_lit 173, ob_173 P) :: (nat_lit 175, ob_175 P) :: (nat_lit 176, ob_176 P) :: (nat_lit 184, ob_184 P) :: (nat_lit 186, ob_186 P) :: (nat_lit 187, ob_187 P) :: (nat_lit 189, ob_189 P) :: (nat_lit 190, ob_190 P) :: (nat_lit 191, ob_191 P) :: (nat_lit 192, ob_192 P) :: (nat_lit 193, ob_193 P) :: (nat_lit 194, ob_194 P) :: (nat_lit 195, ob_195 P) :: (nat_lit 198, ob_198 P) :: (nat_lit 200, ob_200 P) :: (nat_lit 201, ob_201 P) :: (nat_lit 203, ob_203 P) :: (nat_lit 204, ob_204 P) :: (nat_lit 205, ob_205 P) :: (nat_lit 207, ob_207 P) :: (nat_lit 208, ob_208 P) :: (nat_lit 210, ob_210 P) :: (nat_lit 211, ob_211 P) :: (nat_lit 212, ob_212 P) :: (nat_lit 214, ob_214 P) :: (nat_lit 215, ob_215 P) :: (nat_lit 217, ob_217 P) :: (nat_lit 218, ob_218 P) :: (nat_lit 219, ob_219 P) :: (nat_lit 221, ob_221 P) :: (nat_lit 222, ob_222 P) :: (nat_lit 224, ob_224 P) :: (nat_lit 225, ob_225 P) :: (nat_lit 226, ob_226 P) :: (nat_lit 228, ob_228 P) :: (nat_lit 229, ob_229 P) :: (nat_lit 231, ob_231 P) :: (nat_lit 232, ob_232 P) :: (nat_lit 233, ob_233 P) :: (nat_lit 235, ob_235 P) :: (nat_lit 236, ob_236 P) :: (nat_lit 238, ob_238 P) :: (nat_lit 239, ob_239 P) :: (nat_lit 240, ob_240 P) :: (nat_lit 242, ob_242 P) :: (nat_lit 243, ob_243 P) :: (nat_lit 245, ob_245 P) :: (nat_lit 246, ob_246 P) :: (nat_lit 247, ob_247 P) :: (nat_lit 249, ob_249 P) :: (nat_lit 250, ob_250 P) :: (nat_lit 252, ob_252 P) :: (nat_lit 253, ob_253 P) :: (nat_lit 254, ob_254 P) :: (nat_lit 256, ob_256 P) :: (nat_lit 257, ob_257 P) :: (nat_lit 259, ob_259 P) :: (nat_lit 260, ob_260 P) :: (nat_lit 261, ob_261 P) :: (nat_lit 263, ob_263 P) :: (nat_lit 264, ob_264 P) :: (nat_lit 266, ob_266 P) :: (nat_lit 267, ob_267 P) :: (nat_lit 268, ob_268 P) :: (nat_lit 270, ob_270 P) :: (nat_lit 271, ob_271 P) :: (nat_lit 273, ob_273 P) :: (nat_lit 274, ob_274 P) :: (nat_lit 275, ob_275 P) :: (nat_lit 277, ob_277 P) :: (nat_lit 278, ob_278 P) :: (nat_lit 280, ob_280 P) :: (nat_lit 281, ob_281 P) :: (nat_lit 282, ob_282 P) :: (nat_lit 284, ob_284 P) :: (nat_lit 285, ob_285 P) :: (nat_lit 287, ob_287 P) :: (nat_lit 288, ob_288 P) :: (nat_lit 289, ob_289 P) :: (nat_lit 291, ob_291 P) :: (nat_lit 292, ob_292 P) :: (nat_lit 294, ob_294 P) :: (nat_lit 295, ob_295 P) :: (nat_lit 296, ob_296 P) :: (nat_lit 298, ob_298 P) :: (nat_lit 299, ob_299 P) :: (nat_lit 301, ob_301 P) :: (nat_lit 302, ob_302 P) :: (nat_lit 303, ob_303 P) :: (nat_lit 305, ob_305 P) :: (nat_lit 306, ob_306 P) :: (nat_lit 308, ob_308 P) :: (nat_lit 309, ob_309 P) :: (nat_lit 310, ob_310 P) :: (nat_lit 313, ob_313 P) :: (nat_lit 314, ob_314 P) :: (nat_lit 315, ob_315 P) :: (nat_lit 317, ob_317 P) :: (nat_lit 318, ob_318 P) :: (nat_lit 320, ob_320 P) :: (nat_lit 321, ob_321 P) :: (nat_lit 322, ob_322 P) :: (nat_lit 324, ob_324 P) :: (nat_lit 325, ob_325 P) :: (nat_lit 327, ob_327 P) :: (nat_lit 328, ob_328 P) :: (nat_lit 329, ob_329 P) :: (nat_lit 331, ob_331 P) :: (nat_lit 332, ob_332 P) :: (nat_lit 334, ob_334 P) :: (nat_lit 335, ob_335 P) :: (nat_lit 336, ob_336 P) :: (nat_lit 338, ob_338 P) :: (nat_lit 339, ob_339 P) :: (nat_lit 341, ob_341 P) :: (nat_lit 342, ob_342 P) :: (nat_lit 343, ob_343 P) :: (nat_lit 345, ob_345 P) :: (nat_lit 346, ob_346 P) :: (nat_lit 348, ob_348 P) :: (nat_lit 349, ob_349 P) :: (nat_lit 350, ob_350 P) :: (nat_lit 352, ob_352 P) :: (nat_lit 353, ob_353 P) :: (nat_lit 355, ob_355 P) :: (nat_lit 356, ob_356 P) :: (nat_lit 357, ob_357 P) :: (nat_lit 359, ob_359 P) :: (nat_lit 360, ob_360 P) :: (nat_lit 362, ob_362 P) :: (nat_lit 363, ob_363 P) :: (nat_lit 364, ob_364 P) :: (nat_lit 366, ob_366 P) :: (nat_lit 367, ob_367 P) :: (nat_lit 369, ob_369 P) :: (nat_lit 370, ob_370 P) :: (nat_lit 371, ob_371 P) :: (nat_lit 373, ob_373 P) :: (nat_lit 374, ob_374 P) :: (nat_lit 376, ob_376 P) :: (nat_lit 377, ob_377 P) :: (nat_lit 378, ob_378 P) :: (nat_lit 379, ob_379 P) :: (nat_lit 381, ob_381 P) :: (nat_lit 382, ob_382 P) :: (nat_lit 384, ob_384 P) :: (nat_lit 385, ob_385 P) :: (nat_lit 386, ob_386 P) :: (nat_lit 387, ob_387 P) :: (nat_lit 389, ob_389 P) :: (nat_lit 390, ob_390 P) :: (nat_lit 392, ob_392 P) :: (nat_lit 393, ob_393 P) :: (nat_lit 394, ob_394 P) :: (nat_lit 395, ob_395 P) :: (nat_lit 397, ob_397 P) :: (nat_lit 398, ob_398 P) :: (nat_lit 400, ob_400 P) :: (nat_lit 401, ob_401 P) :: (nat_lit 409, ob_409 P) :: (nat_lit 410, ob_410 P) :: (nat_lit 412, ob_412 P) :: (nat_lit 413, ob_413 P) :: (nat_lit 415, ob_415 P) :: (nat_lit 416, ob_416 P) :: (nat_lit 417, ob_417 P) :: (nat_lit 418, ob_418 P) :: (nat_lit 419, ob_419 P) :: (nat_lit 420, ob_420 P) :: (nat_lit 421, ob_421 P) :: (nat_lit 424, ob_424 P) :: (nat_lit 432, ob_432 P) :: (nat_lit 434, ob_434 P) :: (nat_lit 435, ob_435 P) :: (nat_lit 437, ob_437 P) :: (nat_lit 438, ob_438 P) :: (nat_lit 439, ob_439 P) :: (nat_lit 440, ob_440 P) :: (nat_lit 441, ob_441 P) :: (nat_lit 442, ob_442 P) :: (nat_lit 443, ob_443 P) :: (nat_lit 453, ob_453 P) :: (nat_lit 455, ob_455 P) :: (nat_lit 456, ob_456 P) :: (nat_lit 458, ob_458 P) :: (nat_lit 459, ob_459 P) :: (nat_lit 460, ob_460 P) :: (nat_lit 462, ob_462 P) :: (nat_lit 463, ob_463 P) :: (nat_lit 465, ob_465 P) :: (nat_lit 466, ob_466 P) :: (nat_lit 467, ob_467 P) :: (nat_lit 469, ob_469 P) :: (nat_lit 470, ob_470 P) :: (nat_lit 472, ob_472 P) :: (nat_lit 473, ob_473 P) :: (nat_lit 474, ob_474 P) :: (nat_lit 475, ob_475 P) :: (nat_lit 476, ob_476 P) :: (nat_lit 477, ob_477 P) :: (nat_lit 478, ob_478 P) :: (nat_lit 481, ob_481 P) :: (nat_lit 483, ob_483 P) :: (nat_lit 484, ob_484 P) :: (nat_lit 486, ob_486 P) :: (nat_lit 487, ob_487 P) :: (nat_lit 488, ob_488 P) :: (nat_lit 490, ob_490 P) :: (nat_lit 491, ob_491 P) :: (nat_lit 493, ob_493 P) :: (nat_lit 494, ob_494 P) :: (nat_lit 495, ob_495 P) :: (nat_lit 497, ob_497 P) :: (nat_lit 498, ob_498 P) :: (nat_lit 500, ob_500 P) :: (nat_lit 501, ob_501 P) :: (nat_lit 502, ob_502 P) :: (nat_lit 504, ob_504 P) :: (nat_lit 505, ob_505 P) :: (nat_lit 507, ob_507 P) :: (nat_lit 508, ob_508 P) :: (nat_lit 509, ob_509 P) :: (nat_lit 511, ob_511 P) :: (nat_lit 512, ob_512 P) :: (nat_lit 514, ob_514 P) :: (nat_lit 515, ob_515 P) :: (nat_lit 516, ob_516 P) :: (nat_lit 518, ob_518 P) :: (nat_lit 519, ob_519 P) :: (nat_lit 521, ob_521 P) :: (nat_lit 522, ob_522 P) :: (nat_lit 523, ob_523 P) :: (nat_lit 525, ob_525 P) :: (nat_lit 526, ob_526 P) :: (nat_lit 528, ob_528 P) :: (nat_lit 529, ob_529 P) :: (nat_lit 530, ob_530 P) :: (nat_lit 538, ob_538 P) :: (nat_lit 540, ob_540 P) :: (nat_lit 541, ob_541 P) :: (nat_lit 543, ob_543 P) :: (nat_lit 544, ob_544 P) :: (nat_lit 545, ob_545 P) :: (nat_lit 547, ob_547 P) :: (nat_lit 548, ob_548 P) :: (nat_lit 550, ob_550 P) :: (nat_lit 551, ob_551 P) :: (nat_lit 552, ob_552 P) :: (nat_lit 554, ob_554 P) :: (nat_lit 555, ob_555 P) :: (nat_lit 557, ob_557 P) :: (nat_lit 558, ob_558 P) :: (nat_lit 559, ob_559 P) :: (nat_lit 560, ob_560 P) :: (nat_lit 561, ob_561 P) :: (nat_lit 562, ob_562 P) :: (nat_lit 563, ob_563 P) :: (nat_lit 566, ob_566 P) :: (nat_lit 568, ob_568 P) :: (nat_lit 569, ob_569 P) :: (nat_lit 571, ob_571 P) :: (nat_lit 572, ob_572 P) :: (nat_lit 573, ob_573 P) :: (nat_lit 575, ob_575 P) :: (nat_lit 576, ob_576 P) :: (nat_lit 578, ob_578 P) :: (nat_lit 579, ob_579 P) :: (nat_lit 580, ob_580 P) :: (nat_lit 582, ob_582 P) :: (nat_lit 583, ob_583 P) :: (nat_lit 585, ob_585 P) :: (nat_lit 586, ob_586 P) :: (nat_lit 587, ob_587 P) :: (nat_lit 589, ob_589 P) :: (nat_lit 590, ob_590 P) :: (nat_lit 592, ob_592 P) :: (nat_lit 593, ob_593 P) :: (nat_lit 594, ob_594 P) :: (nat_lit 597, ob_597 P) :: (nat_lit 598, ob_598 P) :: (nat_lit 599, ob_599 P) :: (nat_lit 602, ob_602 P) :: (nat_lit 603, ob_603 P) :: (nat_lit 604, ob_604 P) :: (nat_lit 607, ob_607 P) :: (nat_lit 608, ob_608 P) :: (nat_lit 609, ob_609 P) :: (nat_lit 611, ob_611 P) :: (nat_lit 612, ob_612 P) :: (nat_lit 614, ob_614 P) :: (nat_lit 615, ob_615 P) :: (nat_lit 616, ob_616 P) :: (nat_lit 618, ob_618 P) :: (nat_lit 619, ob_619 P) :: (nat_lit 621, ob_621 P) :: (nat_lit 622, ob_622 P) :: (nat_lit 623, ob_623 P) :: (nat_lit 625, ob_625 P) :: (nat_lit 626, ob_626 P) :: (nat_lit 628, ob_628 P) :: (nat_lit 629, ob_629 P) :: (nat_lit 630, ob_630 P) :: (nat_lit 632, ob_632 P) :: (nat_lit 633, ob_633 P) :: (nat_lit 635, ob_635 P) :: (nat_lit 636, ob_636 P) :: (nat_lit 637, ob_637 P) :: (nat_lit 639, ob_639 P) :: (nat_lit 640, ob_640 P) :: (nat_lit 642, ob_642 P) :: (nat_lit 643, ob_643 P) :: (nat_lit 644, ob_644 P) :: (nat_lit 646, ob_646 P) :: (nat_lit 647, ob_647 P) :: (nat_lit 649, ob_649 P) :: (nat_lit 650, ob_650 P) :: (nat_lit 651, ob_651 P) :: (nat_lit 653, ob_653 P) :: (nat_lit 654, ob_654 P) :: (nat_lit 656, ob_656 P) :: (nat_lit 657, ob_657 P) :: (nat_lit 658, ob_658 P) :: (nat_lit 660, ob_660 P) :: (nat_lit 661, ob_661 P) :: (nat_lit 663, ob_663 P) :: (nat_lit 664, ob_664 P) :: (nat_lit 665, ob_665 P) :: (nat_lit 667, ob_667 P) :: (nat_lit 668, ob_668 P) :: (nat_lit 670, ob_670 P) :: (nat_lit 671, ob_671 P) :: (nat_lit 672, ob_672 P) :: (nat_lit 673, ob_673 P) :: (nat_lit 674, ob_674 P) :: (nat_lit 675, ob_675 P) :: (nat_lit 676, ob_676 P) :: (nat_lit 678, ob_678 P) :: (nat_lit 679, ob_679 P) :: (nat_lit 681, ob_681 P) :: (nat_lit 682, ob_682 P) :: (nat_lit 683, ob_683 P) :: (nat_lit 685, ob_685 P) :: (nat_lit 686, ob_686 P) :: (nat_lit 688, ob_688 P) :: (nat_lit 689, ob_689 P) :: (nat_lit 690, ob_690 P) :: (nat_lit 692, ob_692 P) :: (nat_lit 693, ob_693 P) :: (nat_lit 695, ob_695 P) :: (nat_lit 696, ob_696 P) :: (nat_lit 697, ob_697 P) :: (nat_lit 699, ob_699 P) :: (nat_lit 700, ob_700 P) :: (nat_lit 702, ob_702 P) :: (nat_lit 703, ob_703 P) :: (nat_lit 704, ob_704 P) :: (nat_lit 707, ob_707 P) :: (nat_lit 708, ob_708 P) :: (nat_lit 709, ob_709 P) :: (nat_lit 711, ob_711 P) :: (nat_lit 712, ob_712 P) :: (nat_lit 714, ob_714 P) :: (nat_lit 715, ob_715 P) :: (nat_lit 716, ob_716 P) :: (nat_lit 718, ob_718 P) :: (nat_lit 719, ob_719 P) :: (nat_lit 721, ob_721 P) :: (nat_lit 722, ob_722 P) :: (nat_lit 723, ob_723 P) :: (nat_lit 725, ob_725 P) :: (nat_lit 726, ob_726 P) :: (nat_lit 728, ob_728 P) :: (nat_lit 729, ob_729 P) :: (nat_lit 730, ob_730 P) :: (nat_lit 732, ob_732 P) :: (nat_lit 733, ob_733 P) :: (nat_lit 735, ob_735 P) :: (nat_lit 736, ob_736 P) :: (nat_lit 737, ob_737 P) :: (nat_lit 739, ob_739 P) :: (nat_lit 740, ob_740 P) :: (nat_lit 742, ob_742 P) :: (nat_lit 743, ob_743 P) :: (nat_lit 744, ob_744 P) :: (nat_lit 746, ob_746 P) :: (nat_lit 747, ob_747 P) :: (nat_lit 749, ob_749 P) :: (nat_lit 750, ob_750 P) :: (nat_lit 751, ob_751 P) :: (nat_lit 754, ob_754 P) :: (nat_lit 755, ob_755 P) :: (nat_lit 756, ob_756 P) :: (nat_lit 757, ob_757 P) :: (nat_lit 758, ob_758 P) :: (nat_lit 759, ob_759 P) :: (nat_lit 760, ob_760 P) :: (nat_lit 761, ob_761 P) :: (nat_lit 762, ob_762 P) :: (nat_lit 763, ob_763 P) :: (nat_lit 764, ob_764 P) :: (nat_lit 765, ob_765 P) :: (nat_lit 767, ob_767 P) :: (nat_lit 768, ob_768 P) :: (nat_lit 770, ob_770 P) :: (nat_lit 771, ob_771 P) :: (nat_lit 772, ob_772 P) :: (nat_lit 775, ob_775 P) :: (nat_lit 776, ob_776 P) :: (nat_lit 777, ob_777 P) :: (nat_lit 779, ob_779 P) :: (nat_lit 780, ob_780 P) :: (nat_lit 782, ob_782 P) :: (nat_lit 783, ob_783 P) :: (nat_lit 784, ob_784 P) :: (nat_lit 786, ob_786 P) :: (nat_lit 787, ob_787 P) :: (nat_lit 789, ob_789 P) :: (nat_lit 790, ob_790 P) :: (nat_lit 791, ob_791 P) :: (nat_lit 793, ob_793 P) :: (nat_lit 794, ob_794 P) :: (nat_lit 796, ob_796 P) :: (nat_lit 797, ob_797 P) :: (nat_lit 798, ob_798 P) :: (nat_lit 800, ob_800 P) :: (nat_lit 801, ob_801 P) :: (nat_lit 803, ob_803 P) :: (nat_lit 804, ob_804 P) :: (nat_lit 805, ob_805 P) :: (nat_lit 807, ob_807 P) :: (nat_lit 808, ob_808 P) :: (nat_lit 810, ob_810 P) :: (nat_lit 811, ob_811 P) :: (nat_lit 812, ob_812 P) :: (nat_lit 814, ob_814 P) :: (nat_lit 815, ob_815 P) :: (nat_lit 817, ob_817 P) :: (nat_lit 818, ob_818 P) :: (nat_lit 819, ob_819 P) :: (nat_lit 821, ob_821 P) :: (nat_lit 822, ob_822 P) :: (nat_lit 824, ob_824 P) :: (nat_lit 825, ob_825 P) :: (nat_lit 826, ob_826 P) :: (nat_lit 828, ob_828 P) :: (nat_lit 829, ob_829 P) :: (nat_lit 831, ob_831 P) :: (nat_lit 832, ob_832 P) :: (nat_lit 833, ob_833 P) :: (nat_lit 835, ob_835 P) :: (nat_lit 836, ob_836 P) :: (nat_lit 838, ob_838 P) :: (nat_lit 839, ob_839 P) :: (nat_lit 840, ob_840 P) :: (nat_lit 842, ob_842 P) :: (nat_lit 843, ob_843 P) :: (nat_lit 845, ob_845 P) :: (nat_lit 846, ob_846 P) :: (nat_lit 847, ob_847 P) :: (nat_lit 849, ob_849 P) :: (nat_lit 850, ob_850 P) :: (nat_lit 852, ob_852 P) :: (nat_lit 853, ob_853 P) :: (nat_lit 854, ob_854 P) :: (nat_lit 857, ob_857 P) :: (nat_lit 858, ob_858 P) :: (nat_lit 859, ob_859 P) :: (nat_lit 861, ob_861 P) :: (nat_lit 862, ob_862 P) :: (nat_lit 864, ob_864 P) :: (nat_lit 865, ob_865 P) :: (nat_lit 866, ob_866 P) :: (nat_lit 867, ob_867 P) :: (nat_lit 869, ob_869 P) :: (nat_lit 870, ob_870 P) :: (nat_lit 872, ob_872 P) :: (nat_lit 873, ob_873 P) :: (nat_lit 874, ob_874 P) :: (nat_lit 876, ob_876 P) :: (nat_lit 877, ob_877 P) :: (nat_lit 879, ob_879 P) :: (nat_lit 880, ob_880 P) :: (nat_lit 881, ob_881 P) :: (nat_lit 883, ob_883 P) :: (nat_lit 884, ob_884 P) :: (nat_lit 886, ob_886 P) :: (nat_lit 887, ob_887 P) :: (nat_lit 888, ob_888 P) :: (nat_lit 890, ob_890 P) :: (nat_lit 891, ob_891 P) :: (nat_lit 893, ob_893 P) :: (nat_lit 894, ob_894 P) :: (nat_lit 895, ob_895 P) :: (nat_lit 898, ob_898 P) :: (nat_lit 899, ob_899 P) :: []
noncomputable abbrev hN : Nat := 900
noncomputable abbrev hT : Nat := 1583
noncomputable abbrev hS : Nat := 5763
noncomputable def qv : Program := view pw [1, 2, 3, 5, 6, 7, 8, 9, 10, 11, 12, 13, 14, 15, 17, 18, 19, 20, 21, 22, 23, 24, 25, 26, 27, 28, 29, 30, 31, 32, 33, 34, 35, 36, 37, 38, 39, 40, 41, 42, 43, 44, 45, 51, 53, 54, 55, 56, 57, 58, 59, 60, 61, 62, 64, 65, 66, 67, 68, 69, 70, 71, 72, 73, 74, 75, 76, 77, 78, 79, 80, 81, 82, 83, 84, 85, 86, 88, 89, 90, 91, 92, 93, 94, 95, 96, 97, 98, 99, 100, 101, 102, 104, 105, 106, 107, 108, 109, 110, 111, 112, 113, 114, 115, 116, 117, 118, 119, 120, 121, 123, 125, 126, 127, 128, 129, 130]
noncomputable def lo : List Str := [Str.ofString "POSIX_RANGES", Str.ofString "search_pattern", Str.ofString "next_match", Str.ofString "substitute", Str.ofString "Limits", Str.ofString "PLAIN_ESCAPES", Str.ofString "COUNT_SIGNS", Str.ofString "LOOKS", Str.ofString "NAME_SIGNS"]
end Mp
namespace Mp
noncomputable abbrev rwN := PySem.Challenge.rw_sz0093_03
noncomputable abbrev denQ := PySem.W.Fast.tw11892475500146522536
noncomputable abbrev tabQ := PySem.W.Fast.tw14364793385576792824
noncomputable abbrev stepTQ := PySem.W.Fast.tw10156331382660048174
noncomputable abbrev stepOkQ := PySem.W.Fast.tw6613529449190102663
theorem fin_tree (P : Params) : absHeap (tpB 10 (HL P)) hN (boot_heap P).life = HF P := by kernel_rfl
noncomputable def S0T (P : Params) (os : OsState) : SharedT := ⟨tpB 10 (boot_heap P).objs.toList, (boot_heap P).objs.size, (boot_heap P).life, #[], boot_drawn, boot_toks, os⟩
noncomputable def S1T (P : Params) (os : OsState) : SharedT := ⟨tpB 10 (HL P), hN, (boot_heap P).life, #[], boot_drawn, hT, os⟩
noncomputable abbrev runQ (w : World) : Prop := ∀ os, tpD (stepOkQ (nat_lit 11) (some (.ref (nat_lit 6)))) (stepTQ (denQ tabQ) pw w) 300 20 (S0T w.params os) (topStub pw) = some (S1T w.params os)
theorem run_f (w : World) : runQ (w.withFollow "special-get-raises" false) := fun os => by kernel_rfl
theorem run_t (w : World) : runQ (w.withFollow "special-get-raises" true) := fun os => by kernel_rfl
theorem run_all (w : World) (os : OsState) : topRun treeTable pw w 11 (some (.ref 6)) (20 * 300 + 1) ⟨boot_heap w.params, #[], boot_drawn, boot_toks, os⟩ (topStub pw) = some ⟨HF w.params, #[], boot_drawn, hT, os⟩ := by
  have h := byRow2 "special-get-raises" (P := runQ) run_f run_t w os
  unfold denQ tabQ stepTQ stepOkQ at h
  rw [← PySem.W.Fast.te11892475500146522536, ← PySem.W.Fast.te14364793385576792824, ← PySem.W.Fast.te10156331382660048174, ← PySem.W.Fast.te6613529449190102663] at h
  have k := tpD_spec h
  unfold S0T S1T SharedT.abs at k
  dsimp only at k
  rw [fin_tree, ← boot_tree] at k
  exact k
theorem hl_all (P : Params) : (HL P).all tpF = true := by kernel_rfl
theorem kas_eq (P : Params) : kas = (K P).map (·.1) := by kernel_rfl
theorem K_eq (P : Params) : K P = tpZ (HL P) 0 kas := by kernel_rfl
noncomputable abbrev Xt1 : Shared → Bool := fun s => xlAt qv [] s && recOk (RowW.records (OpenRow.toRowW (OpenLaw.row rwN))) s
noncomputable abbrev Sf (P : Params) (os : OsState) : Shared := ⟨HF P, #[], boot_drawn, hT, os⟩
noncomputable abbrev md : List Str := importedModules pw.main.body
theorem l3 (w : World) (os : OsState) : Hook.obs (kHook K kas kas_eq) (Sf w.params os) = Hook.val (kHook K kas kas_eq) w := by
  show kas.map (Heap.get? (HF w.params)) = (K w.params).map fun p => some p.2
  rw [K_eq]
  exact tpGet (by rw [← K_eq]; exact kas_eq _) (hl_all _)
theorem lop (w : World) : (fencedOpening treeTable pw w (2 * hS + 100)).map (fun s => (s.heap, s.gens, s.drawn, s.toks)) = some (boot_heap w.params, Array.mk [], boot_drawn, boot_toks) := boot_open (by kernel_rfl) (by kernel_rfl) (fun s => by kernel_rfl) w
theorem l0 (w : World) : ((boot_heap w.params).isNs mainGlobals && (#[] : Array GenState).size == 0, (boot_heap w.params).objs.size, (boot_heap w.params).nsMap mainGlobals "__annotations__") = (true, 11, some (.ref 6)) := by kernel_rfl
theorem l1 (w : World) (os : OsState) : (staticsOk md (boot_heap w.params) (HF w.params) && namesBound pw (HF w.params) && gensDone (Sf w.params os) && laidKept (boot_heap w.params) (HF w.params)) = true := by kernel_rfl
theorem l2a (w : World) (os : OsState) : seen ((recsOf qv).map (·.name)) (ownsOf qv) [] { Sf w.params os with gens := #[] } = expectedOf qv ∧ (HF w.params).bltView = bltViewBooted ∧
    (HF w.params).keysOk (looseW qv lo) ((recsOf qv).map (·.name)) ((litsOf qv).map (·.1)) ((clssOf qv (looseW qv lo)).map (·.name)) = true :=
  ⟨by kernel_rfl, by kernel_rfl, by kernel_rfl⟩
theorem l2b (w : World) (os : OsState) : (HF w.params).accountedOkI md = true ∧ (HF w.params).isNs mainGlobals = true ∧ (HF w.params).isNs builtinsNs = true ∧ tablesOk qv (HF w.params) = true ∧ Xt1 (Sf w.params os) = true :=
  ⟨by kernel_rfl, by kernel_rfl, by kernel_rfl, by kernel_rfl, by kernel_rfl⟩
theorem l2c (w : World) (os : OsState) : tabsOk qv (Sf w.params os) = true ∧ pinSeenD qv (drecsOf qv) (Sf w.params os) = pinGoodD (drecsOf qv) ∧ plainSeenE qv (looseW qv lo) (Sf w.params os) = plainGoodE qv (looseW qv lo) ∧
    plainSeenD qv lo (Sf w.params os) = plainGoodD qv lo ∧ wideSeen qv (Sf w.params os) = wideGood qv ∧ clsSeenW qv lo (Sf w.params os) = clsGoodW qv lo :=
  ⟨by kernel_rfl, by kernel_rfl, by kernel_rfl, by kernel_rfl, by kernel_rfl, by kernel_rfl⟩
theorem l2 (w : World) (os : OsState) : openSeen qv lo md Xt1 true (Sf w.params os) = openGood qv lo := by
  obtain ⟨a1, a2, a3⟩ := l2a w os
  obtain ⟨b1, b2, b3, b4, b5⟩ := l2b w os
  obtain ⟨c1, c2, c3, c4, c5, c6⟩ := l2c w os
  refine looks_pair a1 (looks_pair a2 (looks_pair ?_ (looks_pair c1 (looks_pair c2 (looks_pair c3 (looks_pair c4 (looks_pair c5 c6)))))))
  exact look_both (look_both (look_both (look_both (look_both (look_both a3 b1) b2) b3) b4) b5) rfl
theorem left_ : LeftO pw qv lo Xt1 (Hook.obs (kHook K kas kas_eq)) (Hook.val (kHook K kas kas_eq)) (2 * hS + 100) :=
  LeftO.of_pieces lop l0 run_all (by kernel_rfl) (fun w => funext fun os => looks_pair (l1 w os) (looks_pair (l2 w os) (l3 w os)))
theorem said0 : PySem.W.Fast.tw9446332074065402090 rwN = true := by kernel_rfl
theorem said1 : OpenLaw.wellSaid rwN = true := by rw [PySem.W.Fast.te9446332074065402090]; exact said0
theorem chains1 : (chainsOk qv && opensWell pw && (frees (OpenRow.toRowW (OpenLaw.row rwN)) && (OpenLaw.row rwN).within.isEmpty)) = true := by kernel_rfl
end Mp
namespace Mp
noncomputable section
structure Base where
  prog : Program
  w : World
  p : Program
  loose : List Str
  mean : ExcName → Option Value
  mg : Str → Option Value
  mb : Str → Option Value
  scr : Addr
  sob : Obj
noncomputable abbrev cAt : Nat → List Str := fun n => match n with
  | 31 => ["text"]
  | 51 => ["at"]
  | 70 => ["steps"]
  | 193 => ["program", "text", "begin", "least_end", "most", "steps", "at", "row", "groups", "registers", "pile"]
  | 419 => ["width", "depth", "steps", "text", "items"]
  | 441 => ["rows", "groups", "registers", "names"]
  | 476 => ["rows", "registers"]
  | 561 => ["text", "total", "at", "groups", "depth", "names", "spoken"]
  | _ => []
noncomputable def cdK (K : Frag) : Nat → CD := fun n => match n with
  | 0 => cdOf K 880
  | 1 => cdOf K 899
  | _ => cdOf K 0
noncomputable abbrev cx (c : Base) : Cx := ⟨c.prog, c.w, K c.w.params ++ [(c.scr, c.sob)], c.p, c.loose, c.mean, c.mg, c.mb, fun n => bif Nat.beq n 5000000 then c.scr else n, cAt, cdK (K c.w.params)⟩
noncomputable abbrev ex_899 (c : Base) : Env → Prop := fun e => ∃ L a cl, e = envX (fdOf (cx c).K 899).qualname (fdOf (cx c).K 899).scope L a (.ref (cdOf (cx c).K 899).code) cl
noncomputable def sc_899 (c : Base) : Sc := ⟨(fdOf (cx c).K 899).scope, ["script", "goes", "more", "begun", "letter", "thrice", "other", "word"], ["words", "at", "turned", "tree"], ex_899 c⟩
theorem co_899_3 (c : Base) : CelOwn (sc_899 c) 3 "tree" := ⟨rfl, by kernel_rfl⟩
theorem ln_899_0 (c : Base) : LocName (sc_899 c) 0 "script" := ⟨rfl, by kernel_rfl, by kernel_rfl⟩
noncomputable def B_law_0 (xs : List Int) : SS := (asgS (asgC 3) (listE (esC (scrI 5000000 10 xs (lE 0) partN (partE (cE (.int 10)))) (esC (cE (.int 0)) esN))))
theorem cn_899_3 (c : Base) : CelName (sc_899 c) 3 "tree" := ⟨rfl, by kernel_rfl, by kernel_rfl, by kernel_rfl⟩
noncomputable def sc_873 (c : Base) : Sc := ⟨(fdOf (cx c).K 873).scope, ["tree", "many", "spot"], [], fun _ => True⟩
theorem fk_873 (c : Base) : FnK (cx c) 873 ["tree", "many"] ["tree", "many", "spot"] [2] [] where
  at_ := by kernel_rfl
  isF := ⟨by kernel_rfl, by kernel_rfl, by kernel_rfl, by kernel_rfl⟩
  code := by kernel_rfl
  bind := bindD (ds := []) (fun _ _ => .nil) (one_ar (fun S ws h => by obtain ⟨w0, w1, rfl⟩ := len2 h; kernel_rfl))
  ars := by decide
  pre := ⟨["spot"], rfl⟩
  nd := by decide
  loc := by kernel_rfl
  cell := by kernel_rfl
  co := by kernel_rfl
  gen := by kernel_rfl
  kind := by kernel_rfl
theorem ln_873_2 (c : Base) : LocName (sc_873 c) 2 "spot" := ⟨rfl, by kernel_rfl, by kernel_rfl⟩
theorem ln_873_0 (c : Base) : LocName (sc_873 c) 0 "tree" := ⟨rfl, by kernel_rfl, by kernel_rfl⟩
theorem gz_len (c : Base) : nsIn (cx c).K mainGlobals "len" = some none := by kernel_rfl
theorem bn_873_len (c : Base) : BltName (cx c) (sc_873 c) "len" (.builtin "len") := ⟨gz_len c, by kernel_rfl, by decide, by kernel_rfl, by kernel_rfl⟩
theorem vr_866 (c : Base) {led ρ} : VR (cx c) led ρ (.tup [(.int 3), (.int 4), (.int 0), (.int 6), (.int 1), (.int 0), (.int 1), (.int 0), (.int 1), (.int 0)]) (.ref 866) := .tup [(.int 3), (.int 4), (.int 0), (.int 6), (.int 1), (.int 0), (.int 1), (.int 0), (.int 1), (.int 0)] [(.int 3 1525), (.int 4 1526), (.int 0 1527), (.int 6 1528), (.int 1 1529), (.int 0 1530), (.int 1 1531), (.int 0 1532), (.int 1 1533), (.int 0 1534)] 866 0 (.inr (by kernel_rfl)) (.cons (.int _ _) (.cons (.int _ _) (.cons (.int _ _) (.cons (.int _ _) (.cons (.int _ _) (.cons (.int _ _) (.cons (.int _ _) (.cons (.int _ _) (.cons (.int _ _) (.cons (.int _ _) .nil))))))))))
theorem gv__law_rest (c : Base) : nsIn (cx c).K mainGlobals "_law_rest" = some (some (.ref 866)) := by kernel_rfl
theorem gn_873__law_rest (c : Base) : GloName (cx c) (sc_873 c) "_law_rest" (.ref 866) := ⟨gv__law_rest c, by kernel_rfl, by kernel_rfl⟩
theorem ln_873_1 (c : Base) : LocName (sc_873 c) 1 "many" := ⟨rfl, by kernel_rfl, by kernel_rfl⟩
noncomputable def B__law_shake : SS := (seqS (augI iaddV (lE 0) (cE (.int 1)) (cE (.int 1)))
  (seqS (asgS (asgL 2) (subE (lE 0) (cE (.int 1))))
  (seqS (retS (bE modV (ifE (tE (bE leV (lE 2) (bltE lenG (esC (subE (lE 0) (cE (.int 0))) esN)))) (subE (subE (lE 0) (cE (.int 0))) (bE subV (lE 2) (cE (.int 1)))) (subE (cE (.tup [(.int 3), (.int 4), (.int 0), (.int 6), (.int 1), (.int 0), (.int 1), (.int 0), (.int 1), (.int 0)])) (bE subV (lE 2) (cE (.int 1))))) (lE 1)))
  nilS)))
theorem S__law_shake (c : Base) : SoundB (cx c) 0 (sc_873 c) (stOf (cx c).K 873) B__law_shake := (sb_cons (s_augI (l_name (ln_873_0 c)) c_int c_int bin_iadd (fun _ _ _ => rfl))
  (sb_cons (s_asg (u_name (ln_873_2 c)) (b_sub (l_name (ln_873_0 c)) c_int (fun _ _ => rfl)) (fun _ => rfl) (fun _ => rfl) (fun _ => rfl))
  (sb_cons (s_ret (b_op (b_if (t_cmp (l_name (ln_873_2 c)) (b_blt (bn_873_len c) f_len (es_cons (b_sub (l_name (ln_873_0 c)) c_int (fun _ _ => rfl)) es_nil (fun _ => rfl)) (fun _ => ⟨rfl, rfl⟩) (fun _ => ⟨rfl, trivial⟩) (fun _ => rfl)) bin_le rfl) (b_sub (b_sub (l_name (ln_873_0 c)) c_int (fun _ _ => rfl)) (b_op (l_name (ln_873_2 c)) c_int bin_sub) (fun _ _ => rfl)) (b_sub (g_name (gn_873__law_rest c) (fun _ _ => (vr_866 c))) (b_op (l_name (ln_873_2 c)) c_int bin_sub) (fun _ _ => rfl))) (l_name (ln_873_1 c)) bin_mod))
  sb_nil)))
noncomputable def F__law_shake : FnG := runB [2] 2 3 [] B__law_shake
theorem ok__law_shake (c : Base) : CallOk (cx c) 1 (.ref ((cx c).ga 873)) F__law_shake := fn_okK (fk_873 c) (S__law_shake c)
theorem kp_873 (c : Base) : keepIn (cx c).K (.ref ((cx c).ga 873)) = true := by kernel_rfl
theorem gv__law_shake (c : Base) : nsIn (cx c).K mainGlobals "_law_shake" = some (some (.ref 873)) := by kernel_rfl
theorem gn_899__law_shake (c : Base) : GloName (cx c) (sc_899 c) "_law_shake" (.ref 873) := ⟨gv__law_shake c, by kernel_rfl, by kernel_rfl⟩
theorem fn_899__law_shake (c : Base) : FnName (cx c) (sc_899 c) "_law_shake" 873 := ⟨gn_899__law_shake c, kp_873 c⟩
theorem ln_899_3 (c : Base) : LocName (sc_899 c) 3 "begun" := ⟨rfl, by kernel_rfl, by kernel_rfl⟩
theorem ln_899_2 (c : Base) : LocName (sc_899 c) 2 "more" := ⟨rfl, by kernel_rfl, by kernel_rfl⟩
theorem ln_899_1 (c : Base) : LocName (sc_899 c) 1 "goes" := ⟨rfl, by kernel_rfl, by kernel_rfl⟩
noncomputable def B_law_1 (xs : List Int) : SS := (swapS [1, 2, 3] (esC (callE F__law_shake (esC (ceE 3) (esC (cE (.int 4)) esN))) (esC (callE F__law_shake (esC (ceE 3) (esC (cE (.int 5)) esN))) (esC (subE (cE (.str [97, 98])) (callE F__law_shake (esC (ceE 3) (esC (cE (.int 2)) esN)))) esN))))
noncomputable def sc_865 (c : Base) : Sc := ⟨(fdOf (cx c).K 865).scope, ["text", "flags", "node", "groups", "names"], [], fun _ => True⟩
theorem fk_865 (c : Base) : FnK (cx c) 865 ["text", "flags"] ["text", "flags", "node", "groups", "names"] [2] [] where
  at_ := by kernel_rfl
  isF := ⟨by kernel_rfl, by kernel_rfl, by kernel_rfl, by kernel_rfl⟩
  code := by kernel_rfl
  bind := bindD (ds := []) (fun _ _ => .nil) (one_ar (fun S ws h => by obtain ⟨w0, w1, rfl⟩ := len2 h; kernel_rfl))
  ars := by decide
  pre := ⟨["node", "groups", "names"], rfl⟩
  nd := by decide
  loc := by kernel_rfl
  cell := by kernel_rfl
  co := by kernel_rfl
  gen := by kernel_rfl
  kind := by kernel_rfl
theorem ln_865_4 (c : Base) : LocName (sc_865 c) 4 "names" := ⟨rfl, by kernel_rfl, by kernel_rfl⟩
theorem ln_865_3 (c : Base) : LocName (sc_865 c) 3 "groups" := ⟨rfl, by kernel_rfl, by kernel_rfl⟩
theorem ln_865_2 (c : Base) : LocName (sc_865 c) 2 "node" := ⟨rfl, by kernel_rfl, by kernel_rfl⟩
noncomputable def sc_529 (c : Base) : Sc := ⟨(fdOf (cx c).K 529).scope, ["node", "groups", "names", "maker"], [], fun _ => True⟩
theorem fk_529 (c : Base) : FnK (cx c) 529 ["node", "groups", "names"] ["node", "groups", "names", "maker"] [3] [] where
  at_ := by kernel_rfl
  isF := ⟨by kernel_rfl, by kernel_rfl, by kernel_rfl, by kernel_rfl⟩
  code := by kernel_rfl
  bind := bindD (ds := []) (fun _ _ => .nil) (one_ar (fun S ws h => by obtain ⟨w0, w1, w2, rfl⟩ := len3 h; kernel_rfl))
  ars := by decide
  pre := ⟨["maker"], rfl⟩
  nd := by decide
  loc := by kernel_rfl
  cell := by kernel_rfl
  co := by kernel_rfl
  gen := by kernel_rfl
  kind := by kernel_rfl
theorem ln_529_2 (c : Base) : LocName (sc_529 c) 2 "names" := ⟨rfl, by kernel_rfl, by kernel_rfl⟩
theorem ln_529_3 (c : Base) : LocName (sc_529 c) 3 "maker" := ⟨rfl, by kernel_rfl, by kernel_rfl⟩
theorem ao_476_1 (c : Base) : AttrOk (cx c) 476 1 "registers" := ⟨rfl, by kernel_rfl, by kernel_rfl, by kernel_rfl⟩
theorem ln_529_1 (c : Base) : LocName (sc_529 c) 1 "groups" := ⟨rfl, by kernel_rfl, by kernel_rfl⟩
theorem ao_476_0 (c : Base) : AttrOk (cx c) 476 0 "rows" := ⟨rfl, by kernel_rfl, by kernel_rfl, by kernel_rfl⟩
theorem mk_441 (c : Base) : MakeOk (cx c) 441 438 := ⟨by kernel_rfl, by kernel_rfl, by kernel_rfl, trivial⟩
noncomputable def sc_438 (c : Base) : Sc := ⟨(fdOf (cx c).K 438).scope, ["self", "rows", "groups", "registers", "names"], [], fun _ => True⟩
theorem fk_438 (c : Base) : FnK (cx c) 438 ["self", "rows", "groups", "registers", "names"] ["self", "rows", "groups", "registers", "names"] [5] [] where
  at_ := by kernel_rfl
  isF := ⟨by kernel_rfl, by kernel_rfl, by kernel_rfl, by kernel_rfl⟩
  code := by kernel_rfl
  bind := bindD (ds := []) (fun _ _ => .nil) (one_ar (fun S ws h => by obtain ⟨w0, w1, w2, w3, w4, rfl⟩ := len5 h; kernel_rfl))
  ars := by decide
  pre := ⟨[], rfl⟩
  nd := by decide
  loc := by kernel_rfl
  cell := by kernel_rfl
  co := by kernel_rfl
  gen := by kernel_rfl
  kind := by kernel_rfl
theorem ln_438_0 (c : Base) : LocName (sc_438 c) 0 "self" := ⟨rfl, by kernel_rfl, by kernel_rfl⟩
theorem nd_441 : (cAt 441).Nodup := by decide
theorem fw_441 : (cAt 441).length ≤ 100 := by decide
theorem so_441_3 (c : Base) : SetOk (cx c) 441 3 "names" := ⟨rfl, nd_441, fw_441, by kernel_rfl, by kernel_rfl, by kernel_rfl, by kernel_rfl⟩
theorem ln_438_4 (c : Base) : LocName (sc_438 c) 4 "names" := ⟨rfl, by kernel_rfl, by kernel_rfl⟩
theorem so_441_2 (c : Base) : SetOk (cx c) 441 2 "registers" := ⟨rfl, nd_441, fw_441, by kernel_rfl, by kernel_rfl, by kernel_rfl, by kernel_rfl⟩
theorem ln_438_3 (c : Base) : LocName (sc_438 c) 3 "registers" := ⟨rfl, by kernel_rfl, by kernel_rfl⟩
theorem so_441_1 (c : Base) : SetOk (cx c) 441 1 "groups" := ⟨rfl, nd_441, fw_441, by kernel_rfl, by kernel_rfl, by kernel_rfl, by kernel_rfl⟩
theorem ln_438_2 (c : Base) : LocName (sc_438 c) 2 "groups" := ⟨rfl, by kernel_rfl, by kernel_rfl⟩
theorem so_441_0 (c : Base) : SetOk (cx c) 441 0 "rows" := ⟨rfl, nd_441, fw_441, by kernel_rfl, by kernel_rfl, by kernel_rfl, by kernel_rfl⟩
theorem ln_438_1 (c : Base) : LocName (sc_438 c) 1 "rows" := ⟨rfl, by kernel_rfl, by kernel_rfl⟩
noncomputable def B_Program___init__ : SS := (seqS (asgS (asgA 441 0 (lE 0)) (lE 1))
  (seqS (asgS (asgA 441 1 (lE 0)) (lE 2))
  (seqS (asgS (asgA 441 2 (lE 0)) (lE 3))
  (seqS (asgS (asgA 441 3 (lE 0)) (lE 4))
  nilS))))
theorem S_Program___init__ (c : Base) : SoundB (cx c) 0 (sc_438 c) (stOf (cx c).K 438) B_Program___init__ := (sb_cons (s_asg (u_attr (l_name (ln_438_0 c)) (so_441_0 c)) (l_name (ln_438_1 c)) (fun _ => rfl) (fun _ => rfl) (fun _ => rfl))
  (sb_cons (s_asg (u_attr (l_name (ln_438_0 c)) (so_441_1 c)) (l_name (ln_438_2 c)) (fun _ => rfl) (fun _ => rfl) (fun _ => rfl))
  (sb_cons (s_asg (u_attr (l_name (ln_438_0 c)) (so_441_2 c)) (l_name (ln_438_3 c)) (fun _ => rfl) (fun _ => rfl) (fun _ => rfl))
  (sb_cons (s_asg (u_attr (l_name (ln_438_0 c)) (so_441_3 c)) (l_name (ln_438_4 c)) (fun _ => rfl) (fun _ => rfl) (fun _ => rfl))
  sb_nil))))
noncomputable def F_Program___init__ : FnG := runB [5] 5 5 [] B_Program___init__
theorem ok_Program___init__ (c : Base) : CallOk (cx c) 1 (.ref ((cx c).ga 438)) F_Program___init__ := fn_okK (fk_438 c) (S_Program___init__ c)
theorem kp_441 (c : Base) : keepIn (cx c).K (.ref ((cx c).ga 441)) = true := by kernel_rfl
theorem gv_Program (c : Base) : nsIn (cx c).K mainGlobals "Program" = some (some (.ref 441)) := by kernel_rfl
theorem gn_529_Program (c : Base) : GloName (cx c) (sc_529 c) "Program" (.ref 441) := ⟨gv_Program c, by kernel_rfl, by kernel_rfl⟩
theorem fn_529_Program (c : Base) : FnName (cx c) (sc_529 c) "Program" 441 := ⟨gn_529_Program c, kp_441 c⟩
theorem kp_466 (c : Base) : keepIn (cx c).K (.ref ((cx c).ga 466)) = true := by kernel_rfl
theorem mo_466 (c : Base) : MethOk (cx c) 476 "add" 466 := ⟨by kernel_rfl, by kernel_rfl, by kernel_rfl, kp_466 c, (by decide : ("add" : Str) ∉ cAt 476)⟩
noncomputable def sc_466 (c : Base) : Sc := ⟨(fdOf (cx c).K 466).scope, ["self", "row"], [], fun _ => True⟩
theorem fk_466 (c : Base) : FnK (cx c) 466 ["self", "row"] ["self", "row"] [2] [] where
  at_ := by kernel_rfl
  isF := ⟨by kernel_rfl, by kernel_rfl, by kernel_rfl, by kernel_rfl⟩
  code := by kernel_rfl
  bind := bindD (ds := []) (fun _ _ => .nil) (one_ar (fun S ws h => by obtain ⟨w0, w1, rfl⟩ := len2 h; kernel_rfl))
  ars := by decide
  pre := ⟨[], rfl⟩
  nd := by decide
  loc := by kernel_rfl
  cell := by kernel_rfl
  co := by kernel_rfl
  gen := by kernel_rfl
  kind := by kernel_rfl
theorem ln_466_0 (c : Base) : LocName (sc_466 c) 0 "self" := ⟨rfl, by kernel_rfl, by kernel_rfl⟩
theorem bn_466_len (c : Base) : BltName (cx c) (sc_466 c) "len" (.builtin "len") := ⟨gz_len c, by kernel_rfl, by decide, by kernel_rfl, by kernel_rfl⟩
theorem ln_466_1 (c : Base) : LocName (sc_466 c) 1 "row" := ⟨rfl, by kernel_rfl, by kernel_rfl⟩
noncomputable def B_RowMaker_add : SS := (seqS (exprS (appendE (attrE 476 0 (lE 0)) (lE 1)))
  (seqS (retS (bE subV (bltE lenG (esC (attrE 476 0 (lE 0)) esN)) (cE (.int 1))))
  nilS))
theorem S_RowMaker_add (c : Base) : SoundB (cx c) 0 (sc_466 c) (stOf (cx c).K 466) B_RowMaker_add := (sb_cons (s_expr (b_append (b_attr (l_name (ln_466_0 c)) (ao_476_0 c) (fun _ => rfl)) (l_name (ln_466_1 c)) (fun _ => ⟨rfl, rfl⟩) (fun _ => rfl)) (fun _ => rfl))
  (sb_cons (s_ret (b_op (b_blt (bn_466_len c) f_len (es_cons (b_attr (l_name (ln_466_0 c)) (ao_476_0 c) (fun _ => rfl)) es_nil (fun _ => rfl)) (fun _ => ⟨rfl, rfl⟩) (fun _ => ⟨rfl, trivial⟩) (fun _ => rfl)) c_int bin_sub))
  sb_nil))
noncomputable def F_RowMaker_add : FnG := runB [2] 2 2 [] B_RowMaker_add
theorem ok_RowMaker_add (c : Base) : CallOk (cx c) 1 (.ref ((cx c).ga 466)) F_RowMaker_add := fn_okK (fk_466 c) (S_RowMaker_add c)
theorem ln_529_0 (c : Base) : LocName (sc_529 c) 0 "node" := ⟨rfl, by kernel_rfl, by kernel_rfl⟩
noncomputable def sc_487 (c : Base) : Sc := ⟨(fdOf (cx c).K 487).scope, ["maker", "node", "word", "one", "register"], [], fun _ => True⟩
theorem fk_487 (c : Base) : FnK (cx c) 487 ["maker", "node"] ["maker", "node", "word", "one", "register"] [2] [] where
  at_ := by kernel_rfl
  isF := ⟨by kernel_rfl, by kernel_rfl, by kernel_rfl, by kernel_rfl⟩
  code := by kernel_rfl
  bind := bindD (ds := []) (fun _ _ => .nil) (one_ar (fun S ws h => by obtain ⟨w0, w1, rfl⟩ := len2 h; kernel_rfl))
  ars := by decide
  pre := ⟨["word", "one", "register"], rfl⟩
  nd := by decide
  loc := by kernel_rfl
  cell := by kernel_rfl
  co := by kernel_rfl
  gen := by kernel_rfl
  kind := by kernel_rfl
theorem ln_487_2 (c : Base) : LocName (sc_487 c) 2 "word" := ⟨rfl, by kernel_rfl, by kernel_rfl⟩
theorem ln_487_0 (c : Base) : LocName (sc_487 c) 0 "maker" := ⟨rfl, by kernel_rfl, by kernel_rfl⟩
theorem ln_487_1 (c : Base) : LocName (sc_487 c) 1 "node" := ⟨rfl, by kernel_rfl, by kernel_rfl⟩
theorem ln_487_3 (c : Base) : LocName (sc_487 c) 3 "one" := ⟨rfl, by kernel_rfl, by kernel_rfl⟩
theorem kp_487 (c : Base) : keepIn (cx c).K (.ref ((cx c).ga 487)) = true := by kernel_rfl
theorem gv_add_node (c : Base) : nsIn (cx c).K mainGlobals "add_node" = some (some (.ref 487)) := by kernel_rfl
theorem gn_487_add_node (c : Base) : GloName (cx c) (sc_487 c) "add_node" (.ref 487) := ⟨gv_add_node c, by kernel_rfl, by kernel_rfl⟩
theorem fn_487_add_node (c : Base) : FnName (cx c) (sc_487 c) "add_node" 487 := ⟨gn_487_add_node c, kp_487 c⟩
theorem kp_494 (c : Base) : keepIn (cx c).K (.ref ((cx c).ga 494)) = true := by kernel_rfl
theorem gv_add_branches (c : Base) : nsIn (cx c).K mainGlobals "add_branches" = some (some (.ref 494)) := by kernel_rfl
theorem gn_487_add_branches (c : Base) : GloName (cx c) (sc_487 c) "add_branches" (.ref 494) := ⟨gv_add_branches c, by kernel_rfl, by kernel_rfl⟩
theorem fn_487_add_branches (c : Base) : FnName (cx c) (sc_487 c) "add_branches" 494 := ⟨gn_487_add_branches c, kp_494 c⟩
theorem ln_487_4 (c : Base) : LocName (sc_487 c) 4 "register" := ⟨rfl, by kernel_rfl, by kernel_rfl⟩
theorem kp_473 (c : Base) : keepIn (cx c).K (.ref ((cx c).ga 473)) = true := by kernel_rfl
theorem mo_473 (c : Base) : MethOk (cx c) 476 "fresh" 473 := ⟨by kernel_rfl, by kernel_rfl, by kernel_rfl, kp_473 c, (by decide : ("fresh" : Str) ∉ cAt 476)⟩
noncomputable def sc_473 (c : Base) : Sc := ⟨(fdOf (cx c).K 473).scope, ["self"], [], fun _ => True⟩
theorem fk_473 (c : Base) : FnK (cx c) 473 ["self"] ["self"] [1] [] where
  at_ := by kernel_rfl
  isF := ⟨by kernel_rfl, by kernel_rfl, by kernel_rfl, by kernel_rfl⟩
  code := by kernel_rfl
  bind := bindD (ds := []) (fun _ _ => .nil) (one_ar (fun S ws h => by obtain ⟨w0, rfl⟩ := len1 h; kernel_rfl))
  ars := by decide
  pre := ⟨[], rfl⟩
  nd := by decide
  loc := by kernel_rfl
  cell := by kernel_rfl
  co := by kernel_rfl
  gen := by kernel_rfl
  kind := by kernel_rfl
theorem ln_473_0 (c : Base) : LocName (sc_473 c) 0 "self" := ⟨rfl, by kernel_rfl, by kernel_rfl⟩
theorem nd_476 : (cAt 476).Nodup := by decide
theorem fw_476 : (cAt 476).length ≤ 100 := by decide
theorem so_476_1 (c : Base) : SetOk (cx c) 476 1 "registers" := ⟨rfl, nd_476, fw_476, by kernel_rfl, by kernel_rfl, by kernel_rfl, by kernel_rfl⟩
noncomputable def B_RowMaker_fresh : SS := (seqS (augA 476 1 iaddV (lE 0) (cE (.int 1)))
  (seqS (retS (bE subV (attrE 476 1 (lE 0)) (cE (.int 1))))
  nilS))
theorem S_RowMaker_fresh (c : Base) : SoundB (cx c) 0 (sc_473 c) (stOf (cx c).K 473) B_RowMaker_fresh := (sb_cons (s_augA (l_name (ln_473_0 c)) (ao_476_1 c) (so_476_1 c) c_int bin_iadd)
  (sb_cons (s_ret (b_op (b_attr (l_name (ln_473_0 c)) (ao_476_1 c) (fun _ => rfl)) c_int bin_sub))
  sb_nil))
noncomputable def F_RowMaker_fresh : FnG := runB [1] 1 1 [] B_RowMaker_fresh
theorem ok_RowMaker_fresh (c : Base) : CallOk (cx c) 1 (.ref ((cx c).ga 473)) F_RowMaker_fresh := fn_okK (fk_473 c) (S_RowMaker_fresh c)
noncomputable def sc_508 (c : Base) : Sc := ⟨(fdOf (cx c).K 508).scope, ["maker", "node", "word", "inner", "least", "most", "mode"], [], fun _ => True⟩
theorem fk_508 (c : Base) : FnK (cx c) 508 ["maker", "node"] ["maker", "node", "word", "inner", "least", "most", "mode"] [2] [] where
  at_ := by kernel_rfl
  isF := ⟨by kernel_rfl, by kernel_rfl, by kernel_rfl, by kernel_rfl⟩
  code := by kernel_rfl
  bind := bindD (ds := []) (fun _ _ => .nil) (one_ar (fun S ws h => by obtain ⟨w0, w1, rfl⟩ := len2 h; kernel_rfl))
  ars := by decide
  pre := ⟨["word", "inner", "least", "most", "mode"], rfl⟩
  nd := by decide
  loc := by kernel_rfl
  cell := by kernel_rfl
  co := by kernel_rfl
  gen := by kernel_rfl
  kind := by kernel_rfl
theorem ln_508_6 (c : Base) : LocName (sc_508 c) 6 "mode" := ⟨rfl, by kernel_rfl, by kernel_rfl⟩
theorem ln_508_3 (c : Base) : LocName (sc_508 c) 3 "inner" := ⟨rfl, by kernel_rfl, by kernel_rfl⟩
theorem vr_424 (c : Base) {led ρ} : VR (cx c) led ρ (.tup [(.str [115, 105, 103, 110]), (.str [97, 110, 121]), (.str [115, 101, 116])]) (.ref 424) := .tup [(.str [115, 105, 103, 110]), (.str [97, 110, 121]), (.str [115, 101, 116])] [(.str ⟨[115, 105, 103, 110].toArray⟩ 823), (.str ⟨[97, 110, 121].toArray⟩ 824), (.str ⟨[115, 101, 116].toArray⟩ 825)] 424 0 (.inr (by kernel_rfl)) (.cons (.str _ _) (.cons (.str _ _) (.cons (.str _ _) .nil)))
theorem gv_ONE_SIGN (c : Base) : nsIn (cx c).K mainGlobals "ONE_SIGN" = some (some (.ref 424)) := by kernel_rfl
theorem gn_508_ONE_SIGN (c : Base) : GloName (cx c) (sc_508 c) "ONE_SIGN" (.ref 424) := ⟨gv_ONE_SIGN c, by kernel_rfl, by kernel_rfl⟩
theorem ln_508_0 (c : Base) : LocName (sc_508 c) 0 "maker" := ⟨rfl, by kernel_rfl, by kernel_rfl⟩
theorem ln_508_5 (c : Base) : LocName (sc_508 c) 5 "most" := ⟨rfl, by kernel_rfl, by kernel_rfl⟩
theorem ln_508_4 (c : Base) : LocName (sc_508 c) 4 "least" := ⟨rfl, by kernel_rfl, by kernel_rfl⟩
theorem ln_508_2 (c : Base) : LocName (sc_508 c) 2 "word" := ⟨rfl, by kernel_rfl, by kernel_rfl⟩
theorem ln_508_1 (c : Base) : LocName (sc_508 c) 1 "node" := ⟨rfl, by kernel_rfl, by kernel_rfl⟩
noncomputable def B_add_repeats : SS := (seqS (asgS (asgT [2, 3, 4, 5, 6]) (lE 1))
  (seqS (ifS (tE (bE eqV (lE 6) (cE (.str [111, 119, 110]))))
  noS
  (seqS (ifS (tE (hE inT (subE (lE 3) (cE (.int 0))) (cE (.tup [(.str [115, 105, 103, 110]), (.str [97, 110, 121]), (.str [115, 101, 116])]))))
  (seqS (exprS (methE 476 F_RowMaker_add (lE 0) (esC (tupE (esC (cE (.str [114, 117, 110])) (esC (lE 3) (esC (lE 4) (esC (lE 5) (esC (bE eqV (lE 6) (cE (.str [108, 97, 122, 121]))) esN)))))) esN)))
  nilS)
  noS)
  nilS))
  nilS))
theorem S_add_repeats (c : Base) : SoundB (cx c) 1 (sc_508 c) (stOf (cx c).K 508) B_add_repeats := (sb_cons (s_asg (u_tup (.cons (ln_508_2 c) (.cons (ln_508_3 c) (.cons (ln_508_4 c) (.cons (ln_508_5 c) (.cons (ln_508_6 c) .nil)))))) (l_name (ln_508_1 c)) (fun _ => rfl) (fun _ => rfl) (fun _ => rfl))
  (sb_cons (s_if (t_cmp (l_name (ln_508_6 c)) (c_str (by kernel_rfl)) bin_eq rfl)
  no_b
  (sb_cons (s_if (ht_cmp (b_sub (l_name (ln_508_3 c)) c_int (fun _ _ => rfl)) (g_name (gn_508_ONE_SIGN c) (fun _ _ => (vr_424 c))) binh_in rfl)
  (sb_cons (s_expr (b_meth (l_name (ln_508_0 c)) (mo_466 c) ((ok_RowMaker_add c).up rfl) (es_cons (b_tup (es_cons (c_str (by kernel_rfl)) (es_cons (l_name (ln_508_3 c)) (es_cons (l_name (ln_508_4 c)) (es_cons (l_name (ln_508_5 c)) (es_cons (b_cmp (l_name (ln_508_6 c)) (c_str (by kernel_rfl)) bin_eq rfl) es_nil (fun _ => rfl)) (fun _ => rfl)) (fun _ => rfl)) (fun _ => rfl)) (fun _ => rfl))) es_nil (fun _ => rfl)) (fun _ => ⟨rfl, rfl⟩) nilOk_cons (fun _ => rfl)) (fun _ => rfl))
  sb_nil)
  no_b)
  sb_nil))
  sb_nil))
noncomputable def F_add_repeats : FnG := runB [2] 2 7 [] B_add_repeats
theorem ok_add_repeats (c : Base) : CallOk (cx c) 2 (.ref ((cx c).ga 508)) F_add_repeats := fn_okK (fk_508 c) (S_add_repeats c)
theorem kp_508 (c : Base) : keepIn (cx c).K (.ref ((cx c).ga 508)) = true := by kernel_rfl
theorem gv_add_repeats (c : Base) : nsIn (cx c).K mainGlobals "add_repeats" = some (some (.ref 508)) := by kernel_rfl
theorem gn_487_add_repeats (c : Base) : GloName (cx c) (sc_487 c) "add_repeats" (.ref 508) := ⟨gv_add_repeats c, by kernel_rfl, by kernel_rfl⟩
theorem fn_487_add_repeats (c : Base) : FnName (cx c) (sc_487 c) "add_repeats" 508 := ⟨gn_487_add_repeats c, kp_508 c⟩
noncomputable def sc_494 (c : Base) : Sc := ⟨(fdOf (cx c).K 494).scope, ["maker", "branches", "jumps", "one", "split", "at"], [], fun _ => True⟩
theorem fk_494 (c : Base) : FnK (cx c) 494 ["maker", "branches"] ["maker", "branches", "jumps", "one", "split", "at"] [2] [] where
  at_ := by kernel_rfl
  isF := ⟨by kernel_rfl, by kernel_rfl, by kernel_rfl, by kernel_rfl⟩
  code := by kernel_rfl
  bind := bindD (ds := []) (fun _ _ => .nil) (one_ar (fun S ws h => by obtain ⟨w0, w1, rfl⟩ := len2 h; kernel_rfl))
  ars := by decide
  pre := ⟨["jumps", "one", "split", "at"], rfl⟩
  nd := by decide
  loc := by kernel_rfl
  cell := by kernel_rfl
  co := by kernel_rfl
  gen := by kernel_rfl
  kind := by kernel_rfl
theorem ln_494_5 (c : Base) : LocName (sc_494 c) 5 "at" := ⟨rfl, by kernel_rfl, by kernel_rfl⟩
theorem ln_494_0 (c : Base) : LocName (sc_494 c) 0 "maker" := ⟨rfl, by kernel_rfl, by kernel_rfl⟩
theorem bn_494_len (c : Base) : BltName (cx c) (sc_494 c) "len" (.builtin "len") := ⟨gz_len c, by kernel_rfl, by decide, by kernel_rfl, by kernel_rfl⟩
theorem ln_494_2 (c : Base) : LocName (sc_494 c) 2 "jumps" := ⟨rfl, by kernel_rfl, by kernel_rfl⟩
theorem ln_494_1 (c : Base) : LocName (sc_494 c) 1 "branches" := ⟨rfl, by kernel_rfl, by kernel_rfl⟩
theorem gn_494_add_node (c : Base) : GloName (cx c) (sc_494 c) "add_node" (.ref 487) := ⟨gv_add_node c, by kernel_rfl, by kernel_rfl⟩
theorem fn_494_add_node (c : Base) : FnName (cx c) (sc_494 c) "add_node" 487 := ⟨gn_494_add_node c, kp_487 c⟩
theorem ln_494_3 (c : Base) : LocName (sc_494 c) 3 "one" := ⟨rfl, by kernel_rfl, by kernel_rfl⟩
theorem ln_494_4 (c : Base) : LocName (sc_494 c) 4 "split" := ⟨rfl, by kernel_rfl, by kernel_rfl⟩
noncomputable def B_add_node (g_add_node : FnG) (g_add_branches : FnG) : SS := (seqS (asgS (asgL 2) (subE (lE 1) (cE (.int 0))))
  (seqS (ifS (tE (hE inT (lE 2) (tupE (esC (cE (.str [115, 105, 103, 110])) (esC (cE (.str [97, 110, 121])) (esC (cE (.str [115, 101, 116])) (esC (cE (.str [97, 116])) (esC (cE (.str [98, 97, 99, 107])) esN))))))))
  (seqS (exprS (methE 476 F_RowMaker_add (lE 0) (esC (lE 1) esN)))
  nilS)
  (seqS (ifS (tE (bE eqV (lE 2) (cE (.str [115, 101, 113]))))
  (seqS (forVS (subE (lE 1) (cE (.int 1))) (asgL 3)
  (seqS (exprS (callE g_add_node (esC (lE 0) (esC (lE 3) esN))))
  nilS) 1000)
  nilS)
  (seqS (ifS (tE (bE eqV (lE 2) (cE (.str [97, 108, 116]))))
  (seqS (exprS (callE g_add_branches (esC (lE 0) (esC (subE (lE 1) (cE (.int 1))) esN))))
  nilS)
  (seqS (ifS (tE (bE eqV (lE 2) (cE (.str [103, 114, 111, 117, 112]))))
  (seqS (asgS (asgL 4) (methE 476 F_RowMaker_fresh (lE 0) esN))
  (seqS (exprS (methE 476 F_RowMaker_add (lE 0) (esC (tupE (esC (cE (.str [111, 112, 101, 110])) (esC (lE 4) esN))) esN)))
  (seqS (exprS (callE g_add_node (esC (lE 0) (esC (subE (lE 1) (cE (.int 2))) esN))))
  (seqS (exprS (methE 476 F_RowMaker_add (lE 0) (esC (tupE (esC (cE (.str [99, 108, 111, 115, 101])) (esC (subE (lE 1) (cE (.int 1))) (esC (lE 4) esN)))) esN)))
  nilS))))
  (seqS (ifS (tE (bE eqV (lE 2) (cE (.str [114, 101, 112]))))
  (seqS (exprS (callE F_add_repeats (esC (lE 0) (esC (lE 1) esN))))
  nilS)
  noS)
  nilS))
  nilS))
  nilS))
  nilS))
  nilS))
theorem S_add_node (c : Base) (d : Nat) (hd : 2 ≤ d) {g_add_node : FnG} (h_add_node : CallOk (cx c) d (.ref ((cx c).ga 487)) g_add_node) {g_add_branches : FnG} (h_add_branches : CallOk (cx c) d (.ref ((cx c).ga 494)) g_add_branches) : SoundB (cx c) d (sc_487 c) (stOf (cx c).K 487) (B_add_node g_add_node g_add_branches) := (sb_cons (s_asg (u_name (ln_487_2 c)) (b_sub (l_name (ln_487_1 c)) c_int (fun _ _ => rfl)) (fun _ => rfl) (fun _ => rfl) (fun _ => rfl))
  (sb_cons (s_if (ht_cmp (l_name (ln_487_2 c)) (b_tup (es_cons (c_str (by kernel_rfl)) (es_cons (c_str (by kernel_rfl)) (es_cons (c_str (by kernel_rfl)) (es_cons (c_str (by kernel_rfl)) (es_cons (c_str (by kernel_rfl)) es_nil (fun _ => rfl)) (fun _ => rfl)) (fun _ => rfl)) (fun _ => rfl)) (fun _ => rfl))) binh_in rfl)
  (sb_cons (s_expr (b_meth (l_name (ln_487_0 c)) (mo_466 c) ((ok_RowMaker_add c).le (Nat.le_trans (Nat.le_of_ble_eq_true rfl) hd)) (es_cons (l_name (ln_487_1 c)) es_nil (fun _ => rfl)) (fun _ => ⟨rfl, rfl⟩) nilOk_cons (fun _ => rfl)) (fun _ => rfl))
  sb_nil)
  (sb_cons (s_if (t_cmp (l_name (ln_487_2 c)) (c_str (by kernel_rfl)) bin_eq rfl)
  (sb_cons (s_for 1000 (b_sub (l_name (ln_487_1 c)) c_int (fun _ _ => rfl)) (u_name (ln_487_3 c))
  (sb_cons (s_expr (b_call (fn_487_add_node c) h_add_node (es_cons (l_name (ln_487_0 c)) (es_cons (l_name (ln_487_3 c)) es_nil (fun _ => rfl)) (fun _ => rfl)) (fun _ => ⟨rfl, rfl⟩) nilOk_cons (fun _ => rfl)) (fun _ => rfl))
  sb_nil) (.inl (fun _ _ => rfl)) (fun _ _ => rfl))
  sb_nil)
  (sb_cons (s_if (t_cmp (l_name (ln_487_2 c)) (c_str (by kernel_rfl)) bin_eq rfl)
  (sb_cons (s_expr (b_call (fn_487_add_branches c) h_add_branches (es_cons (l_name (ln_487_0 c)) (es_cons (b_sub (l_name (ln_487_1 c)) c_int (fun _ _ => rfl)) es_nil (fun _ => rfl)) (fun _ => rfl)) (fun _ => ⟨rfl, rfl⟩) nilOk_cons (fun _ => rfl)) (fun _ => rfl))
  sb_nil)
  (sb_cons (s_if (t_cmp (l_name (ln_487_2 c)) (c_str (by kernel_rfl)) bin_eq rfl)
  (sb_cons (s_asg (u_name (ln_487_4 c)) (b_meth (l_name (ln_487_0 c)) (mo_473 c) ((ok_RowMaker_fresh c).le (Nat.le_trans (Nat.le_of_ble_eq_true rfl) hd)) es_nil (fun _ => ⟨rfl, trivial⟩) nilOk_nil (fun _ => rfl)) (fun _ => rfl) (fun _ => rfl) (fun _ => rfl))
  (sb_cons (s_expr (b_meth (l_name (ln_487_0 c)) (mo_466 c) ((ok_RowMaker_add c).le (Nat.le_trans (Nat.le_of_ble_eq_true rfl) hd)) (es_cons (b_tup (es_cons (c_str (by kernel_rfl)) (es_cons (l_name (ln_487_4 c)) es_nil (fun _ => rfl)) (fun _ => rfl))) es_nil (fun _ => rfl)) (fun _ => ⟨rfl, rfl⟩) nilOk_cons (fun _ => rfl)) (fun _ => rfl))
  (sb_cons (s_expr (b_call (fn_487_add_node c) h_add_node (es_cons (l_name (ln_487_0 c)) (es_cons (b_sub (l_name (ln_487_1 c)) c_int (fun _ _ => rfl)) es_nil (fun _ => rfl)) (fun _ => rfl)) (fun _ => ⟨rfl, rfl⟩) nilOk_cons (fun _ => rfl)) (fun _ => rfl))
  (sb_cons (s_expr (b_meth (l_name (ln_487_0 c)) (mo_466 c) ((ok_RowMaker_add c).le (Nat.le_trans (Nat.le_of_ble_eq_true rfl) hd)) (es_cons (b_tup (es_cons (c_str (by kernel_rfl)) (es_cons (b_sub (l_name (ln_487_1 c)) c_int (fun _ _ => rfl)) (es_cons (l_name (ln_487_4 c)) es_nil (fun _ => rfl)) (fun _ => rfl)) (fun _ => rfl))) es_nil (fun _ => rfl)) (fun _ => ⟨rfl, rfl⟩) nilOk_cons (fun _ => rfl)) (fun _ => rfl))
  sb_nil))))
  (sb_cons (s_if (t_cmp (l_name (ln_487_2 c)) (c_str (by kernel_rfl)) bin_eq rfl)
  (sb_cons (s_expr (b_call (fn_487_add_repeats c) ((ok_add_repeats c).le (Nat.le_trans (Nat.le_of_ble_eq_true rfl) hd)) (es_cons (l_name (ln_487_0 c)) (es_cons (l_name (ln_487_1 c)) es_nil (fun _ => rfl)) (fun _ => rfl)) (fun _ => ⟨rfl, rfl⟩) nilOk_cons (fun _ => rfl)) (fun _ => rfl))
  sb_nil)
  no_b)
  sb_nil))
  sb_nil))
  sb_nil))
  sb_nil))
  sb_nil))
noncomputable def B_add_branches (g_add_node : FnG) : SS := (seqS (asgS (asgL 2) (listE esN))
  (seqS (forVS (sliE (lE 1) partN (partE (bE subV (bltE lenG (esC (lE 1) esN)) (cE (.int 1))))) (asgL 3)
  (seqS (asgS (asgL 4) (methE 476 F_RowMaker_add (lE 0) (esC (tupE (esC (cE (.str [115, 112, 108, 105, 116])) (esC (cE (.int 0)) (esC (cE (.int 0)) esN)))) esN)))
  (seqS (exprS (callE g_add_node (esC (lE 0) (esC (lE 3) esN))))
  (seqS (exprS (appendE (lE 2) (methE 476 F_RowMaker_add (lE 0) (esC (tupE (esC (cE (.str [106, 117, 109, 112])) (esC (cE (.int 0)) esN))) esN))))
  (seqS (asgS (asgI (attrE 476 0 (lE 0)) (lE 4)) (tupE (esC (cE (.str [115, 112, 108, 105, 116])) (esC (bE addV (lE 4) (cE (.int 1))) (esC (bltE lenG (esC (attrE 476 0 (lE 0)) esN)) esN)))))
  nilS)))) 1000)
  (seqS (exprS (callE g_add_node (esC (lE 0) (esC (subE (lE 1) (bE subV (bltE lenG (esC (lE 1) esN)) (cE (.int 1)))) esN))))
  (seqS (forVS (lE 2) (asgL 5)
  (seqS (asgS (asgI (attrE 476 0 (lE 0)) (lE 5)) (tupE (esC (cE (.str [106, 117, 109, 112])) (esC (bltE lenG (esC (attrE 476 0 (lE 0)) esN)) esN))))
  nilS) 1000)
  nilS))))
theorem S_add_branches (c : Base) (d : Nat) (hd : 2 ≤ d) {g_add_node : FnG} (h_add_node : CallOk (cx c) d (.ref ((cx c).ga 487)) g_add_node) : SoundB (cx c) d (sc_494 c) (stOf (cx c).K 494) (B_add_branches g_add_node) := (sb_cons (s_asg (u_name (ln_494_2 c)) (b_list es_nil) (fun _ => rfl) (fun _ => rfl) (fun _ => rfl))
  (sb_cons (s_for 1000 (b_slice (l_name (ln_494_1 c)) p_none (p_some (b_op (b_blt (bn_494_len c) f_len (es_cons (l_name (ln_494_1 c)) es_nil (fun _ => rfl)) (fun _ => ⟨rfl, rfl⟩) (fun _ => ⟨rfl, trivial⟩) (fun _ => rfl)) c_int bin_sub)) (fun _ _ => rfl) (fun _ _ => rfl)) (u_name (ln_494_3 c))
  (sb_cons (s_asg (u_name (ln_494_4 c)) (b_meth (l_name (ln_494_0 c)) (mo_466 c) ((ok_RowMaker_add c).le (Nat.le_trans (Nat.le_of_ble_eq_true rfl) hd)) (es_cons (b_tup (es_cons (c_str (by kernel_rfl)) (es_cons c_int (es_cons c_int es_nil (fun _ => rfl)) (fun _ => rfl)) (fun _ => rfl))) es_nil (fun _ => rfl)) (fun _ => ⟨rfl, rfl⟩) nilOk_cons (fun _ => rfl)) (fun _ => rfl) (fun _ => rfl) (fun _ => rfl))
  (sb_cons (s_expr (b_call (fn_494_add_node c) h_add_node (es_cons (l_name (ln_494_0 c)) (es_cons (l_name (ln_494_3 c)) es_nil (fun _ => rfl)) (fun _ => rfl)) (fun _ => ⟨rfl, rfl⟩) nilOk_cons (fun _ => rfl)) (fun _ => rfl))
  (sb_cons (s_expr (b_append (l_name (ln_494_2 c)) (b_meth (l_name (ln_494_0 c)) (mo_466 c) ((ok_RowMaker_add c).le (Nat.le_trans (Nat.le_of_ble_eq_true rfl) hd)) (es_cons (b_tup (es_cons (c_str (by kernel_rfl)) (es_cons c_int es_nil (fun _ => rfl)) (fun _ => rfl))) es_nil (fun _ => rfl)) (fun _ => ⟨rfl, rfl⟩) nilOk_cons (fun _ => rfl)) (fun _ => ⟨rfl, rfl⟩) (fun _ => rfl)) (fun _ => rfl))
  (sb_cons (s_asg (u_item (b_attr (l_name (ln_494_0 c)) (ao_476_0 c) (fun _ => rfl)) (l_name (ln_494_4 c))) (b_tup (es_cons (c_str (by kernel_rfl)) (es_cons (b_op (l_name (ln_494_4 c)) c_int bin_add) (es_cons (b_blt (bn_494_len c) f_len (es_cons (b_attr (l_name (ln_494_0 c)) (ao_476_0 c) (fun _ => rfl)) es_nil (fun _ => rfl)) (fun _ => ⟨rfl, rfl⟩) (fun _ => ⟨rfl, trivial⟩) (fun _ => rfl)) es_nil (fun _ => rfl)) (fun _ => rfl)) (fun _ => rfl))) (fun _ => rfl) (fun _ => rfl) (fun _ => rfl))
  sb_nil)))) (.inl (fun _ _ => rfl)) (fun _ _ => rfl))
  (sb_cons (s_expr (b_call (fn_494_add_node c) h_add_node (es_cons (l_name (ln_494_0 c)) (es_cons (b_sub (l_name (ln_494_1 c)) (b_op (b_blt (bn_494_len c) f_len (es_cons (l_name (ln_494_1 c)) es_nil (fun _ => rfl)) (fun _ => ⟨rfl, rfl⟩) (fun _ => ⟨rfl, trivial⟩) (fun _ => rfl)) c_int bin_sub) (fun _ _ => rfl)) es_nil (fun _ => rfl)) (fun _ => rfl)) (fun _ => ⟨rfl, rfl⟩) nilOk_cons (fun _ => rfl)) (fun _ => rfl))
  (sb_cons (s_for 1000 (l_name (ln_494_2 c)) (u_name (ln_494_5 c))
  (sb_cons (s_asg (u_item (b_attr (l_name (ln_494_0 c)) (ao_476_0 c) (fun _ => rfl)) (l_name (ln_494_5 c))) (b_tup (es_cons (c_str (by kernel_rfl)) (es_cons (b_blt (bn_494_len c) f_len (es_cons (b_attr (l_name (ln_494_0 c)) (ao_476_0 c) (fun _ => rfl)) es_nil (fun _ => rfl)) (fun _ => ⟨rfl, rfl⟩) (fun _ => ⟨rfl, trivial⟩) (fun _ => rfl)) es_nil (fun _ => rfl)) (fun _ => rfl))) (fun _ => rfl) (fun _ => rfl) (fun _ => rfl))
  sb_nil) (.inl (fun _ _ => rfl)) (fun _ _ => rfl))
  sb_nil))))
noncomputable def F_add_branches_1 : FnG := runB [2] 2 6 [] (B_add_branches noF)
theorem ok_add_branches_1 (c : Base) : CallOk (cx c) 3 (.ref ((cx c).ga 494)) F_add_branches_1 := fn_okK (fk_494 c) (S_add_branches c 2 (Nat.le_of_ble_eq_true rfl) (no_f))
noncomputable def F_add_node_1 : FnG := runB [2] 2 5 [] (B_add_node noF F_add_branches_1)
theorem ok_add_node_1 (c : Base) : CallOk (cx c) 4 (.ref ((cx c).ga 487)) F_add_node_1 := fn_okK (fk_487 c) (S_add_node c 3 (Nat.le_of_ble_eq_true rfl) (no_f) ((ok_add_branches_1 c).up rfl))
noncomputable def F_add_branches_2 : FnG := runB [2] 2 6 [] (B_add_branches F_add_node_1)
theorem ok_add_branches_2 (c : Base) : CallOk (cx c) 5 (.ref ((cx c).ga 494)) F_add_branches_2 := fn_okK (fk_494 c) (S_add_branches c 4 (Nat.le_of_ble_eq_true rfl) ((ok_add_node_1 c).up rfl))
noncomputable def F_add_node_2 : FnG := runB [2] 2 5 [] (B_add_node F_add_node_1 F_add_branches_2)
theorem ok_add_node_2 (c : Base) : CallOk (cx c) 6 (.ref ((cx c).ga 487)) F_add_node_2 := fn_okK (fk_487 c) (S_add_node c 5 (Nat.le_of_ble_eq_true rfl) ((ok_add_node_1 c).up rfl) ((ok_add_branches_2 c).up rfl))
noncomputable def F_add_branches_3 : FnG := runB [2] 2 6 [] (B_add_branches F_add_node_2)
theorem ok_add_branches_3 (c : Base) : CallOk (cx c) 7 (.ref ((cx c).ga 494)) F_add_branches_3 := fn_okK (fk_494 c) (S_add_branches c 6 (Nat.le_of_ble_eq_true rfl) ((ok_add_node_2 c).up rfl))
noncomputable def F_add_node_3 : FnG := runB [2] 2 5 [] (B_add_node F_add_node_2 F_add_branches_3)
theorem ok_add_node_3 (c : Base) : CallOk (cx c) 8 (.ref ((cx c).ga 487)) F_add_node_3 := fn_okK (fk_487 c) (S_add_node c 7 (Nat.le_of_ble_eq_true rfl) ((ok_add_node_2 c).up rfl) ((ok_add_branches_3 c).up rfl))
noncomputable def F_add_branches_4 : FnG := runB [2] 2 6 [] (B_add_branches F_add_node_3)
theorem ok_add_branches_4 (c : Base) : CallOk (cx c) 9 (.ref ((cx c).ga 494)) F_add_branches_4 := fn_okK (fk_494 c) (S_add_branches c 8 (Nat.le_of_ble_eq_true rfl) ((ok_add_node_3 c).up rfl))
noncomputable def F_add_node_4 : FnG := runB [2] 2 5 [] (B_add_node F_add_node_3 F_add_branches_4)
theorem ok_add_node_4 (c : Base) : CallOk (cx c) 10 (.ref ((cx c).ga 487)) F_add_node_4 := fn_okK (fk_487 c) (S_add_node c 9 (Nat.le_of_ble_eq_true rfl) ((ok_add_node_3 c).up rfl) ((ok_add_branches_4 c).up rfl))
noncomputable def F_add_branches_5 : FnG := runB [2] 2 6 [] (B_add_branches F_add_node_4)
theorem ok_add_branches_5 (c : Base) : CallOk (cx c) 11 (.ref ((cx c).ga 494)) F_add_branches_5 := fn_okK (fk_494 c) (S_add_branches c 10 (Nat.le_of_ble_eq_true rfl) ((ok_add_node_4 c).up rfl))
noncomputable def F_add_node_5 : FnG := runB [2] 2 5 [] (B_add_node F_add_node_4 F_add_branches_5)
theorem ok_add_node_5 (c : Base) : CallOk (cx c) 12 (.ref ((cx c).ga 487)) F_add_node_5 := fn_okK (fk_487 c) (S_add_node c 11 (Nat.le_of_ble_eq_true rfl) ((ok_add_node_4 c).up rfl) ((ok_add_branches_5 c).up rfl))
noncomputable def F_add_branches_6 : FnG := runB [2] 2 6 [] (B_add_branches F_add_node_5)
theorem ok_add_branches_6 (c : Base) : CallOk (cx c) 13 (.ref ((cx c).ga 494)) F_add_branches_6 := fn_okK (fk_494 c) (S_add_branches c 12 (Nat.le_of_ble_eq_true rfl) ((ok_add_node_5 c).up rfl))
noncomputable def F_add_node_6 : FnG := runB [2] 2 5 [] (B_add_node F_add_node_5 F_add_branches_6)
theorem ok_add_node_6 (c : Base) : CallOk (cx c) 14 (.ref ((cx c).ga 487)) F_add_node_6 := fn_okK (fk_487 c) (S_add_node c 13 (Nat.le_of_ble_eq_true rfl) ((ok_add_node_5 c).up rfl) ((ok_add_branches_6 c).up rfl))
theorem gn_529_add_node (c : Base) : GloName (cx c) (sc_529 c) "add_node" (.ref 487) := ⟨gv_add_node c, by kernel_rfl, by kernel_rfl⟩
theorem fn_529_add_node (c : Base) : FnName (cx c) (sc_529 c) "add_node" 487 := ⟨gn_529_add_node c, kp_487 c⟩
theorem mk_476 (c : Base) : MakeOk (cx c) 476 459 := ⟨by kernel_rfl, by kernel_rfl, by kernel_rfl, trivial⟩
noncomputable def sc_459 (c : Base) : Sc := ⟨(fdOf (cx c).K 459).scope, ["self"], [], fun _ => True⟩
theorem fk_459 (c : Base) : FnK (cx c) 459 ["self"] ["self"] [1] [] where
  at_ := by kernel_rfl
  isF := ⟨by kernel_rfl, by kernel_rfl, by kernel_rfl, by kernel_rfl⟩
  code := by kernel_rfl
  bind := bindD (ds := []) (fun _ _ => .nil) (one_ar (fun S ws h => by obtain ⟨w0, rfl⟩ := len1 h; kernel_rfl))
  ars := by decide
  pre := ⟨[], rfl⟩
  nd := by decide
  loc := by kernel_rfl
  cell := by kernel_rfl
  co := by kernel_rfl
  gen := by kernel_rfl
  kind := by kernel_rfl
theorem ln_459_0 (c : Base) : LocName (sc_459 c) 0 "self" := ⟨rfl, by kernel_rfl, by kernel_rfl⟩
theorem so_476_0 (c : Base) : SetOk (cx c) 476 0 "rows" := ⟨rfl, nd_476, fw_476, by kernel_rfl, by kernel_rfl, by kernel_rfl, by kernel_rfl⟩
noncomputable def B_RowMaker___init__ : SS := (seqS (asgS (asgA 476 0 (lE 0)) (listE esN))
  (seqS (asgS (asgA 476 1 (lE 0)) (cE (.int 0)))
  nilS))
theorem S_RowMaker___init__ (c : Base) : SoundB (cx c) 0 (sc_459 c) (stOf (cx c).K 459) B_RowMaker___init__ := (sb_cons (s_asg (u_attr (l_name (ln_459_0 c)) (so_476_0 c)) (b_list es_nil) (fun _ => rfl) (fun _ => rfl) (fun _ => rfl))
  (sb_cons (s_asg (u_attr (l_name (ln_459_0 c)) (so_476_1 c)) c_int (fun _ => rfl) (fun _ => rfl) (fun _ => rfl))
  sb_nil))
noncomputable def F_RowMaker___init__ : FnG := runB [1] 1 1 [] B_RowMaker___init__
theorem ok_RowMaker___init__ (c : Base) : CallOk (cx c) 1 (.ref ((cx c).ga 459)) F_RowMaker___init__ := fn_okK (fk_459 c) (S_RowMaker___init__ c)
theorem kp_476 (c : Base) : keepIn (cx c).K (.ref ((cx c).ga 476)) = true := by kernel_rfl
theorem gv_RowMaker (c : Base) : nsIn (cx c).K mainGlobals "RowMaker" = some (some (.ref 476)) := by kernel_rfl
theorem gn_529_RowMaker (c : Base) : GloName (cx c) (sc_529 c) "RowMaker" (.ref 476) := ⟨gv_RowMaker c, by kernel_rfl, by kernel_rfl⟩
theorem fn_529_RowMaker (c : Base) : FnName (cx c) (sc_529 c) "RowMaker" 476 := ⟨gn_529_RowMaker c, kp_476 c⟩
noncomputable def B_compile_tree : SS := (seqS (asgS (asgL 3) (clsE 476 2 F_RowMaker___init__ esN))
  (seqS (exprS (callE F_add_node_6 (esC (lE 3) (esC (lE 0) esN))))
  (seqS (exprS (methE 476 F_RowMaker_add (lE 3) (esC (tupE (esC (cE (.str [101, 110, 100])) esN)) esN)))
  (seqS (retS (clsE 441 4 F_Program___init__ (esC (attrE 476 0 (lE 3)) (esC (lE 1) (esC (attrE 476 1 (lE 3)) (esC (lE 2) esN))))))
  nilS))))
theorem S_compile_tree (c : Base) : SoundB (cx c) 14 (sc_529 c) (stOf (cx c).K 529) B_compile_tree := (sb_cons (s_asg (u_name (ln_529_3 c)) (b_cls (fn_529_RowMaker c) (mk_476 c) rfl ((ok_RowMaker___init__ c).up rfl) es_nil (fun _ => ⟨rfl, trivial⟩) nilOk_nil (fun _ => rfl)) (fun _ => rfl) (fun _ => rfl) (fun _ => rfl))
  (sb_cons (s_expr (b_call (fn_529_add_node c) ((ok_add_node_6 c).up rfl) (es_cons (l_name (ln_529_3 c)) (es_cons (l_name (ln_529_0 c)) es_nil (fun _ => rfl)) (fun _ => rfl)) (fun _ => ⟨rfl, rfl⟩) nilOk_cons (fun _ => rfl)) (fun _ => rfl))
  (sb_cons (s_expr (b_meth (l_name (ln_529_3 c)) (mo_466 c) ((ok_RowMaker_add c).up rfl) (es_cons (b_tup (es_cons (c_str (by kernel_rfl)) es_nil (fun _ => rfl))) es_nil (fun _ => rfl)) (fun _ => ⟨rfl, rfl⟩) nilOk_cons (fun _ => rfl)) (fun _ => rfl))
  (sb_cons (s_ret (b_cls (fn_529_Program c) (mk_441 c) rfl ((ok_Program___init__ c).up rfl) (es_cons (b_attr (l_name (ln_529_3 c)) (ao_476_0 c) (fun _ => rfl)) (es_cons (l_name (ln_529_1 c)) (es_cons (b_attr (l_name (ln_529_3 c)) (ao_476_1 c) (fun _ => rfl)) (es_cons (l_name (ln_529_2 c)) es_nil (fun _ => rfl)) (fun _ => rfl)) (fun _ => rfl)) (fun _ => rfl)) (fun _ => ⟨rfl, rfl⟩) nilOk_cons (fun _ => rfl)))
  sb_nil))))
noncomputable def F_compile_tree : FnG := runB [3] 3 4 [] B_compile_tree
theorem ok_compile_tree (c : Base) : CallOk (cx c) 15 (.ref ((cx c).ga 529)) F_compile_tree := fn_okK (fk_529 c) (S_compile_tree c)
theorem kp_529 (c : Base) : keepIn (cx c).K (.ref ((cx c).ga 529)) = true := by kernel_rfl
theorem gv_compile_tree (c : Base) : nsIn (cx c).K mainGlobals "compile_tree" = some (some (.ref 529)) := by kernel_rfl
theorem gn_865_compile_tree (c : Base) : GloName (cx c) (sc_865 c) "compile_tree" (.ref 529) := ⟨gv_compile_tree c, by kernel_rfl, by kernel_rfl⟩
theorem fn_865_compile_tree (c : Base) : FnName (cx c) (sc_865 c) "compile_tree" 529 := ⟨gn_865_compile_tree c, kp_529 c⟩
theorem ln_865_1 (c : Base) : LocName (sc_865 c) 1 "flags" := ⟨rfl, by kernel_rfl, by kernel_rfl⟩
theorem ln_865_0 (c : Base) : LocName (sc_865 c) 0 "text" := ⟨rfl, by kernel_rfl, by kernel_rfl⟩
noncomputable abbrev ex_858 (c : Base) : Env → Prop := fun _ => True
noncomputable def sc_858 (c : Base) : Sc := ⟨(fdOf (cx c).K 858).scope, ["text", "state", "node", "numbers", "at"], ["flags"], ex_858 c⟩
theorem ln_858_1 (c : Base) : LocName (sc_858 c) 1 "state" := ⟨rfl, by kernel_rfl, by kernel_rfl⟩
theorem ao_561_5 (c : Base) : AttrOk (cx c) 561 5 "names" := ⟨rfl, by kernel_rfl, by kernel_rfl, by kernel_rfl⟩
theorem ao_561_3 (c : Base) : AttrOk (cx c) 561 3 "groups" := ⟨rfl, by kernel_rfl, by kernel_rfl, by kernel_rfl⟩
theorem ln_858_2 (c : Base) : LocName (sc_858 c) 2 "node" := ⟨rfl, by kernel_rfl, by kernel_rfl⟩
theorem ln_858_4 (c : Base) : LocName (sc_858 c) 4 "at" := ⟨rfl, by kernel_rfl, by kernel_rfl⟩
theorem ln_858_3 (c : Base) : LocName (sc_858 c) 3 "numbers" := ⟨rfl, by kernel_rfl, by kernel_rfl⟩
theorem gz_max (c : Base) : nsIn (cx c).K mainGlobals "max" = some none := by kernel_rfl
theorem bn_858_max (c : Base) : BltName (cx c) (sc_858 c) "max" (.builtin "max") := ⟨gz_max c, by kernel_rfl, by decide, by kernel_rfl, by kernel_rfl⟩
theorem gz_min (c : Base) : nsIn (cx c).K mainGlobals "min" = some none := by kernel_rfl
theorem bn_858_min (c : Base) : BltName (cx c) (sc_858 c) "min" (.builtin "min") := ⟨gz_min c, by kernel_rfl, by decide, by kernel_rfl, by kernel_rfl⟩
theorem ao_561_6 (c : Base) : AttrOk (cx c) 561 6 "spoken" := ⟨rfl, by kernel_rfl, by kernel_rfl, by kernel_rfl⟩
theorem ao_561_2 (c : Base) : AttrOk (cx c) 561 2 "at" := ⟨rfl, by kernel_rfl, by kernel_rfl, by kernel_rfl⟩
theorem ln_858_0 (c : Base) : LocName (sc_858 c) 0 "text" := ⟨rfl, by kernel_rfl, by kernel_rfl⟩
theorem bn_858_len (c : Base) : BltName (cx c) (sc_858 c) "len" (.builtin "len") := ⟨gz_len c, by kernel_rfl, by decide, by kernel_rfl, by kernel_rfl⟩
noncomputable abbrev cs_858m0 : Scope := { kind := .function, names := [(".0", .local), ("letter", .local), ("flags", .free)], isGenerator := false, isCoroutine := false, more := [] }
noncomputable def sc_858m0 (c : Base) : Sc := ⟨relS cs_858m0 (sc_858 c).cs, ["letter"], ["flags"], fun _ => True⟩
theorem cp_858m0 (c : Base) : CompOk (sc_858 c) (sc_858m0 c) cs_858m0 "letter" [0] := ⟨rfl, rfl, by kernel_rfl, by kernel_rfl, by decide, fun _ => trivial, rfl, by kernel_rfl, by kernel_rfl, by kernel_rfl, by kernel_rfl⟩
theorem ln_858m0_0 (c : Base) : LocName (sc_858m0 c) 0 "letter" := ⟨rfl, by kernel_rfl, by kernel_rfl⟩
theorem cn_858m0_0 (c : Base) : CelName (sc_858m0 c) 0 "flags" := ⟨rfl, by kernel_rfl, by kernel_rfl, by kernel_rfl⟩
theorem gv_FLAG_LETTERS (c : Base) : nsIn (cx c).K mainGlobals "FLAG_LETTERS" = some (some (.str ⟨[105, 109, 115, 120].toArray⟩ 1354)) := by kernel_rfl
theorem gn_858_FLAG_LETTERS (c : Base) : GloName (cx c) (sc_858 c) "FLAG_LETTERS" (.str ⟨[105, 109, 115, 120].toArray⟩ 1354) := ⟨gv_FLAG_LETTERS c, by kernel_rfl, by kernel_rfl⟩
noncomputable def sc_790 (c : Base) : Sc := ⟨(fdOf (cx c).K 790).scope, ["state", "flags", "branches", "node"], [], fun _ => True⟩
theorem fk_790 (c : Base) : FnK (cx c) 790 ["state", "flags"] ["state", "flags", "branches", "node"] [2] [] where
  at_ := by kernel_rfl
  isF := ⟨by kernel_rfl, by kernel_rfl, by kernel_rfl, by kernel_rfl⟩
  code := by kernel_rfl
  bind := bindD (ds := []) (fun _ _ => .nil) (one_ar (fun S ws h => by obtain ⟨w0, w1, rfl⟩ := len2 h; kernel_rfl))
  ars := by decide
  pre := ⟨["branches", "node"], rfl⟩
  nd := by decide
  loc := by kernel_rfl
  cell := by kernel_rfl
  co := by kernel_rfl
  gen := by kernel_rfl
  kind := by kernel_rfl
theorem ln_790_0 (c : Base) : LocName (sc_790 c) 0 "state" := ⟨rfl, by kernel_rfl, by kernel_rfl⟩
theorem kp_558 (c : Base) : keepIn (cx c).K (.ref ((cx c).ga 558)) = true := by kernel_rfl
theorem mo_558 (c : Base) : MethOk (cx c) 561 "skips" 558 := ⟨by kernel_rfl, by kernel_rfl, by kernel_rfl, kp_558 c, (by decide : ("skips" : Str) ∉ cAt 561)⟩
noncomputable def sc_558 (c : Base) : Sc := ⟨(fdOf (cx c).K 558).scope, ["self", "word"], [], fun _ => True⟩
theorem fk_558 (c : Base) : FnK (cx c) 558 ["self", "word"] ["self", "word"] [2] [] where
  at_ := by kernel_rfl
  isF := ⟨by kernel_rfl, by kernel_rfl, by kernel_rfl, by kernel_rfl⟩
  code := by kernel_rfl
  bind := bindD (ds := []) (fun _ _ => .nil) (one_ar (fun S ws h => by obtain ⟨w0, w1, rfl⟩ := len2 h; kernel_rfl))
  ars := by decide
  pre := ⟨[], rfl⟩
  nd := by decide
  loc := by kernel_rfl
  cell := by kernel_rfl
  co := by kernel_rfl
  gen := by kernel_rfl
  kind := by kernel_rfl
theorem ln_558_1 (c : Base) : LocName (sc_558 c) 1 "word" := ⟨rfl, by kernel_rfl, by kernel_rfl⟩
theorem bn_558_len (c : Base) : BltName (cx c) (sc_558 c) "len" (.builtin "len") := ⟨gz_len c, by kernel_rfl, by decide, by kernel_rfl, by kernel_rfl⟩
theorem ln_558_0 (c : Base) : LocName (sc_558 c) 0 "self" := ⟨rfl, by kernel_rfl, by kernel_rfl⟩
theorem nd_561 : (cAt 561).Nodup := by decide
theorem fw_561 : (cAt 561).length ≤ 100 := by decide
theorem so_561_2 (c : Base) : SetOk (cx c) 561 2 "at" := ⟨rfl, nd_561, fw_561, by kernel_rfl, by kernel_rfl, by kernel_rfl, by kernel_rfl⟩
theorem ao_561_0 (c : Base) : AttrOk (cx c) 561 0 "text" := ⟨rfl, by kernel_rfl, by kernel_rfl, by kernel_rfl⟩
noncomputable def B_PatternText_skips : SS := (seqS (ifS (tE (bE neV (sliS (attrE 561 0 (lE 0)) (partE (attrE 561 2 (lE 0))) (partE (bE addV (attrE 561 2 (lE 0)) (bltE lenG (esC (lE 1) esN))))) (lE 1)))
  (seqS (retS (cE (.bool false)))
  nilS)
  nilS)
  (seqS (augA 561 2 iaddV (lE 0) (bltE lenG (esC (lE 1) esN)))
  (seqS (retS (cE (.bool true)))
  nilS)))
theorem S_PatternText_skips (c : Base) : SoundB (cx c) 0 (sc_558 c) (stOf (cx c).K 558) B_PatternText_skips := (sb_cons (s_if (t_cmp (b_sliceS (b_attr (l_name (ln_558_0 c)) (ao_561_0 c) (fun _ => rfl)) (p_some (b_attr (l_name (ln_558_0 c)) (ao_561_2 c) (fun _ => rfl))) (p_some (b_op (b_attr (l_name (ln_558_0 c)) (ao_561_2 c) (fun _ => rfl)) (b_blt (bn_558_len c) f_len (es_cons (l_name (ln_558_1 c)) es_nil (fun _ => rfl)) (fun _ => ⟨rfl, rfl⟩) (fun _ => ⟨rfl, trivial⟩) (fun _ => rfl)) bin_add)) (fun _ _ => rfl)) (l_name (ln_558_1 c)) bin_ne rfl)
  (sb_cons (s_ret c_bool)
  sb_nil)
  sb_nil)
  (sb_cons (s_augA (l_name (ln_558_0 c)) (ao_561_2 c) (so_561_2 c) (b_blt (bn_558_len c) f_len (es_cons (l_name (ln_558_1 c)) es_nil (fun _ => rfl)) (fun _ => ⟨rfl, rfl⟩) (fun _ => ⟨rfl, trivial⟩) (fun _ => rfl)) bin_iadd)
  (sb_cons (s_ret c_bool)
  sb_nil)))
noncomputable def F_PatternText_skips : FnG := runB [2] 2 2 [] B_PatternText_skips
theorem ok_PatternText_skips (c : Base) : CallOk (cx c) 1 (.ref ((cx c).ga 558)) F_PatternText_skips := fn_okK (fk_558 c) (S_PatternText_skips c)
theorem ln_790_2 (c : Base) : LocName (sc_790 c) 2 "branches" := ⟨rfl, by kernel_rfl, by kernel_rfl⟩
theorem bn_790_len (c : Base) : BltName (cx c) (sc_790 c) "len" (.builtin "len") := ⟨gz_len c, by kernel_rfl, by decide, by kernel_rfl, by kernel_rfl⟩
theorem ln_790_3 (c : Base) : LocName (sc_790 c) 3 "node" := ⟨rfl, by kernel_rfl, by kernel_rfl⟩
theorem ln_790_1 (c : Base) : LocName (sc_790 c) 1 "flags" := ⟨rfl, by kernel_rfl, by kernel_rfl⟩
theorem kp_797 (c : Base) : keepIn (cx c).K (.ref ((cx c).ga 797)) = true := by kernel_rfl
theorem gv_read_branch (c : Base) : nsIn (cx c).K mainGlobals "read_branch" = some (some (.ref 797)) := by kernel_rfl
theorem gn_790_read_branch (c : Base) : GloName (cx c) (sc_790 c) "read_branch" (.ref 797) := ⟨gv_read_branch c, by kernel_rfl, by kernel_rfl⟩
theorem fn_790_read_branch (c : Base) : FnName (cx c) (sc_790 c) "read_branch" 797 := ⟨gn_790_read_branch c, kp_797 c⟩
noncomputable def sc_818 (c : Base) : Sc := ⟨(fdOf (cx c).K 818).scope, ["state", "flags", "begun", "node"], [], fun _ => True⟩
theorem fk_818 (c : Base) : FnK (cx c) 818 ["state", "flags", "begun"] ["state", "flags", "begun", "node"] [3] [] where
  at_ := by kernel_rfl
  isF := ⟨by kernel_rfl, by kernel_rfl, by kernel_rfl, by kernel_rfl⟩
  code := by kernel_rfl
  bind := bindD (ds := []) (fun _ _ => .nil) (one_ar (fun S ws h => by obtain ⟨w0, w1, w2, rfl⟩ := len3 h; kernel_rfl))
  ars := by decide
  pre := ⟨["node"], rfl⟩
  nd := by decide
  loc := by kernel_rfl
  cell := by kernel_rfl
  co := by kernel_rfl
  gen := by kernel_rfl
  kind := by kernel_rfl
theorem ln_818_3 (c : Base) : LocName (sc_818 c) 3 "node" := ⟨rfl, by kernel_rfl, by kernel_rfl⟩
theorem ln_818_0 (c : Base) : LocName (sc_818 c) 0 "state" := ⟨rfl, by kernel_rfl, by kernel_rfl⟩
theorem ao_561_4 (c : Base) : AttrOk (cx c) 561 4 "depth" := ⟨rfl, by kernel_rfl, by kernel_rfl, by kernel_rfl⟩
theorem so_561_4 (c : Base) : SetOk (cx c) 561 4 "depth" := ⟨rfl, nd_561, fw_561, by kernel_rfl, by kernel_rfl, by kernel_rfl, by kernel_rfl⟩
theorem ln_818_1 (c : Base) : LocName (sc_818 c) 1 "flags" := ⟨rfl, by kernel_rfl, by kernel_rfl⟩
theorem kp_790 (c : Base) : keepIn (cx c).K (.ref ((cx c).ga 790)) = true := by kernel_rfl
theorem gv_read_alternation (c : Base) : nsIn (cx c).K mainGlobals "read_alternation" = some (some (.ref 790)) := by kernel_rfl
theorem gn_818_read_alternation (c : Base) : GloName (cx c) (sc_818 c) "read_alternation" (.ref 790) := ⟨gv_read_alternation c, by kernel_rfl, by kernel_rfl⟩
theorem fn_818_read_alternation (c : Base) : FnName (cx c) (sc_818 c) "read_alternation" 790 := ⟨gn_818_read_alternation c, kp_790 c⟩
theorem gv_MOST_NESTED (c : Base) : nsIn (cx c).K mainGlobals "MOST_NESTED" = some (some (.int 40 1356)) := by kernel_rfl
theorem gn_818_MOST_NESTED (c : Base) : GloName (cx c) (sc_818 c) "MOST_NESTED" (.int 40 1356) := ⟨gv_MOST_NESTED c, by kernel_rfl, by kernel_rfl⟩
noncomputable def sc_825 (c : Base) : Sc := ⟨(fdOf (cx c).K 825).scope, ["state", "flags", "begun", "name", "number"], [], fun _ => True⟩
theorem fk_825 (c : Base) : FnK (cx c) 825 ["state", "flags", "begun", "name"] ["state", "flags", "begun", "name", "number"] [4] [] where
  at_ := by kernel_rfl
  isF := ⟨by kernel_rfl, by kernel_rfl, by kernel_rfl, by kernel_rfl⟩
  code := by kernel_rfl
  bind := bindD (ds := []) (fun _ _ => .nil) (one_ar (fun S ws h => by obtain ⟨w0, w1, w2, w3, rfl⟩ := len4 h; kernel_rfl))
  ars := by decide
  pre := ⟨["number"], rfl⟩
  nd := by decide
  loc := by kernel_rfl
  cell := by kernel_rfl
  co := by kernel_rfl
  gen := by kernel_rfl
  kind := by kernel_rfl
theorem ln_825_2 (c : Base) : LocName (sc_825 c) 2 "begun" := ⟨rfl, by kernel_rfl, by kernel_rfl⟩
theorem ln_825_1 (c : Base) : LocName (sc_825 c) 1 "flags" := ⟨rfl, by kernel_rfl, by kernel_rfl⟩
theorem ln_825_0 (c : Base) : LocName (sc_825 c) 0 "state" := ⟨rfl, by kernel_rfl, by kernel_rfl⟩
theorem kp_818 (c : Base) : keepIn (cx c).K (.ref ((cx c).ga 818)) = true := by kernel_rfl
theorem gv_read_inner (c : Base) : nsIn (cx c).K mainGlobals "read_inner" = some (some (.ref 818)) := by kernel_rfl
theorem gn_825_read_inner (c : Base) : GloName (cx c) (sc_825 c) "read_inner" (.ref 818) := ⟨gv_read_inner c, by kernel_rfl, by kernel_rfl⟩
theorem fn_825_read_inner (c : Base) : FnName (cx c) (sc_825 c) "read_inner" 818 := ⟨gn_825_read_inner c, kp_818 c⟩
theorem ln_825_4 (c : Base) : LocName (sc_825 c) 4 "number" := ⟨rfl, by kernel_rfl, by kernel_rfl⟩
theorem ln_825_3 (c : Base) : LocName (sc_825 c) 3 "name" := ⟨rfl, by kernel_rfl, by kernel_rfl⟩
theorem so_561_3 (c : Base) : SetOk (cx c) 561 3 "groups" := ⟨rfl, nd_561, fw_561, by kernel_rfl, by kernel_rfl, by kernel_rfl, by kernel_rfl⟩
noncomputable def sc_839 (c : Base) : Sc := ⟨(fdOf (cx c).K 839).scope, ["state", "flags", "begun", "opening", "is_behind", "is_negated", "close", "changed"], [], fun _ => True⟩
theorem fk_839 (c : Base) : FnK (cx c) 839 ["state", "flags"] ["state", "flags", "begun", "opening", "is_behind", "is_negated", "close", "changed"] [2] [] where
  at_ := by kernel_rfl
  isF := ⟨by kernel_rfl, by kernel_rfl, by kernel_rfl, by kernel_rfl⟩
  code := by kernel_rfl
  bind := bindD (ds := []) (fun _ _ => .nil) (one_ar (fun S ws h => by obtain ⟨w0, w1, rfl⟩ := len2 h; kernel_rfl))
  ars := by decide
  pre := ⟨["begun", "opening", "is_behind", "is_negated", "close", "changed"], rfl⟩
  nd := by decide
  loc := by kernel_rfl
  cell := by kernel_rfl
  co := by kernel_rfl
  gen := by kernel_rfl
  kind := by kernel_rfl
theorem ln_839_0 (c : Base) : LocName (sc_839 c) 0 "state" := ⟨rfl, by kernel_rfl, by kernel_rfl⟩
theorem ln_839_2 (c : Base) : LocName (sc_839 c) 2 "begun" := ⟨rfl, by kernel_rfl, by kernel_rfl⟩
theorem ln_839_1 (c : Base) : LocName (sc_839 c) 1 "flags" := ⟨rfl, by kernel_rfl, by kernel_rfl⟩
theorem kp_825 (c : Base) : keepIn (cx c).K (.ref ((cx c).ga 825)) = true := by kernel_rfl
theorem gv_read_capture (c : Base) : nsIn (cx c).K mainGlobals "read_capture" = some (some (.ref 825)) := by kernel_rfl
theorem gn_839_read_capture (c : Base) : GloName (cx c) (sc_839 c) "read_capture" (.ref 825) := ⟨gv_read_capture c, by kernel_rfl, by kernel_rfl⟩
theorem fn_839_read_capture (c : Base) : FnName (cx c) (sc_839 c) "read_capture" 825 := ⟨gn_839_read_capture c, kp_825 c⟩
theorem ln_839_6 (c : Base) : LocName (sc_839 c) 6 "close" := ⟨rfl, by kernel_rfl, by kernel_rfl⟩
theorem ln_839_3 (c : Base) : LocName (sc_839 c) 3 "opening" := ⟨rfl, by kernel_rfl, by kernel_rfl⟩
theorem vr_761 (c : Base) {led ρ} : VR (cx c) led ρ (.tup [(.str [40, 63, 60]), (.str [62])]) (.ref 761) := .tup [(.str [40, 63, 60]), (.str [62])] [(.str ⟨[40, 63, 60].toArray⟩ 1363), (.str ⟨[62].toArray⟩ 1364)] 761 0 (.inr (by kernel_rfl)) (.cons (.str _ _) (.cons (.str _ _) .nil))
theorem vr_762 (c : Base) {led ρ} : VR (cx c) led ρ (.tup [(.str [40, 63, 80, 60]), (.str [62])]) (.ref 762) := .tup [(.str [40, 63, 80, 60]), (.str [62])] [(.str ⟨[40, 63, 80, 60].toArray⟩ 1365), (.str ⟨[62].toArray⟩ 1366)] 762 0 (.inr (by kernel_rfl)) (.cons (.str _ _) (.cons (.str _ _) .nil))
theorem vr_763 (c : Base) {led ρ} : VR (cx c) led ρ (.tup [(.str [40, 63, 39]), (.str [39])]) (.ref 763) := .tup [(.str [40, 63, 39]), (.str [39])] [(.str ⟨[40, 63, 39].toArray⟩ 1367), (.str ⟨[39].toArray⟩ 1368)] 763 0 (.inr (by kernel_rfl)) (.cons (.str _ _) (.cons (.str _ _) .nil))
noncomputable def L_NAME_SIGNS : List V := [(.tup [(.str [40, 63, 60]), (.str [62])]), (.tup [(.str [40, 63, 80, 60]), (.str [62])]), (.tup [(.str [40, 63, 39]), (.str [39])])]
theorem gl_764 (c : Base) : GlOk (cx c) 764 L_NAME_SIGNS [(.ref 761), (.ref 762), (.ref 763)] 0 := ⟨by kernel_rfl, fun _ _ => (.cons (vr_761 c) (.cons (vr_762 c) (.cons (vr_763 c) .nil)))⟩
theorem gv_NAME_SIGNS (c : Base) : nsIn (cx c).K mainGlobals "NAME_SIGNS" = some (some (.ref 764)) := by kernel_rfl
theorem gn_839_NAME_SIGNS (c : Base) : GloName (cx c) (sc_839 c) "NAME_SIGNS" (.ref 764) := ⟨gv_NAME_SIGNS c, by kernel_rfl, by kernel_rfl⟩
theorem ln_839_5 (c : Base) : LocName (sc_839 c) 5 "is_negated" := ⟨rfl, by kernel_rfl, by kernel_rfl⟩
theorem ln_839_4 (c : Base) : LocName (sc_839 c) 4 "is_behind" := ⟨rfl, by kernel_rfl, by kernel_rfl⟩
theorem vr_756 (c : Base) {led ρ} : VR (cx c) led ρ (.tup [(.str [40, 63, 61]), (.bool false), (.bool false)]) (.ref 756) := .tup [(.str [40, 63, 61]), (.bool false), (.bool false)] [(.str ⟨[40, 63, 61].toArray⟩ 1358), (.bool false), (.bool false)] 756 0 (.inr (by kernel_rfl)) (.cons (.str _ _) (.cons (.bool _) (.cons (.bool _) .nil)))
theorem vr_757 (c : Base) {led ρ} : VR (cx c) led ρ (.tup [(.str [40, 63, 33]), (.bool false), (.bool true)]) (.ref 757) := .tup [(.str [40, 63, 33]), (.bool false), (.bool true)] [(.str ⟨[40, 63, 33].toArray⟩ 1359), (.bool false), (.bool true)] 757 0 (.inr (by kernel_rfl)) (.cons (.str _ _) (.cons (.bool _) (.cons (.bool _) .nil)))
theorem vr_758 (c : Base) {led ρ} : VR (cx c) led ρ (.tup [(.str [40, 63, 60, 61]), (.bool true), (.bool false)]) (.ref 758) := .tup [(.str [40, 63, 60, 61]), (.bool true), (.bool false)] [(.str ⟨[40, 63, 60, 61].toArray⟩ 1360), (.bool true), (.bool false)] 758 0 (.inr (by kernel_rfl)) (.cons (.str _ _) (.cons (.bool _) (.cons (.bool _) .nil)))
theorem vr_759 (c : Base) {led ρ} : VR (cx c) led ρ (.tup [(.str [40, 63, 60, 33]), (.bool true), (.bool true)]) (.ref 759) := .tup [(.str [40, 63, 60, 33]), (.bool true), (.bool true)] [(.str ⟨[40, 63, 60, 33].toArray⟩ 1361), (.bool true), (.bool true)] 759 0 (.inr (by kernel_rfl)) (.cons (.str _ _) (.cons (.bool _) (.cons (.bool _) .nil)))
noncomputable def L_LOOKS : List V := [(.tup [(.str [40, 63, 61]), (.bool false), (.bool false)]), (.tup [(.str [40, 63, 33]), (.bool false), (.bool true)]), (.tup [(.str [40, 63, 60, 61]), (.bool true), (.bool false)]), (.tup [(.str [40, 63, 60, 33]), (.bool true), (.bool true)])]
theorem gl_760 (c : Base) : GlOk (cx c) 760 L_LOOKS [(.ref 756), (.ref 757), (.ref 758), (.ref 759)] 0 := ⟨by kernel_rfl, fun _ _ => (.cons (vr_756 c) (.cons (vr_757 c) (.cons (vr_758 c) (.cons (vr_759 c) .nil))))⟩
theorem gv_LOOKS (c : Base) : nsIn (cx c).K mainGlobals "LOOKS" = some (some (.ref 760)) := by kernel_rfl
theorem gn_839_LOOKS (c : Base) : GloName (cx c) (sc_839 c) "LOOKS" (.ref 760) := ⟨gv_LOOKS c, by kernel_rfl, by kernel_rfl⟩
noncomputable def sc_804 (c : Base) : Sc := ⟨(fdOf (cx c).K 804).scope, ["state", "flags", "sign"], [], fun _ => True⟩
theorem fk_804 (c : Base) : FnK (cx c) 804 ["state", "flags"] ["state", "flags", "sign"] [2] [] where
  at_ := by kernel_rfl
  isF := ⟨by kernel_rfl, by kernel_rfl, by kernel_rfl, by kernel_rfl⟩
  code := by kernel_rfl
  bind := bindD (ds := []) (fun _ _ => .nil) (one_ar (fun S ws h => by obtain ⟨w0, w1, rfl⟩ := len2 h; kernel_rfl))
  ars := by decide
  pre := ⟨["sign"], rfl⟩
  nd := by decide
  loc := by kernel_rfl
  cell := by kernel_rfl
  co := by kernel_rfl
  gen := by kernel_rfl
  kind := by kernel_rfl
theorem ln_804_1 (c : Base) : LocName (sc_804 c) 1 "flags" := ⟨rfl, by kernel_rfl, by kernel_rfl⟩
theorem ln_804_2 (c : Base) : LocName (sc_804 c) 2 "sign" := ⟨rfl, by kernel_rfl, by kernel_rfl⟩
theorem ln_804_0 (c : Base) : LocName (sc_804 c) 0 "state" := ⟨rfl, by kernel_rfl, by kernel_rfl⟩
theorem vr_675 (c : Base) {led ρ} : VR (cx c) led ρ (.tup [(.int 0), (.int 1)]) (.ref 675) := .tup [(.int 0), (.int 1)] [(.int 0 1234), (.int 1 1235)] 675 0 (.inr (by kernel_rfl)) (.cons (.int _ _) (.cons (.int _ _) .nil))
theorem vr_674 (c : Base) {led ρ} : VR (cx c) led ρ (.tup [(.int 1), (.int (-1))]) (.ref 674) := .tup [(.int 1), (.int (-1))] [(.int 1 1230), (.int (-1) 1232)] 674 0 (.inr (by kernel_rfl)) (.cons (.int _ _) (.cons (.int _ _) .nil))
theorem vr_673 (c : Base) {led ρ} : VR (cx c) led ρ (.tup [(.int 0), (.int (-1))]) (.ref 673) := .tup [(.int 0), (.int (-1))] [(.int 0 1226), (.int (-1) 1228)] 673 0 (.inr (by kernel_rfl)) (.cons (.int _ _) (.cons (.int _ _) .nil))
noncomputable def D_COUNT_SIGNS : List (List Nat × V) := [([42], (.tup [(.int 0), (.int (-1))])), ([43], (.tup [(.int 1), (.int (-1))])), ([63], (.tup [(.int 0), (.int 1)]))]
theorem di_672 (c : Base) : DiOk (cx c) 672 D_COUNT_SIGNS := ⟨⟨[⟨PyData.keyHash c.w.params ⟨[42].toArray⟩, (.str ⟨[42].toArray⟩ 1225), (.ref 673)⟩, ⟨PyData.keyHash c.w.params ⟨[43].toArray⟩, (.str ⟨[43].toArray⟩ 1229), (.ref 674)⟩, ⟨PyData.keyHash c.w.params ⟨[63].toArray⟩, (.str ⟨[63].toArray⟩ 1233), (.ref 675)⟩].toArray, 3, by kernel_rfl, (.cons (vr_673 c) (.cons (vr_674 c) (.cons (vr_675 c) .nil)))⟩, (by decide : ((672 : Nat) == sysModules) = false)⟩
theorem gv_COUNT_SIGNS (c : Base) : nsIn (cx c).K mainGlobals "COUNT_SIGNS" = some (some (.ref 672)) := by kernel_rfl
theorem gn_804_COUNT_SIGNS (c : Base) : GloName (cx c) (sc_804 c) "COUNT_SIGNS" (.ref 672) := ⟨gv_COUNT_SIGNS c, by kernel_rfl, by kernel_rfl⟩
noncomputable def sc_853 (c : Base) : Sc := ⟨(fdOf (cx c).K 853).scope, ["state", "flags", "at", "is_folded", "letter", "begun", "number"], [], fun _ => True⟩
theorem fk_853 (c : Base) : FnK (cx c) 853 ["state", "flags"] ["state", "flags", "at", "is_folded", "letter", "begun", "number"] [2] [] where
  at_ := by kernel_rfl
  isF := ⟨by kernel_rfl, by kernel_rfl, by kernel_rfl, by kernel_rfl⟩
  code := by kernel_rfl
  bind := bindD (ds := []) (fun _ _ => .nil) (one_ar (fun S ws h => by obtain ⟨w0, w1, rfl⟩ := len2 h; kernel_rfl))
  ars := by decide
  pre := ⟨["at", "is_folded", "letter", "begun", "number"], rfl⟩
  nd := by decide
  loc := by kernel_rfl
  cell := by kernel_rfl
  co := by kernel_rfl
  gen := by kernel_rfl
  kind := by kernel_rfl
theorem ln_853_4 (c : Base) : LocName (sc_853 c) 4 "letter" := ⟨rfl, by kernel_rfl, by kernel_rfl⟩
theorem ln_853_6 (c : Base) : LocName (sc_853 c) 6 "number" := ⟨rfl, by kernel_rfl, by kernel_rfl⟩
theorem ln_853_3 (c : Base) : LocName (sc_853 c) 3 "is_folded" := ⟨rfl, by kernel_rfl, by kernel_rfl⟩
theorem ln_853_2 (c : Base) : LocName (sc_853 c) 2 "at" := ⟨rfl, by kernel_rfl, by kernel_rfl⟩
theorem ln_853_0 (c : Base) : LocName (sc_853 c) 0 "state" := ⟨rfl, by kernel_rfl, by kernel_rfl⟩
noncomputable def sc_736 (c : Base) : Sc := ⟨(fdOf (cx c).K 736).scope, ["state", "numbers", "at"], [], fun _ => True⟩
theorem fk_736 (c : Base) : FnK (cx c) 736 ["state", "numbers", "at"] ["state", "numbers", "at"] [3] [] where
  at_ := by kernel_rfl
  isF := ⟨by kernel_rfl, by kernel_rfl, by kernel_rfl, by kernel_rfl⟩
  code := by kernel_rfl
  bind := bindD (ds := []) (fun _ _ => .nil) (one_ar (fun S ws h => by obtain ⟨w0, w1, w2, rfl⟩ := len3 h; kernel_rfl))
  ars := by decide
  pre := ⟨[], rfl⟩
  nd := by decide
  loc := by kernel_rfl
  cell := by kernel_rfl
  co := by kernel_rfl
  gen := by kernel_rfl
  kind := by kernel_rfl
theorem ln_736_1 (c : Base) : LocName (sc_736 c) 1 "numbers" := ⟨rfl, by kernel_rfl, by kernel_rfl⟩
theorem ln_736_0 (c : Base) : LocName (sc_736 c) 0 "state" := ⟨rfl, by kernel_rfl, by kernel_rfl⟩
theorem ln_736_2 (c : Base) : LocName (sc_736 c) 2 "at" := ⟨rfl, by kernel_rfl, by kernel_rfl⟩
noncomputable def B_speak_of : SS := (seqS (exprS (appendE (attrE 561 6 (lE 0)) (tupE (esC (lE 1) (esC (lE 2) esN)))))
  (seqS (retS (lE 1))
  nilS))
theorem S_speak_of (c : Base) : SoundB (cx c) 0 (sc_736 c) (stOf (cx c).K 736) B_speak_of := (sb_cons (s_expr (b_append (b_attr (l_name (ln_736_0 c)) (ao_561_6 c) (fun _ => rfl)) (b_tup (es_cons (l_name (ln_736_1 c)) (es_cons (l_name (ln_736_2 c)) es_nil (fun _ => rfl)) (fun _ => rfl))) (fun _ => ⟨rfl, rfl⟩) (fun _ => rfl)) (fun _ => rfl))
  (sb_cons (s_ret (l_name (ln_736_1 c)))
  sb_nil))
noncomputable def F_speak_of : FnG := runB [3] 3 3 [] B_speak_of
theorem ok_speak_of (c : Base) : CallOk (cx c) 1 (.ref ((cx c).ga 736)) F_speak_of := fn_okK (fk_736 c) (S_speak_of c)
theorem kp_736 (c : Base) : keepIn (cx c).K (.ref ((cx c).ga 736)) = true := by kernel_rfl
theorem gv_speak_of (c : Base) : nsIn (cx c).K mainGlobals "speak_of" = some (some (.ref 736)) := by kernel_rfl
theorem gn_853_speak_of (c : Base) : GloName (cx c) (sc_853 c) "speak_of" (.ref 736) := ⟨gv_speak_of c, by kernel_rfl, by kernel_rfl⟩
theorem fn_853_speak_of (c : Base) : FnName (cx c) (sc_853 c) "speak_of" 736 := ⟨gn_853_speak_of c, kp_736 c⟩
theorem gv_FIGURES (c : Base) : nsIn (cx c).K mainGlobals "FIGURES" = some (some (.str ⟨[48, 49, 50, 51, 52, 53, 54, 55, 56, 57].toArray⟩ 1221)) := by kernel_rfl
theorem gn_853_FIGURES (c : Base) : GloName (cx c) (sc_853 c) "FIGURES" (.str ⟨[48, 49, 50, 51, 52, 53, 54, 55, 56, 57].toArray⟩ 1221) := ⟨gv_FIGURES c, by kernel_rfl, by kernel_rfl⟩
noncomputable def sc_572 (c : Base) : Sc := ⟨(fdOf (cx c).K 572).scope, ["state", "signs", "most", "begun"], [], fun _ => True⟩
theorem fk_572 (c : Base) : FnK (cx c) 572 ["state", "signs", "most"] ["state", "signs", "most", "begun"] [3] [] where
  at_ := by kernel_rfl
  isF := ⟨by kernel_rfl, by kernel_rfl, by kernel_rfl, by kernel_rfl⟩
  code := by kernel_rfl
  bind := bindD (ds := []) (fun _ _ => .nil) (one_ar (fun S ws h => by obtain ⟨w0, w1, w2, rfl⟩ := len3 h; kernel_rfl))
  ars := by decide
  pre := ⟨["begun"], rfl⟩
  nd := by decide
  loc := by kernel_rfl
  cell := by kernel_rfl
  co := by kernel_rfl
  gen := by kernel_rfl
  kind := by kernel_rfl
theorem ln_572_0 (c : Base) : LocName (sc_572 c) 0 "state" := ⟨rfl, by kernel_rfl, by kernel_rfl⟩
theorem ln_572_3 (c : Base) : LocName (sc_572 c) 3 "begun" := ⟨rfl, by kernel_rfl, by kernel_rfl⟩
theorem ln_572_2 (c : Base) : LocName (sc_572 c) 2 "most" := ⟨rfl, by kernel_rfl, by kernel_rfl⟩
theorem ln_572_1 (c : Base) : LocName (sc_572 c) 1 "signs" := ⟨rfl, by kernel_rfl, by kernel_rfl⟩
theorem bn_572_len (c : Base) : BltName (cx c) (sc_572 c) "len" (.builtin "len") := ⟨gz_len c, by kernel_rfl, by decide, by kernel_rfl, by kernel_rfl⟩
noncomputable def B_run_of : SS := (seqS (asgS (asgL 3) (attrE 561 2 (lE 0)))
  (seqS (whileS (tAnd (tE (bE ltV (attrE 561 2 (lE 0)) (bltE lenG (esC (attrE 561 0 (lE 0)) esN)))) (tAnd (tE (bE inV (subE (attrE 561 0 (lE 0)) (attrE 561 2 (lE 0))) (lE 1))) (tAnd (tE (bE neV (bE subV (attrE 561 2 (lE 0)) (lE 3)) (lE 2))) (tB true))))
  (seqS (augA 561 2 iaddV (lE 0) (cE (.int 1)))
  nilS) 1000)
  (seqS (retS (sliS (attrE 561 0 (lE 0)) (partE (lE 3)) (partE (attrE 561 2 (lE 0)))))
  nilS)))
theorem S_run_of (c : Base) : SoundB (cx c) 0 (sc_572 c) (stOf (cx c).K 572) B_run_of := (sb_cons (s_asg (u_name (ln_572_3 c)) (b_attr (l_name (ln_572_0 c)) (ao_561_2 c) (fun _ => rfl)) (fun _ => rfl) (fun _ => rfl) (fun _ => rfl))
  (sb_cons (s_while 1000 (t_bool (a_and (t_cmp (b_attr (l_name (ln_572_0 c)) (ao_561_2 c) (fun _ => rfl)) (b_blt (bn_572_len c) f_len (es_cons (b_attr (l_name (ln_572_0 c)) (ao_561_0 c) (fun _ => rfl)) es_nil (fun _ => rfl)) (fun _ => ⟨rfl, rfl⟩) (fun _ => ⟨rfl, trivial⟩) (fun _ => rfl)) bin_lt rfl) (a_and (t_cmp (b_sub (b_attr (l_name (ln_572_0 c)) (ao_561_0 c) (fun _ => rfl)) (b_attr (l_name (ln_572_0 c)) (ao_561_2 c) (fun _ => rfl)) (fun _ _ => rfl)) (l_name (ln_572_1 c)) bin_in rfl) (a_and (t_cmp (b_op (b_attr (l_name (ln_572_0 c)) (ao_561_2 c) (fun _ => rfl)) (l_name (ln_572_3 c)) bin_sub) (l_name (ln_572_2 c)) bin_ne rfl) a_andNil))))
  (sb_cons (s_augA (l_name (ln_572_0 c)) (ao_561_2 c) (so_561_2 c) c_int bin_iadd)
  sb_nil))
  (sb_cons (s_ret (b_sliceS (b_attr (l_name (ln_572_0 c)) (ao_561_0 c) (fun _ => rfl)) (p_some (l_name (ln_572_3 c))) (p_some (b_attr (l_name (ln_572_0 c)) (ao_561_2 c) (fun _ => rfl))) (fun _ _ => rfl)))
  sb_nil)))
noncomputable def F_run_of : FnG := runB [3] 3 4 [] B_run_of
theorem ok_run_of (c : Base) : CallOk (cx c) 1 (.ref ((cx c).ga 572)) F_run_of := fn_okK (fk_572 c) (S_run_of c)
theorem kp_572 (c : Base) : keepIn (cx c).K (.ref ((cx c).ga 572)) = true := by kernel_rfl
theorem gv_run_of (c : Base) : nsIn (cx c).K mainGlobals "run_of" = some (some (.ref 572)) := by kernel_rfl
theorem gn_853_run_of (c : Base) : GloName (cx c) (sc_853 c) "run_of" (.ref 572) := ⟨gv_run_of c, by kernel_rfl, by kernel_rfl⟩
theorem fn_853_run_of (c : Base) : FnName (cx c) (sc_853 c) "run_of" 572 := ⟨gn_853_run_of c, kp_572 c⟩
noncomputable def sc_579 (c : Base) : Sc := ⟨(fdOf (cx c).K 579).scope, ["run", "base", "found", "sign"], [], fun _ => True⟩
theorem fk_579 (c : Base) : FnK (cx c) 579 ["run", "base"] ["run", "base", "found", "sign"] [2] [] where
  at_ := by kernel_rfl
  isF := ⟨by kernel_rfl, by kernel_rfl, by kernel_rfl, by kernel_rfl⟩
  code := by kernel_rfl
  bind := bindD (ds := []) (fun _ _ => .nil) (one_ar (fun S ws h => by obtain ⟨w0, w1, rfl⟩ := len2 h; kernel_rfl))
  ars := by decide
  pre := ⟨["found", "sign"], rfl⟩
  nd := by decide
  loc := by kernel_rfl
  cell := by kernel_rfl
  co := by kernel_rfl
  gen := by kernel_rfl
  kind := by kernel_rfl
theorem ln_579_2 (c : Base) : LocName (sc_579 c) 2 "found" := ⟨rfl, by kernel_rfl, by kernel_rfl⟩
theorem ln_579_3 (c : Base) : LocName (sc_579 c) 3 "sign" := ⟨rfl, by kernel_rfl, by kernel_rfl⟩
theorem gv_MOST_CODE (c : Base) : nsIn (cx c).K mainGlobals "MOST_CODE" = some (some (.int 1114111 1021)) := by kernel_rfl
theorem gn_579_MOST_CODE (c : Base) : GloName (cx c) (sc_579 c) "MOST_CODE" (.int 1114111 1021) := ⟨gv_MOST_CODE c, by kernel_rfl, by kernel_rfl⟩
theorem ln_579_1 (c : Base) : LocName (sc_579 c) 1 "base" := ⟨rfl, by kernel_rfl, by kernel_rfl⟩
theorem gv_HEX_FIGURES (c : Base) : nsIn (cx c).K mainGlobals "HEX_FIGURES" = some (some (.str ⟨[48, 49, 50, 51, 52, 53, 54, 55, 56, 57, 97, 98, 99, 100, 101, 102].toArray⟩ 1015)) := by kernel_rfl
theorem gn_579_HEX_FIGURES (c : Base) : GloName (cx c) (sc_579 c) "HEX_FIGURES" (.str ⟨[48, 49, 50, 51, 52, 53, 54, 55, 56, 57, 97, 98, 99, 100, 101, 102].toArray⟩ 1015) := ⟨gv_HEX_FIGURES c, by kernel_rfl, by kernel_rfl⟩
theorem bn_579_min (c : Base) : BltName (cx c) (sc_579 c) "min" (.builtin "min") := ⟨gz_min c, by kernel_rfl, by decide, by kernel_rfl, by kernel_rfl⟩
theorem ln_579_0 (c : Base) : LocName (sc_579 c) 0 "run" := ⟨rfl, by kernel_rfl, by kernel_rfl⟩
noncomputable def B_number_of_run : SS := (seqS (asgS (asgL 2) (cE (.int 0)))
  (seqS (forVS (lE 0) (asgL 3)
  (seqS (asgS (asgL 2) (bltE minG (esC (bE addV (bE mulV (lE 2) (lE 1)) (indexE (cE (.str [48, 49, 50, 51, 52, 53, 54, 55, 56, 57, 97, 98, 99, 100, 101, 102])) (lowerE (lE 3)))) (esC (bE addV (cE (.int 1114111)) (cE (.int 1))) esN))))
  nilS) 1000)
  (seqS (retS (lE 2))
  nilS)))
theorem S_number_of_run (c : Base) : SoundB (cx c) 0 (sc_579 c) (stOf (cx c).K 579) B_number_of_run := (sb_cons (s_asg (u_name (ln_579_2 c)) c_int (fun _ => rfl) (fun _ => rfl) (fun _ => rfl))
  (sb_cons (s_for 1000 (l_name (ln_579_0 c)) (u_name (ln_579_3 c))
  (sb_cons (s_asg (u_name (ln_579_2 c)) (b_blt (bn_579_min c) f_min (es_cons (b_op (b_op (l_name (ln_579_2 c)) (l_name (ln_579_1 c)) bin_mul) (b_index (g_name (gn_579_HEX_FIGURES c) (fun _ _ => (.str _ _))) (b_lower (l_name (ln_579_3 c)) (fun _ => rfl)) (fun _ => ⟨rfl, rfl⟩) (fun _ => rfl)) bin_add) (es_cons (b_op (g_name (gn_579_MOST_CODE c) (fun _ _ => (.int _ _))) c_int bin_add) es_nil (fun _ => rfl)) (fun _ => rfl)) (fun _ => ⟨rfl, rfl⟩) (fun _ => ⟨rfl, rfl⟩) (fun _ => rfl)) (fun _ => rfl) (fun _ => rfl) (fun _ => rfl))
  sb_nil) (.inl (fun _ _ => rfl)) (fun _ _ => rfl))
  (sb_cons (s_ret (l_name (ln_579_2 c)))
  sb_nil)))
noncomputable def F_number_of_run : FnG := runB [2] 2 4 [] B_number_of_run
theorem ok_number_of_run (c : Base) : CallOk (cx c) 1 (.ref ((cx c).ga 579)) F_number_of_run := fn_okK (fk_579 c) (S_number_of_run c)
theorem kp_579 (c : Base) : keepIn (cx c).K (.ref ((cx c).ga 579)) = true := by kernel_rfl
theorem gv_number_of_run (c : Base) : nsIn (cx c).K mainGlobals "number_of_run" = some (some (.ref 579)) := by kernel_rfl
theorem gn_853_number_of_run (c : Base) : GloName (cx c) (sc_853 c) "number_of_run" (.ref 579) := ⟨gv_number_of_run c, by kernel_rfl, by kernel_rfl⟩
theorem fn_853_number_of_run (c : Base) : FnName (cx c) (sc_853 c) "number_of_run" 579 := ⟨gn_853_number_of_run c, kp_579 c⟩
theorem ln_853_5 (c : Base) : LocName (sc_853 c) 5 "begun" := ⟨rfl, by kernel_rfl, by kernel_rfl⟩
theorem gv_CLASS_LETTERS (c : Base) : nsIn (cx c).K mainGlobals "CLASS_LETTERS" = some (some (.str ⟨[100, 68, 119, 87, 115, 83, 104, 72, 118, 86].toArray⟩ 1017)) := by kernel_rfl
theorem gn_853_CLASS_LETTERS (c : Base) : GloName (cx c) (sc_853 c) "CLASS_LETTERS" (.str ⟨[100, 68, 119, 87, 115, 83, 104, 72, 118, 86].toArray⟩ 1017) := ⟨gv_CLASS_LETTERS c, by kernel_rfl, by kernel_rfl⟩
theorem kp_551 (c : Base) : keepIn (cx c).K (.ref ((cx c).ga 551)) = true := by kernel_rfl
theorem mo_551 (c : Base) : MethOk (cx c) 561 "peek" 551 := ⟨by kernel_rfl, by kernel_rfl, by kernel_rfl, kp_551 c, (by decide : ("peek" : Str) ∉ cAt 561)⟩
noncomputable def sc_551 (c : Base) : Sc := ⟨(fdOf (cx c).K 551).scope, ["self"], [], fun _ => True⟩
theorem fk_551 (c : Base) : FnK (cx c) 551 ["self"] ["self"] [1] [] where
  at_ := by kernel_rfl
  isF := ⟨by kernel_rfl, by kernel_rfl, by kernel_rfl, by kernel_rfl⟩
  code := by kernel_rfl
  bind := bindD (ds := []) (fun _ _ => .nil) (one_ar (fun S ws h => by obtain ⟨w0, rfl⟩ := len1 h; kernel_rfl))
  ars := by decide
  pre := ⟨[], rfl⟩
  nd := by decide
  loc := by kernel_rfl
  cell := by kernel_rfl
  co := by kernel_rfl
  gen := by kernel_rfl
  kind := by kernel_rfl
theorem ln_551_0 (c : Base) : LocName (sc_551 c) 0 "self" := ⟨rfl, by kernel_rfl, by kernel_rfl⟩
noncomputable def B_PatternText_peek : SS := (seqS (retS (sliS (attrE 561 0 (lE 0)) (partE (attrE 561 2 (lE 0))) (partE (bE addV (attrE 561 2 (lE 0)) (cE (.int 1))))))
  nilS)
theorem S_PatternText_peek (c : Base) : SoundB (cx c) 0 (sc_551 c) (stOf (cx c).K 551) B_PatternText_peek := (sb_cons (s_ret (b_sliceS (b_attr (l_name (ln_551_0 c)) (ao_561_0 c) (fun _ => rfl)) (p_some (b_attr (l_name (ln_551_0 c)) (ao_561_2 c) (fun _ => rfl))) (p_some (b_op (b_attr (l_name (ln_551_0 c)) (ao_561_2 c) (fun _ => rfl)) c_int bin_add)) (fun _ _ => rfl)))
  sb_nil)
noncomputable def F_PatternText_peek : FnG := runB [1] 1 1 [] B_PatternText_peek
theorem ok_PatternText_peek (c : Base) : CallOk (cx c) 1 (.ref ((cx c).ga 551)) F_PatternText_peek := fn_okK (fk_551 c) (S_PatternText_peek c)
theorem ln_853_1 (c : Base) : LocName (sc_853 c) 1 "flags" := ⟨rfl, by kernel_rfl, by kernel_rfl⟩
noncomputable def B_read_escape : SS := (seqS (asgS (asgL 2) (attrE 561 2 (lE 0)))
  (seqS (asgS (asgL 3) (bE inV (cE (.str [105])) (lE 1)))
  (seqS (augA 561 2 iaddV (lE 0) (cE (.int 1)))
  (seqS (asgS (asgL 4) (methE 561 F_PatternText_peek (lE 0) esN))
  (seqS (ifS (tOr (tAnd (tE (bE neV (lE 4) (cE (.str [])))) (tAnd (tE (bE inV (lE 4) (cE (.str [100, 68, 119, 87, 115, 83, 104, 72, 118, 86])))) (tB true))) (tOr (tAnd (tE (bE eqV (lE 4) (cE (.str [78])))) (tAnd noT (tB true))) (tB false)))
  noS
  nilS)
  (seqS (ifS (tAnd (tE (bE neV (lE 4) (cE (.str [])))) (tAnd (tE (bE inV (lE 4) (cE (.str [65, 122, 90, 98, 66, 71])))) (tB true)))
  noS
  nilS)
  (seqS (ifS (tE (methE 561 F_PatternText_skips (lE 0) (esC (cE (.str [103])) esN)))
  noS
  nilS)
  (seqS (ifS (tE (methE 561 F_PatternText_skips (lE 0) (esC (cE (.str [107])) esN)))
  noS
  nilS)
  (seqS (ifS (tAnd (tE (bE neV (lE 4) (cE (.str [])))) (tAnd (tE (bE inV (lE 4) (cE (.str [49, 50, 51, 52, 53, 54, 55, 56, 57])))) (tB true)))
  (seqS (asgS (asgL 5) (attrE 561 2 (lE 0)))
  (seqS (asgS (asgL 6) (callE F_number_of_run (esC (callE F_run_of (esC (lE 0) (esC (cE (.str [48, 49, 50, 51, 52, 53, 54, 55, 56, 57])) (esC (cE (.int (-1))) esN)))) (esC (cE (.int 10)) esN))))
  (seqS (ifS (tOr (tE (bE ltV (lE 6) (cE (.int 10)))) (tOr noT (tOr noT (tB false))))
  (seqS (retS (tupE (esC (cE (.str [98, 97, 99, 107])) (esC (callE F_speak_of (esC (lE 0) (esC (listE (esC (lE 6) esN)) (esC (lE 2) esN)))) (esC (lE 3) esN)))))
  nilS)
  nilS)
  noS)))
  nilS)
  noS)))))))))
theorem S_read_escape (c : Base) : SoundB (cx c) 1 (sc_853 c) (stOf (cx c).K 853) B_read_escape := (sb_cons (s_asg (u_name (ln_853_2 c)) (b_attr (l_name (ln_853_0 c)) (ao_561_2 c) (fun _ => rfl)) (fun _ => rfl) (fun _ => rfl) (fun _ => rfl))
  (sb_cons (s_asg (u_name (ln_853_3 c)) (b_cmp (c_str (by kernel_rfl)) (l_name (ln_853_1 c)) bin_in rfl) (fun _ => rfl) (fun _ => rfl) (fun _ => rfl))
  (sb_cons (s_augA (l_name (ln_853_0 c)) (ao_561_2 c) (so_561_2 c) c_int bin_iadd)
  (sb_cons (s_asg (u_name (ln_853_4 c)) (b_meth (l_name (ln_853_0 c)) (mo_551 c) ((ok_PatternText_peek c).up rfl) es_nil (fun _ => ⟨rfl, trivial⟩) nilOk_nil (fun _ => rfl)) (fun _ => rfl) (fun _ => rfl) (fun _ => rfl))
  (sb_cons (s_if (t_bool (a_or (t_bool (a_and (t_cmp (l_name (ln_853_4 c)) (c_str (by kernel_rfl)) bin_ne rfl) (a_and (t_cmp (l_name (ln_853_4 c)) (g_name (gn_853_CLASS_LETTERS c) (fun _ _ => (.str _ _))) bin_in rfl) a_andNil))) (a_or (t_bool (a_and (t_cmp (l_name (ln_853_4 c)) (c_str (by kernel_rfl)) bin_eq rfl) (a_and no_t a_andNil))) a_orNil)))
  no_b
  sb_nil)
  (sb_cons (s_if (t_bool (a_and (t_cmp (l_name (ln_853_4 c)) (c_str (by kernel_rfl)) bin_ne rfl) (a_and (t_cmp (l_name (ln_853_4 c)) (c_str (by kernel_rfl)) bin_in rfl) a_andNil)))
  no_b
  sb_nil)
  (sb_cons (s_if (t_val (b_meth (l_name (ln_853_0 c)) (mo_558 c) ((ok_PatternText_skips c).up rfl) (es_cons (c_str (by kernel_rfl)) es_nil (fun _ => rfl)) (fun _ => ⟨rfl, rfl⟩) nilOk_cons (fun _ => rfl)) (fun _ _ => rfl))
  no_b
  sb_nil)
  (sb_cons (s_if (t_val (b_meth (l_name (ln_853_0 c)) (mo_558 c) ((ok_PatternText_skips c).up rfl) (es_cons (c_str (by kernel_rfl)) es_nil (fun _ => rfl)) (fun _ => ⟨rfl, rfl⟩) nilOk_cons (fun _ => rfl)) (fun _ _ => rfl))
  no_b
  sb_nil)
  (sb_cons (s_if (t_bool (a_and (t_cmp (l_name (ln_853_4 c)) (c_str (by kernel_rfl)) bin_ne rfl) (a_and (t_cmp (l_name (ln_853_4 c)) (c_str (by kernel_rfl)) bin_in rfl) a_andNil)))
  (sb_cons (s_asg (u_name (ln_853_5 c)) (b_attr (l_name (ln_853_0 c)) (ao_561_2 c) (fun _ => rfl)) (fun _ => rfl) (fun _ => rfl) (fun _ => rfl))
  (sb_cons (s_asg (u_name (ln_853_6 c)) (b_call (fn_853_number_of_run c) ((ok_number_of_run c).up rfl) (es_cons (b_call (fn_853_run_of c) ((ok_run_of c).up rfl) (es_cons (l_name (ln_853_0 c)) (es_cons (g_name (gn_853_FIGURES c) (fun _ _ => (.str _ _))) (es_cons b_neg es_nil (fun _ => rfl)) (fun _ => rfl)) (fun _ => rfl)) (fun _ => ⟨rfl, rfl⟩) nilOk_cons (fun _ => rfl)) (es_cons c_int es_nil (fun _ => rfl)) (fun _ => rfl)) (fun _ => ⟨rfl, rfl⟩) nilOk_cons (fun _ => rfl)) (fun _ => rfl) (fun _ => rfl) (fun _ => rfl))
  (sb_cons (s_if (t_bool (a_or (t_cmp (l_name (ln_853_6 c)) c_int bin_lt rfl) (a_or no_t (a_or no_t a_orNil))))
  (sb_cons (s_ret (b_tup (es_cons (c_str (by kernel_rfl)) (es_cons (b_call (fn_853_speak_of c) ((ok_speak_of c).up rfl) (es_cons (l_name (ln_853_0 c)) (es_cons (b_list (es_cons (l_name (ln_853_6 c)) es_nil (fun _ => rfl))) (es_cons (l_name (ln_853_2 c)) es_nil (fun _ => rfl)) (fun _ => rfl)) (fun _ => rfl)) (fun _ => ⟨rfl, rfl⟩) nilOk_cons (fun _ => rfl)) (es_cons (l_name (ln_853_3 c)) es_nil (fun _ => rfl)) (fun _ => rfl)) (fun _ => rfl))))
  sb_nil)
  sb_nil)
  no_b)))
  sb_nil)
  no_b)))))))))
noncomputable def F_read_escape : FnG := runB [2] 2 7 [] B_read_escape
theorem ok_read_escape (c : Base) : CallOk (cx c) 2 (.ref ((cx c).ga 853)) F_read_escape := fn_okK (fk_853 c) (S_read_escape c)
theorem kp_853 (c : Base) : keepIn (cx c).K (.ref ((cx c).ga 853)) = true := by kernel_rfl
theorem gv_read_escape (c : Base) : nsIn (cx c).K mainGlobals "read_escape" = some (some (.ref 853)) := by kernel_rfl
theorem gn_804_read_escape (c : Base) : GloName (cx c) (sc_804 c) "read_escape" (.ref 853) := ⟨gv_read_escape c, by kernel_rfl, by kernel_rfl⟩
theorem fn_804_read_escape (c : Base) : FnName (cx c) (sc_804 c) "read_escape" 853 := ⟨gn_804_read_escape c, kp_853 c⟩
noncomputable def sc_671 (c : Base) : Sc := ⟨(fdOf (cx c).K 671).scope, ["state", "is_folded", "begun", "is_negated", "items", "is_first", "found", "behind"], [], fun _ => True⟩
theorem fk_671 (c : Base) : FnK (cx c) 671 ["state", "is_folded"] ["state", "is_folded", "begun", "is_negated", "items", "is_first", "found", "behind"] [2] [] where
  at_ := by kernel_rfl
  isF := ⟨by kernel_rfl, by kernel_rfl, by kernel_rfl, by kernel_rfl⟩
  code := by kernel_rfl
  bind := bindD (ds := []) (fun _ _ => .nil) (one_ar (fun S ws h => by obtain ⟨w0, w1, rfl⟩ := len2 h; kernel_rfl))
  ars := by decide
  pre := ⟨["begun", "is_negated", "items", "is_first", "found", "behind"], rfl⟩
  nd := by decide
  loc := by kernel_rfl
  cell := by kernel_rfl
  co := by kernel_rfl
  gen := by kernel_rfl
  kind := by kernel_rfl
theorem ln_671_1 (c : Base) : LocName (sc_671 c) 1 "is_folded" := ⟨rfl, by kernel_rfl, by kernel_rfl⟩
theorem ln_671_3 (c : Base) : LocName (sc_671 c) 3 "is_negated" := ⟨rfl, by kernel_rfl, by kernel_rfl⟩
theorem ln_671_4 (c : Base) : LocName (sc_671 c) 4 "items" := ⟨rfl, by kernel_rfl, by kernel_rfl⟩
theorem ln_671_0 (c : Base) : LocName (sc_671 c) 0 "state" := ⟨rfl, by kernel_rfl, by kernel_rfl⟩
theorem ln_671_5 (c : Base) : LocName (sc_671 c) 5 "is_first" := ⟨rfl, by kernel_rfl, by kernel_rfl⟩
theorem ln_671_6 (c : Base) : LocName (sc_671 c) 6 "found" := ⟨rfl, by kernel_rfl, by kernel_rfl⟩
theorem ln_671_7 (c : Base) : LocName (sc_671 c) 7 "behind" := ⟨rfl, by kernel_rfl, by kernel_rfl⟩
noncomputable def sc_657 (c : Base) : Sc := ⟨(fdOf (cx c).K 657).scope, ["items"], [], fun _ => True⟩
theorem fk_657 (c : Base) : FnK (cx c) 657 ["items"] ["items"] [1] [] where
  at_ := by kernel_rfl
  isF := ⟨by kernel_rfl, by kernel_rfl, by kernel_rfl, by kernel_rfl⟩
  code := by kernel_rfl
  bind := bindD (ds := []) (fun _ _ => .nil) (one_ar (fun S ws h => by obtain ⟨w0, rfl⟩ := len1 h; kernel_rfl))
  ars := by decide
  pre := ⟨[], rfl⟩
  nd := by decide
  loc := by kernel_rfl
  cell := by kernel_rfl
  co := by kernel_rfl
  gen := by kernel_rfl
  kind := by kernel_rfl
theorem ln_657_0 (c : Base) : LocName (sc_657 c) 0 "items" := ⟨rfl, by kernel_rfl, by kernel_rfl⟩
theorem bn_657_len (c : Base) : BltName (cx c) (sc_657 c) "len" (.builtin "len") := ⟨gz_len c, by kernel_rfl, by decide, by kernel_rfl, by kernel_rfl⟩
noncomputable def B_is_one_sign : SS := (seqS (retS (vAnd (bE eqV (bltE lenG (esC (lE 0) esN)) (cE (.int 1))) (vAnd (bE eqV (subE (subE (lE 0) (cE (.int 0))) (cE (.int 0))) (cE (.str [114, 97, 110, 103, 101]))) (bE eqV (subE (subE (lE 0) (cE (.int 0))) (cE (.int 1))) (subE (subE (lE 0) (cE (.int 0))) (cE (.int 2)))))))
  nilS)
theorem S_is_one_sign (c : Base) : SoundB (cx c) 0 (sc_657 c) (stOf (cx c).K 657) B_is_one_sign := (sb_cons (s_ret (b_bool (o_and (b_cmp (b_blt (bn_657_len c) f_len (es_cons (l_name (ln_657_0 c)) es_nil (fun _ => rfl)) (fun _ => ⟨rfl, rfl⟩) (fun _ => ⟨rfl, trivial⟩) (fun _ => rfl)) c_int bin_eq rfl) (o_and (b_cmp (b_sub (b_sub (l_name (ln_657_0 c)) c_int (fun _ _ => rfl)) c_int (fun _ _ => rfl)) (c_str (by kernel_rfl)) bin_eq rfl) (o_one (b_cmp (b_sub (b_sub (l_name (ln_657_0 c)) c_int (fun _ _ => rfl)) c_int (fun _ _ => rfl)) (b_sub (b_sub (l_name (ln_657_0 c)) c_int (fun _ _ => rfl)) c_int (fun _ _ => rfl)) bin_eq rfl))))))
  sb_nil)
noncomputable def F_is_one_sign : FnG := runB [1] 1 1 [] B_is_one_sign
theorem ok_is_one_sign (c : Base) : CallOk (cx c) 1 (.ref ((cx c).ga 657)) F_is_one_sign := fn_okK (fk_657 c) (S_is_one_sign c)
theorem kp_657 (c : Base) : keepIn (cx c).K (.ref ((cx c).ga 657)) = true := by kernel_rfl
theorem gv_is_one_sign (c : Base) : nsIn (cx c).K mainGlobals "is_one_sign" = some (some (.ref 657)) := by kernel_rfl
theorem gn_671_is_one_sign (c : Base) : GloName (cx c) (sc_671 c) "is_one_sign" (.ref 657) := ⟨gv_is_one_sign c, by kernel_rfl, by kernel_rfl⟩
theorem fn_671_is_one_sign (c : Base) : FnName (cx c) (sc_671 c) "is_one_sign" 657 := ⟨gn_671_is_one_sign c, kp_657 c⟩
noncomputable def sc_650 (c : Base) : Sc := ⟨(fdOf (cx c).K 650).scope, ["state", "is_folded", "found", "sign", "letter"], [], fun _ => True⟩
theorem fk_650 (c : Base) : FnK (cx c) 650 ["state", "is_folded"] ["state", "is_folded", "found", "sign", "letter"] [2] [] where
  at_ := by kernel_rfl
  isF := ⟨by kernel_rfl, by kernel_rfl, by kernel_rfl, by kernel_rfl⟩
  code := by kernel_rfl
  bind := bindD (ds := []) (fun _ _ => .nil) (one_ar (fun S ws h => by obtain ⟨w0, w1, rfl⟩ := len2 h; kernel_rfl))
  ars := by decide
  pre := ⟨["found", "sign", "letter"], rfl⟩
  nd := by decide
  loc := by kernel_rfl
  cell := by kernel_rfl
  co := by kernel_rfl
  gen := by kernel_rfl
  kind := by kernel_rfl
theorem ln_650_3 (c : Base) : LocName (sc_650 c) 3 "sign" := ⟨rfl, by kernel_rfl, by kernel_rfl⟩
theorem gz_ord (c : Base) : nsIn (cx c).K mainGlobals "ord" = some none := by kernel_rfl
theorem bn_650_ord (c : Base) : BltName (cx c) (sc_650 c) "ord" (.builtin "ord") := ⟨gz_ord c, by kernel_rfl, by decide, by kernel_rfl, by kernel_rfl⟩
theorem ln_650_0 (c : Base) : LocName (sc_650 c) 0 "state" := ⟨rfl, by kernel_rfl, by kernel_rfl⟩
theorem ln_650_2 (c : Base) : LocName (sc_650 c) 2 "found" := ⟨rfl, by kernel_rfl, by kernel_rfl⟩
theorem ln_650_1 (c : Base) : LocName (sc_650 c) 1 "is_folded" := ⟨rfl, by kernel_rfl, by kernel_rfl⟩
noncomputable def sc_643 (c : Base) : Sc := ⟨(fdOf (cx c).K 643).scope, ["state", "is_folded", "close", "name", "bare", "items"], [], fun _ => True⟩
theorem fk_643 (c : Base) : FnK (cx c) 643 ["state", "is_folded"] ["state", "is_folded", "close", "name", "bare", "items"] [2] [] where
  at_ := by kernel_rfl
  isF := ⟨by kernel_rfl, by kernel_rfl, by kernel_rfl, by kernel_rfl⟩
  code := by kernel_rfl
  bind := bindD (ds := []) (fun _ _ => .nil) (one_ar (fun S ws h => by obtain ⟨w0, w1, rfl⟩ := len2 h; kernel_rfl))
  ars := by decide
  pre := ⟨["close", "name", "bare", "items"], rfl⟩
  nd := by decide
  loc := by kernel_rfl
  cell := by kernel_rfl
  co := by kernel_rfl
  gen := by kernel_rfl
  kind := by kernel_rfl
theorem ln_643_2 (c : Base) : LocName (sc_643 c) 2 "close" := ⟨rfl, by kernel_rfl, by kernel_rfl⟩
theorem ln_643_0 (c : Base) : LocName (sc_643 c) 0 "state" := ⟨rfl, by kernel_rfl, by kernel_rfl⟩
noncomputable def sc_636 (c : Base) : Sc := ⟨(fdOf (cx c).K 636).scope, ["text", "at", "close"], [], fun _ => True⟩
theorem fk_636 (c : Base) : FnK (cx c) 636 ["text", "at"] ["text", "at", "close"] [2] [] where
  at_ := by kernel_rfl
  isF := ⟨by kernel_rfl, by kernel_rfl, by kernel_rfl, by kernel_rfl⟩
  code := by kernel_rfl
  bind := bindD (ds := []) (fun _ _ => .nil) (one_ar (fun S ws h => by obtain ⟨w0, w1, rfl⟩ := len2 h; kernel_rfl))
  ars := by decide
  pre := ⟨["close"], rfl⟩
  nd := by decide
  loc := by kernel_rfl
  cell := by kernel_rfl
  co := by kernel_rfl
  gen := by kernel_rfl
  kind := by kernel_rfl
theorem ln_636_0 (c : Base) : LocName (sc_636 c) 0 "text" := ⟨rfl, by kernel_rfl, by kernel_rfl⟩
theorem ln_636_1 (c : Base) : LocName (sc_636 c) 1 "at" := ⟨rfl, by kernel_rfl, by kernel_rfl⟩
noncomputable def B_posix_end : SS := (seqS (ifS (tE (bE neV (sliE (lE 0) (partE (lE 1)) (partE (bE addV (lE 1) (cE (.int 2))))) (cE (.str [91, 58]))))
  (seqS (retS (cE (.int (-1))))
  nilS)
  nilS)
  noS)
theorem S_posix_end (c : Base) : SoundB (cx c) 0 (sc_636 c) (stOf (cx c).K 636) B_posix_end := (sb_cons (s_if (t_cmp (b_slice (l_name (ln_636_0 c)) (p_some (l_name (ln_636_1 c))) (p_some (b_op (l_name (ln_636_1 c)) c_int bin_add)) (fun _ _ => rfl) (fun _ _ => rfl)) (c_str (by kernel_rfl)) bin_ne rfl)
  (sb_cons (s_ret b_neg)
  sb_nil)
  sb_nil)
  no_b)
noncomputable def F_posix_end : FnG := runB [2] 2 3 [] B_posix_end
theorem ok_posix_end (c : Base) : CallOk (cx c) 1 (.ref ((cx c).ga 636)) F_posix_end := fn_okK (fk_636 c) (S_posix_end c)
theorem kp_636 (c : Base) : keepIn (cx c).K (.ref ((cx c).ga 636)) = true := by kernel_rfl
theorem gv_posix_end (c : Base) : nsIn (cx c).K mainGlobals "posix_end" = some (some (.ref 636)) := by kernel_rfl
theorem gn_643_posix_end (c : Base) : GloName (cx c) (sc_643 c) "posix_end" (.ref 636) := ⟨gv_posix_end c, by kernel_rfl, by kernel_rfl⟩
theorem fn_643_posix_end (c : Base) : FnName (cx c) (sc_643 c) "posix_end" 636 := ⟨gn_643_posix_end c, kp_636 c⟩
noncomputable def B_read_posix : SS := (seqS (asgS (asgL 2) (callE F_posix_end (esC (attrE 561 0 (lE 0)) (esC (attrE 561 2 (lE 0)) esN))))
  (seqS (ifS (tE (bE ltV (lE 2) (cE (.int 0))))
  (seqS (retS (cE .none))
  nilS)
  nilS)
  noS))
theorem S_read_posix (c : Base) : SoundB (cx c) 1 (sc_643 c) (stOf (cx c).K 643) B_read_posix := (sb_cons (s_asg (u_name (ln_643_2 c)) (b_call (fn_643_posix_end c) ((ok_posix_end c).up rfl) (es_cons (b_attr (l_name (ln_643_0 c)) (ao_561_0 c) (fun _ => rfl)) (es_cons (b_attr (l_name (ln_643_0 c)) (ao_561_2 c) (fun _ => rfl)) es_nil (fun _ => rfl)) (fun _ => rfl)) (fun _ => ⟨rfl, rfl⟩) nilOk_cons (fun _ => rfl)) (fun _ => rfl) (fun _ => rfl) (fun _ => rfl))
  (sb_cons (s_if (t_cmp (l_name (ln_643_2 c)) c_int bin_lt rfl)
  (sb_cons (s_ret c_none)
  sb_nil)
  sb_nil)
  no_b))
noncomputable def F_read_posix : FnG := runB [2] 2 6 [] B_read_posix
theorem ok_read_posix (c : Base) : CallOk (cx c) 2 (.ref ((cx c).ga 643)) F_read_posix := fn_okK (fk_643 c) (S_read_posix c)
theorem kp_643 (c : Base) : keepIn (cx c).K (.ref ((cx c).ga 643)) = true := by kernel_rfl
theorem gv_read_posix (c : Base) : nsIn (cx c).K mainGlobals "read_posix" = some (some (.ref 643)) := by kernel_rfl
theorem gn_650_read_posix (c : Base) : GloName (cx c) (sc_650 c) "read_posix" (.ref 643) := ⟨gv_read_posix c, by kernel_rfl, by kernel_rfl⟩
theorem fn_650_read_posix (c : Base) : FnName (cx c) (sc_650 c) "read_posix" 643 := ⟨gn_650_read_posix c, kp_643 c⟩
noncomputable def B_read_member : SS := (seqS (asgS (asgL 2) (callE F_read_posix (esC (lE 0) (esC (lE 1) esN))))
  (seqS (ifS (tE (bE isNotV (lE 2) (cE .none)))
  noS
  nilS)
  (seqS (asgS (asgL 3) (methE 561 F_PatternText_peek (lE 0) esN))
  (seqS (augA 561 2 iaddV (lE 0) (cE (.int 1)))
  (seqS (ifS (tE (bE eqV (lE 3) (cE (.str [92]))))
  noS
  nilS)
  (seqS (retS (listE (esC (tupE (esC (cE (.str [114, 97, 110, 103, 101])) (esC (bltE ordG (esC (lE 3) esN)) (esC (bltE ordG (esC (lE 3) esN)) esN)))) esN)))
  nilS))))))
theorem S_read_member (c : Base) : SoundB (cx c) 2 (sc_650 c) (stOf (cx c).K 650) B_read_member := (sb_cons (s_asg (u_name (ln_650_2 c)) (b_call (fn_650_read_posix c) ((ok_read_posix c).up rfl) (es_cons (l_name (ln_650_0 c)) (es_cons (l_name (ln_650_1 c)) es_nil (fun _ => rfl)) (fun _ => rfl)) (fun _ => ⟨rfl, rfl⟩) nilOk_cons (fun _ => rfl)) (fun _ => rfl) (fun _ => rfl) (fun _ => rfl))
  (sb_cons (s_if (t_cmp (l_name (ln_650_2 c)) c_none bin_isNot rfl)
  no_b
  sb_nil)
  (sb_cons (s_asg (u_name (ln_650_3 c)) (b_meth (l_name (ln_650_0 c)) (mo_551 c) ((ok_PatternText_peek c).up rfl) es_nil (fun _ => ⟨rfl, trivial⟩) nilOk_nil (fun _ => rfl)) (fun _ => rfl) (fun _ => rfl) (fun _ => rfl))
  (sb_cons (s_augA (l_name (ln_650_0 c)) (ao_561_2 c) (so_561_2 c) c_int bin_iadd)
  (sb_cons (s_if (t_cmp (l_name (ln_650_3 c)) (c_str (by kernel_rfl)) bin_eq rfl)
  no_b
  sb_nil)
  (sb_cons (s_ret (b_list (es_cons (b_tup (es_cons (c_str (by kernel_rfl)) (es_cons (b_blt (bn_650_ord c) f_ord (es_cons (l_name (ln_650_3 c)) es_nil (fun _ => rfl)) (fun _ => ⟨rfl, rfl⟩) (fun _ => ⟨rfl, trivial⟩) (fun _ => rfl)) (es_cons (b_blt (bn_650_ord c) f_ord (es_cons (l_name (ln_650_3 c)) es_nil (fun _ => rfl)) (fun _ => ⟨rfl, rfl⟩) (fun _ => ⟨rfl, trivial⟩) (fun _ => rfl)) es_nil (fun _ => rfl)) (fun _ => rfl)) (fun _ => rfl))) es_nil (fun _ => rfl))))
  sb_nil))))))
noncomputable def F_read_member : FnG := runB [2] 2 5 [] B_read_member
theorem ok_read_member (c : Base) : CallOk (cx c) 3 (.ref ((cx c).ga 650)) F_read_member := fn_okK (fk_650 c) (S_read_member c)
theorem kp_650 (c : Base) : keepIn (cx c).K (.ref ((cx c).ga 650)) = true := by kernel_rfl
theorem gv_read_member (c : Base) : nsIn (cx c).K mainGlobals "read_member" = some (some (.ref 650)) := by kernel_rfl
theorem gn_671_read_member (c : Base) : GloName (cx c) (sc_671 c) "read_member" (.ref 650) := ⟨gv_read_member c, by kernel_rfl, by kernel_rfl⟩
theorem fn_671_read_member (c : Base) : FnName (cx c) (sc_671 c) "read_member" 650 := ⟨gn_671_read_member c, kp_650 c⟩
theorem ln_671_2 (c : Base) : LocName (sc_671 c) 2 "begun" := ⟨rfl, by kernel_rfl, by kernel_rfl⟩
noncomputable def B_read_set : SS := (seqS (asgS (asgL 2) (attrE 561 2 (lE 0)))
  (seqS (augA 561 2 iaddV (lE 0) (cE (.int 1)))
  (seqS (asgS (asgL 3) (methE 561 F_PatternText_skips (lE 0) (esC (cE (.str [94])) esN)))
  (seqS (asgS (asgL 4) (listE esN))
  (seqS (asgS (asgL 5) (cE (.bool true)))
  (seqS (whileS (tOr (tE (lE 5)) (tOr (tE (bE neV (methE 561 F_PatternText_peek (lE 0) esN) (cE (.str [93])))) (tB false)))
  (seqS (ifS (tE (bE eqV (methE 561 F_PatternText_peek (lE 0) esN) (cE (.str []))))
  noS
  nilS)
  (seqS (asgS (asgL 5) (cE (.bool false)))
  (seqS (asgS (asgL 6) (callE F_read_member (esC (lE 0) (esC (lE 1) esN))))
  (seqS (asgS (asgL 7) (sliS (attrE 561 0 (lE 0)) (partE (attrE 561 2 (lE 0))) (partE (bE addV (attrE 561 2 (lE 0)) (cE (.int 2))))))
  (seqS (ifS (tAnd (tE (callE F_is_one_sign (esC (lE 6) esN))) (tAnd (tE (bE eqV (sliE (lE 7) partN (partE (cE (.int 1)))) (cE (.str [45])))) (tAnd noT (tAnd noT (tB true)))))
  noS
  nilS)
  (seqS (exprS (extendE (lE 4) (lE 6)))
  nilS)))))) 1000)
  (seqS (augA 561 2 iaddV (lE 0) (cE (.int 1)))
  (seqS (retS (tupE (esC (cE (.str [115, 101, 116])) (esC (lE 4) (esC (lE 3) (esC (lE 1) esN))))))
  nilS))))))))
theorem S_read_set (c : Base) : SoundB (cx c) 3 (sc_671 c) (stOf (cx c).K 671) B_read_set := (sb_cons (s_asg (u_name (ln_671_2 c)) (b_attr (l_name (ln_671_0 c)) (ao_561_2 c) (fun _ => rfl)) (fun _ => rfl) (fun _ => rfl) (fun _ => rfl))
  (sb_cons (s_augA (l_name (ln_671_0 c)) (ao_561_2 c) (so_561_2 c) c_int bin_iadd)
  (sb_cons (s_asg (u_name (ln_671_3 c)) (b_meth (l_name (ln_671_0 c)) (mo_558 c) ((ok_PatternText_skips c).up rfl) (es_cons (c_str (by kernel_rfl)) es_nil (fun _ => rfl)) (fun _ => ⟨rfl, rfl⟩) nilOk_cons (fun _ => rfl)) (fun _ => rfl) (fun _ => rfl) (fun _ => rfl))
  (sb_cons (s_asg (u_name (ln_671_4 c)) (b_list es_nil) (fun _ => rfl) (fun _ => rfl) (fun _ => rfl))
  (sb_cons (s_asg (u_name (ln_671_5 c)) c_bool (fun _ => rfl) (fun _ => rfl) (fun _ => rfl))
  (sb_cons (s_while 1000 (t_bool (a_or (t_val (l_name (ln_671_5 c)) (fun _ _ => rfl)) (a_or (t_cmp (b_meth (l_name (ln_671_0 c)) (mo_551 c) ((ok_PatternText_peek c).up rfl) es_nil (fun _ => ⟨rfl, trivial⟩) nilOk_nil (fun _ => rfl)) (c_str (by kernel_rfl)) bin_ne rfl) a_orNil)))
  (sb_cons (s_if (t_cmp (b_meth (l_name (ln_671_0 c)) (mo_551 c) ((ok_PatternText_peek c).up rfl) es_nil (fun _ => ⟨rfl, trivial⟩) nilOk_nil (fun _ => rfl)) (c_str (by kernel_rfl)) bin_eq rfl)
  no_b
  sb_nil)
  (sb_cons (s_asg (u_name (ln_671_5 c)) c_bool (fun _ => rfl) (fun _ => rfl) (fun _ => rfl))
  (sb_cons (s_asg (u_name (ln_671_6 c)) (b_call (fn_671_read_member c) ((ok_read_member c).up rfl) (es_cons (l_name (ln_671_0 c)) (es_cons (l_name (ln_671_1 c)) es_nil (fun _ => rfl)) (fun _ => rfl)) (fun _ => ⟨rfl, rfl⟩) nilOk_cons (fun _ => rfl)) (fun _ => rfl) (fun _ => rfl) (fun _ => rfl))
  (sb_cons (s_asg (u_name (ln_671_7 c)) (b_sliceS (b_attr (l_name (ln_671_0 c)) (ao_561_0 c) (fun _ => rfl)) (p_some (b_attr (l_name (ln_671_0 c)) (ao_561_2 c) (fun _ => rfl))) (p_some (b_op (b_attr (l_name (ln_671_0 c)) (ao_561_2 c) (fun _ => rfl)) c_int bin_add)) (fun _ _ => rfl)) (fun _ => rfl) (fun _ => rfl) (fun _ => rfl))
  (sb_cons (s_if (t_bool (a_and (t_val (b_call (fn_671_is_one_sign c) ((ok_is_one_sign c).up rfl) (es_cons (l_name (ln_671_6 c)) es_nil (fun _ => rfl)) (fun _ => ⟨rfl, rfl⟩) nilOk_cons (fun _ => rfl)) (fun _ _ => rfl)) (a_and (t_cmp (b_slice (l_name (ln_671_7 c)) p_none (p_some c_int) (fun _ _ => rfl) (fun _ _ => rfl)) (c_str (by kernel_rfl)) bin_eq rfl) (a_and no_t (a_and no_t a_andNil)))))
  no_b
  sb_nil)
  (sb_cons (s_expr (b_extend (l_name (ln_671_4 c)) (l_name (ln_671_6 c)) (fun _ => ⟨rfl, rfl⟩) (fun _ => rfl)) (fun _ => rfl))
  sb_nil)))))))
  (sb_cons (s_augA (l_name (ln_671_0 c)) (ao_561_2 c) (so_561_2 c) c_int bin_iadd)
  (sb_cons (s_ret (b_tup (es_cons (c_str (by kernel_rfl)) (es_cons (l_name (ln_671_4 c)) (es_cons (l_name (ln_671_3 c)) (es_cons (l_name (ln_671_1 c)) es_nil (fun _ => rfl)) (fun _ => rfl)) (fun _ => rfl)) (fun _ => rfl))))
  sb_nil))))))))
noncomputable def F_read_set : FnG := runB [2] 2 8 [] B_read_set
theorem ok_read_set (c : Base) : CallOk (cx c) 4 (.ref ((cx c).ga 671)) F_read_set := fn_okK (fk_671 c) (S_read_set c)
theorem kp_671 (c : Base) : keepIn (cx c).K (.ref ((cx c).ga 671)) = true := by kernel_rfl
theorem gv_read_set (c : Base) : nsIn (cx c).K mainGlobals "read_set" = some (some (.ref 671)) := by kernel_rfl
theorem gn_804_read_set (c : Base) : GloName (cx c) (sc_804 c) "read_set" (.ref 671) := ⟨gv_read_set c, by kernel_rfl, by kernel_rfl⟩
theorem fn_804_read_set (c : Base) : FnName (cx c) (sc_804 c) "read_set" 671 := ⟨gn_804_read_set c, kp_671 c⟩
theorem kp_839 (c : Base) : keepIn (cx c).K (.ref ((cx c).ga 839)) = true := by kernel_rfl
theorem gv_read_group (c : Base) : nsIn (cx c).K mainGlobals "read_group" = some (some (.ref 839)) := by kernel_rfl
theorem gn_804_read_group (c : Base) : GloName (cx c) (sc_804 c) "read_group" (.ref 839) := ⟨gv_read_group c, by kernel_rfl, by kernel_rfl⟩
theorem fn_804_read_group (c : Base) : FnName (cx c) (sc_804 c) "read_group" 839 := ⟨gn_804_read_group c, kp_839 c⟩
noncomputable def sc_797 (c : Base) : Sc := ⟨(fdOf (cx c).K 797).scope, ["state", "flags", "parts", "changed"], [], fun _ => True⟩
theorem fk_797 (c : Base) : FnK (cx c) 797 ["state", "flags"] ["state", "flags", "parts", "changed"] [2] [] where
  at_ := by kernel_rfl
  isF := ⟨by kernel_rfl, by kernel_rfl, by kernel_rfl, by kernel_rfl⟩
  code := by kernel_rfl
  bind := bindD (ds := []) (fun _ _ => .nil) (one_ar (fun S ws h => by obtain ⟨w0, w1, rfl⟩ := len2 h; kernel_rfl))
  ars := by decide
  pre := ⟨["parts", "changed"], rfl⟩
  nd := by decide
  loc := by kernel_rfl
  cell := by kernel_rfl
  co := by kernel_rfl
  gen := by kernel_rfl
  kind := by kernel_rfl
theorem ln_797_1 (c : Base) : LocName (sc_797 c) 1 "flags" := ⟨rfl, by kernel_rfl, by kernel_rfl⟩
theorem ln_797_2 (c : Base) : LocName (sc_797 c) 2 "parts" := ⟨rfl, by kernel_rfl, by kernel_rfl⟩
theorem ln_797_0 (c : Base) : LocName (sc_797 c) 0 "state" := ⟨rfl, by kernel_rfl, by kernel_rfl⟩
theorem kp_804 (c : Base) : keepIn (cx c).K (.ref ((cx c).ga 804)) = true := by kernel_rfl
theorem gv_read_atom (c : Base) : nsIn (cx c).K mainGlobals "read_atom" = some (some (.ref 804)) := by kernel_rfl
theorem gn_797_read_atom (c : Base) : GloName (cx c) (sc_797 c) "read_atom" (.ref 804) := ⟨gv_read_atom c, by kernel_rfl, by kernel_rfl⟩
theorem fn_797_read_atom (c : Base) : FnName (cx c) (sc_797 c) "read_atom" 804 := ⟨gn_797_read_atom c, kp_804 c⟩
noncomputable def sc_811 (c : Base) : Sc := ⟨(fdOf (cx c).K 811).scope, ["state", "flags", "node", "count", "mode", "begun"], [], fun _ => True⟩
theorem fk_811 (c : Base) : FnK (cx c) 811 ["state", "flags", "node"] ["state", "flags", "node", "count", "mode", "begun"] [3] [] where
  at_ := by kernel_rfl
  isF := ⟨by kernel_rfl, by kernel_rfl, by kernel_rfl, by kernel_rfl⟩
  code := by kernel_rfl
  bind := bindD (ds := []) (fun _ _ => .nil) (one_ar (fun S ws h => by obtain ⟨w0, w1, w2, rfl⟩ := len3 h; kernel_rfl))
  ars := by decide
  pre := ⟨["count", "mode", "begun"], rfl⟩
  nd := by decide
  loc := by kernel_rfl
  cell := by kernel_rfl
  co := by kernel_rfl
  gen := by kernel_rfl
  kind := by kernel_rfl
theorem ln_811_4 (c : Base) : LocName (sc_811 c) 4 "mode" := ⟨rfl, by kernel_rfl, by kernel_rfl⟩
theorem ln_811_3 (c : Base) : LocName (sc_811 c) 3 "count" := ⟨rfl, by kernel_rfl, by kernel_rfl⟩
theorem ln_811_2 (c : Base) : LocName (sc_811 c) 2 "node" := ⟨rfl, by kernel_rfl, by kernel_rfl⟩
theorem ln_811_0 (c : Base) : LocName (sc_811 c) 0 "state" := ⟨rfl, by kernel_rfl, by kernel_rfl⟩
noncomputable def sc_722 (c : Base) : Sc := ⟨(fdOf (cx c).K 722).scope, ["state", "sign", "found", "least", "most", "behind"], [], fun _ => True⟩
theorem fk_722 (c : Base) : FnK (cx c) 722 ["state"] ["state", "sign", "found", "least", "most", "behind"] [1] [] where
  at_ := by kernel_rfl
  isF := ⟨by kernel_rfl, by kernel_rfl, by kernel_rfl, by kernel_rfl⟩
  code := by kernel_rfl
  bind := bindD (ds := []) (fun _ _ => .nil) (one_ar (fun S ws h => by obtain ⟨w0, rfl⟩ := len1 h; kernel_rfl))
  ars := by decide
  pre := ⟨["sign", "found", "least", "most", "behind"], rfl⟩
  nd := by decide
  loc := by kernel_rfl
  cell := by kernel_rfl
  co := by kernel_rfl
  gen := by kernel_rfl
  kind := by kernel_rfl
theorem ln_722_2 (c : Base) : LocName (sc_722 c) 2 "found" := ⟨rfl, by kernel_rfl, by kernel_rfl⟩
theorem ln_722_1 (c : Base) : LocName (sc_722 c) 1 "sign" := ⟨rfl, by kernel_rfl, by kernel_rfl⟩
theorem gn_722_COUNT_SIGNS (c : Base) : GloName (cx c) (sc_722 c) "COUNT_SIGNS" (.ref 672) := ⟨gv_COUNT_SIGNS c, by kernel_rfl, by kernel_rfl⟩
theorem ln_722_0 (c : Base) : LocName (sc_722 c) 0 "state" := ⟨rfl, by kernel_rfl, by kernel_rfl⟩
noncomputable def B_take_count : SS := (seqS (asgS (asgL 1) (methE 561 F_PatternText_peek (lE 0) esN))
  (seqS (ifS (tAnd (tE (bE neV (lE 1) (cE (.str [])))) (tAnd (tE (inDE D_COUNT_SIGNS 672 (lE 1))) (tB true)))
  (seqS (augA 561 2 iaddV (lE 0) (cE (.int 1)))
  (seqS (retS (itemDE D_COUNT_SIGNS 672 (lE 1)))
  nilS))
  nilS)
  (seqS (asgS (asgL 2) (ifE (tE (bE eqV (lE 1) (cE (.str [123])))) noE (cE .none)))
  (seqS (ifS (tE (bE isV (lE 2) (cE .none)))
  (seqS (retS (cE .none))
  nilS)
  nilS)
  noS))))
theorem S_take_count (c : Base) : SoundB (cx c) 1 (sc_722 c) (stOf (cx c).K 722) B_take_count := (sb_cons (s_asg (u_name (ln_722_1 c)) (b_meth (l_name (ln_722_0 c)) (mo_551 c) ((ok_PatternText_peek c).up rfl) es_nil (fun _ => ⟨rfl, trivial⟩) nilOk_nil (fun _ => rfl)) (fun _ => rfl) (fun _ => rfl) (fun _ => rfl))
  (sb_cons (s_if (t_bool (a_and (t_cmp (l_name (ln_722_1 c)) (c_str (by kernel_rfl)) bin_ne rfl) (a_and (t_inD (l_name (ln_722_1 c)) (gn_722_COUNT_SIGNS c) (di_672 c) rfl) a_andNil)))
  (sb_cons (s_augA (l_name (ln_722_0 c)) (ao_561_2 c) (so_561_2 c) c_int bin_iadd)
  (sb_cons (s_ret (b_itemD (l_name (ln_722_1 c)) (gn_722_COUNT_SIGNS c) (di_672 c) (fun _ _ => rfl)))
  sb_nil))
  sb_nil)
  (sb_cons (s_asg (u_name (ln_722_2 c)) (b_if (t_cmp (l_name (ln_722_1 c)) (c_str (by kernel_rfl)) bin_eq rfl) no_e c_none) (fun _ => rfl) (fun _ => rfl) (fun _ => rfl))
  (sb_cons (s_if (t_cmp (l_name (ln_722_2 c)) c_none bin_is rfl)
  (sb_cons (s_ret c_none)
  sb_nil)
  sb_nil)
  no_b))))
noncomputable def F_take_count : FnG := runB [1] 1 6 [] B_take_count
theorem ok_take_count (c : Base) : CallOk (cx c) 2 (.ref ((cx c).ga 722)) F_take_count := fn_okK (fk_722 c) (S_take_count c)
theorem kp_722 (c : Base) : keepIn (cx c).K (.ref ((cx c).ga 722)) = true := by kernel_rfl
theorem gv_take_count (c : Base) : nsIn (cx c).K mainGlobals "take_count" = some (some (.ref 722)) := by kernel_rfl
theorem gn_811_take_count (c : Base) : GloName (cx c) (sc_811 c) "take_count" (.ref 722) := ⟨gv_take_count c, by kernel_rfl, by kernel_rfl⟩
theorem fn_811_take_count (c : Base) : FnName (cx c) (sc_811 c) "take_count" 722 := ⟨gn_811_take_count c, kp_722 c⟩
theorem ln_811_5 (c : Base) : LocName (sc_811 c) 5 "begun" := ⟨rfl, by kernel_rfl, by kernel_rfl⟩
theorem ln_811_1 (c : Base) : LocName (sc_811 c) 1 "flags" := ⟨rfl, by kernel_rfl, by kernel_rfl⟩
noncomputable def sc_771 (c : Base) : Sc := ⟨(fdOf (cx c).K 771).scope, ["state", "flags", "close"], [], fun _ => True⟩
theorem fk_771 (c : Base) : FnK (cx c) 771 ["state", "flags"] ["state", "flags", "close"] [2] [] where
  at_ := by kernel_rfl
  isF := ⟨by kernel_rfl, by kernel_rfl, by kernel_rfl, by kernel_rfl⟩
  code := by kernel_rfl
  bind := bindD (ds := []) (fun _ _ => .nil) (one_ar (fun S ws h => by obtain ⟨w0, w1, rfl⟩ := len2 h; kernel_rfl))
  ars := by decide
  pre := ⟨["close"], rfl⟩
  nd := by decide
  loc := by kernel_rfl
  cell := by kernel_rfl
  co := by kernel_rfl
  gen := by kernel_rfl
  kind := by kernel_rfl
theorem ln_771_1 (c : Base) : LocName (sc_771 c) 1 "flags" := ⟨rfl, by kernel_rfl, by kernel_rfl⟩
theorem ln_771_0 (c : Base) : LocName (sc_771 c) 0 "state" := ⟨rfl, by kernel_rfl, by kernel_rfl⟩
noncomputable def B_skip_unseen : SS := (seqS (ifS (tE (methE 561 F_PatternText_skips (lE 0) (esC (cE (.str [40, 63, 35])) esN)))
  noS
  nilS)
  (seqS (ifS (tE (bE (notV inV) (cE (.str [120])) (lE 1)))
  (seqS (retS (cE (.bool false)))
  nilS)
  nilS)
  noS))
theorem S_skip_unseen (c : Base) : SoundB (cx c) 1 (sc_771 c) (stOf (cx c).K 771) B_skip_unseen := (sb_cons (s_if (t_val (b_meth (l_name (ln_771_0 c)) (mo_558 c) ((ok_PatternText_skips c).up rfl) (es_cons (c_str (by kernel_rfl)) es_nil (fun _ => rfl)) (fun _ => ⟨rfl, rfl⟩) nilOk_cons (fun _ => rfl)) (fun _ _ => rfl))
  no_b
  sb_nil)
  (sb_cons (s_if (t_cmp (c_str (by kernel_rfl)) (l_name (ln_771_1 c)) (bin_notIn bin_in) rfl)
  (sb_cons (s_ret c_bool)
  sb_nil)
  sb_nil)
  no_b))
noncomputable def F_skip_unseen : FnG := runB [2] 2 3 [] B_skip_unseen
theorem ok_skip_unseen (c : Base) : CallOk (cx c) 2 (.ref ((cx c).ga 771)) F_skip_unseen := fn_okK (fk_771 c) (S_skip_unseen c)
theorem kp_771 (c : Base) : keepIn (cx c).K (.ref ((cx c).ga 771)) = true := by kernel_rfl
theorem gv_skip_unseen (c : Base) : nsIn (cx c).K mainGlobals "skip_unseen" = some (some (.ref 771)) := by kernel_rfl
theorem gn_811_skip_unseen (c : Base) : GloName (cx c) (sc_811 c) "skip_unseen" (.ref 771) := ⟨gv_skip_unseen c, by kernel_rfl, by kernel_rfl⟩
theorem fn_811_skip_unseen (c : Base) : FnName (cx c) (sc_811 c) "skip_unseen" 771 := ⟨gn_811_skip_unseen c, kp_771 c⟩
noncomputable def B_read_counted : SS := (seqS (whileS (tE (callE F_skip_unseen (esC (lE 0) (esC (lE 1) esN))))
  noS 1000)
  (seqS (asgS (asgL 3) (callE F_take_count (esC (lE 0) esN)))
  (seqS (ifS (tE (bE isV (lE 3) (cE .none)))
  (seqS (retS (lE 2))
  nilS)
  nilS)
  (seqS (whileS (tE (callE F_skip_unseen (esC (lE 0) (esC (lE 1) esN))))
  noS 1000)
  (seqS (asgS (asgL 4) (cE (.str [103, 114, 101, 101, 100, 121])))
  (seqS (ifS (tE (methE 561 F_PatternText_skips (lE 0) (esC (cE (.str [63])) esN)))
  noS
  (seqS (ifS (tE (methE 561 F_PatternText_skips (lE 0) (esC (cE (.str [43])) esN)))
  noS
  nilS)
  nilS))
  (seqS (whileS (tE (callE F_skip_unseen (esC (lE 0) (esC (lE 1) esN))))
  noS 1000)
  (seqS (asgS (asgL 5) (attrE 561 2 (lE 0)))
  (seqS (ifS (tE (bE isNotV (callE F_take_count (esC (lE 0) esN)) (cE .none)))
  noS
  nilS)
  (seqS (retS (tupE (esC (cE (.str [114, 101, 112])) (esC (lE 2) (esC (subE (lE 3) (cE (.int 0))) (esC (subE (lE 3) (cE (.int 1))) (esC (lE 4) esN)))))))
  nilS))))))))))
theorem S_read_counted (c : Base) : SoundB (cx c) 2 (sc_811 c) (stOf (cx c).K 811) B_read_counted := (sb_cons (s_while 1000 (t_val (b_call (fn_811_skip_unseen c) ((ok_skip_unseen c).up rfl) (es_cons (l_name (ln_811_0 c)) (es_cons (l_name (ln_811_1 c)) es_nil (fun _ => rfl)) (fun _ => rfl)) (fun _ => ⟨rfl, rfl⟩) nilOk_cons (fun _ => rfl)) (fun _ _ => rfl))
  no_b)
  (sb_cons (s_asg (u_name (ln_811_3 c)) (b_call (fn_811_take_count c) ((ok_take_count c).up rfl) (es_cons (l_name (ln_811_0 c)) es_nil (fun _ => rfl)) (fun _ => ⟨rfl, rfl⟩) nilOk_cons (fun _ => rfl)) (fun _ => rfl) (fun _ => rfl) (fun _ => rfl))
  (sb_cons (s_if (t_cmp (l_name (ln_811_3 c)) c_none bin_is rfl)
  (sb_cons (s_ret (l_name (ln_811_2 c)))
  sb_nil)
  sb_nil)
  (sb_cons (s_while 1000 (t_val (b_call (fn_811_skip_unseen c) ((ok_skip_unseen c).up rfl) (es_cons (l_name (ln_811_0 c)) (es_cons (l_name (ln_811_1 c)) es_nil (fun _ => rfl)) (fun _ => rfl)) (fun _ => ⟨rfl, rfl⟩) nilOk_cons (fun _ => rfl)) (fun _ _ => rfl))
  no_b)
  (sb_cons (s_asg (u_name (ln_811_4 c)) (c_str (by kernel_rfl)) (fun _ => rfl) (fun _ => rfl) (fun _ => rfl))
  (sb_cons (s_if (t_val (b_meth (l_name (ln_811_0 c)) (mo_558 c) ((ok_PatternText_skips c).up rfl) (es_cons (c_str (by kernel_rfl)) es_nil (fun _ => rfl)) (fun _ => ⟨rfl, rfl⟩) nilOk_cons (fun _ => rfl)) (fun _ _ => rfl))
  no_b
  (sb_cons (s_if (t_val (b_meth (l_name (ln_811_0 c)) (mo_558 c) ((ok_PatternText_skips c).up rfl) (es_cons (c_str (by kernel_rfl)) es_nil (fun _ => rfl)) (fun _ => ⟨rfl, rfl⟩) nilOk_cons (fun _ => rfl)) (fun _ _ => rfl))
  no_b
  sb_nil)
  sb_nil))
  (sb_cons (s_while 1000 (t_val (b_call (fn_811_skip_unseen c) ((ok_skip_unseen c).up rfl) (es_cons (l_name (ln_811_0 c)) (es_cons (l_name (ln_811_1 c)) es_nil (fun _ => rfl)) (fun _ => rfl)) (fun _ => ⟨rfl, rfl⟩) nilOk_cons (fun _ => rfl)) (fun _ _ => rfl))
  no_b)
  (sb_cons (s_asg (u_name (ln_811_5 c)) (b_attr (l_name (ln_811_0 c)) (ao_561_2 c) (fun _ => rfl)) (fun _ => rfl) (fun _ => rfl) (fun _ => rfl))
  (sb_cons (s_if (t_cmp (b_call (fn_811_take_count c) ((ok_take_count c).up rfl) (es_cons (l_name (ln_811_0 c)) es_nil (fun _ => rfl)) (fun _ => ⟨rfl, rfl⟩) nilOk_cons (fun _ => rfl)) c_none bin_isNot rfl)
  no_b
  sb_nil)
  (sb_cons (s_ret (b_tup (es_cons (c_str (by kernel_rfl)) (es_cons (l_name (ln_811_2 c)) (es_cons (b_sub (l_name (ln_811_3 c)) c_int (fun _ _ => rfl)) (es_cons (b_sub (l_name (ln_811_3 c)) c_int (fun _ _ => rfl)) (es_cons (l_name (ln_811_4 c)) es_nil (fun _ => rfl)) (fun _ => rfl)) (fun _ => rfl)) (fun _ => rfl)) (fun _ => rfl))))
  sb_nil))))))))))
noncomputable def F_read_counted : FnG := runB [3] 3 6 [] B_read_counted
theorem ok_read_counted (c : Base) : CallOk (cx c) 3 (.ref ((cx c).ga 811)) F_read_counted := fn_okK (fk_811 c) (S_read_counted c)
theorem kp_811 (c : Base) : keepIn (cx c).K (.ref ((cx c).ga 811)) = true := by kernel_rfl
theorem gv_read_counted (c : Base) : nsIn (cx c).K mainGlobals "read_counted" = some (some (.ref 811)) := by kernel_rfl
theorem gn_797_read_counted (c : Base) : GloName (cx c) (sc_797 c) "read_counted" (.ref 811) := ⟨gv_read_counted c, by kernel_rfl, by kernel_rfl⟩
theorem fn_797_read_counted (c : Base) : FnName (cx c) (sc_797 c) "read_counted" 811 := ⟨gn_797_read_counted c, kp_811 c⟩
theorem ln_797_3 (c : Base) : LocName (sc_797 c) 3 "changed" := ⟨rfl, by kernel_rfl, by kernel_rfl⟩
noncomputable def sc_783 (c : Base) : Sc := ⟨(fdOf (cx c).K 783).scope, ["state", "flags", "begun", "found"], [], fun _ => True⟩
theorem fk_783 (c : Base) : FnK (cx c) 783 ["state", "flags"] ["state", "flags", "begun", "found"] [2] [] where
  at_ := by kernel_rfl
  isF := ⟨by kernel_rfl, by kernel_rfl, by kernel_rfl, by kernel_rfl⟩
  code := by kernel_rfl
  bind := bindD (ds := []) (fun _ _ => .nil) (one_ar (fun S ws h => by obtain ⟨w0, w1, rfl⟩ := len2 h; kernel_rfl))
  ars := by decide
  pre := ⟨["begun", "found"], rfl⟩
  nd := by decide
  loc := by kernel_rfl
  cell := by kernel_rfl
  co := by kernel_rfl
  gen := by kernel_rfl
  kind := by kernel_rfl
theorem ln_783_0 (c : Base) : LocName (sc_783 c) 0 "state" := ⟨rfl, by kernel_rfl, by kernel_rfl⟩
theorem ln_783_2 (c : Base) : LocName (sc_783 c) 2 "begun" := ⟨rfl, by kernel_rfl, by kernel_rfl⟩
noncomputable def B_read_inline : SS := (seqS (asgS (asgL 2) (attrE 561 2 (lE 0)))
  (seqS (ifS (tN (tE (methE 561 F_PatternText_skips (lE 0) (esC (cE (.str [40, 63])) esN))))
  (seqS (retS (cE .none))
  nilS)
  nilS)
  noS))
theorem S_read_inline (c : Base) : SoundB (cx c) 1 (sc_783 c) (stOf (cx c).K 783) B_read_inline := (sb_cons (s_asg (u_name (ln_783_2 c)) (b_attr (l_name (ln_783_0 c)) (ao_561_2 c) (fun _ => rfl)) (fun _ => rfl) (fun _ => rfl) (fun _ => rfl))
  (sb_cons (s_if (t_not (t_val (b_meth (l_name (ln_783_0 c)) (mo_558 c) ((ok_PatternText_skips c).up rfl) (es_cons (c_str (by kernel_rfl)) es_nil (fun _ => rfl)) (fun _ => ⟨rfl, rfl⟩) nilOk_cons (fun _ => rfl)) (fun _ _ => rfl)))
  (sb_cons (s_ret c_none)
  sb_nil)
  sb_nil)
  no_b))
noncomputable def F_read_inline : FnG := runB [2] 2 4 [] B_read_inline
theorem ok_read_inline (c : Base) : CallOk (cx c) 2 (.ref ((cx c).ga 783)) F_read_inline := fn_okK (fk_783 c) (S_read_inline c)
theorem kp_783 (c : Base) : keepIn (cx c).K (.ref ((cx c).ga 783)) = true := by kernel_rfl
theorem gv_read_inline (c : Base) : nsIn (cx c).K mainGlobals "read_inline" = some (some (.ref 783)) := by kernel_rfl
theorem gn_797_read_inline (c : Base) : GloName (cx c) (sc_797 c) "read_inline" (.ref 783) := ⟨gv_read_inline c, by kernel_rfl, by kernel_rfl⟩
theorem fn_797_read_inline (c : Base) : FnName (cx c) (sc_797 c) "read_inline" 783 := ⟨gn_797_read_inline c, kp_783 c⟩
theorem gn_797_skip_unseen (c : Base) : GloName (cx c) (sc_797 c) "skip_unseen" (.ref 771) := ⟨gv_skip_unseen c, by kernel_rfl, by kernel_rfl⟩
theorem fn_797_skip_unseen (c : Base) : FnName (cx c) (sc_797 c) "skip_unseen" 771 := ⟨gn_797_skip_unseen c, kp_771 c⟩
noncomputable def B_read_alternation (g_read_branch : FnG) : SS := (seqS (asgS (asgL 2) (listE esN))
  (seqS (whileS (tE (cE (.bool true)))
  (seqS (asgS (asgT [3, 1]) (callE g_read_branch (esC (lE 0) (esC (lE 1) esN))))
  (seqS (exprS (appendE (lE 2) (lE 3)))
  (seqS (ifS (tN (tE (methE 561 F_PatternText_skips (lE 0) (esC (cE (.str [124])) esN))))
  (seqS (retS (ifE (tE (bE eqV (bltE lenG (esC (lE 2) esN)) (cE (.int 1)))) (subE (lE 2) (cE (.int 0))) (tupE (esC (cE (.str [97, 108, 116])) (esC (lE 2) esN)))))
  nilS)
  nilS)
  nilS))) 1000)
  nilS))
theorem S_read_alternation (c : Base) (d : Nat) (hd : 4 ≤ d) {g_read_branch : FnG} (h_read_branch : CallOk (cx c) d (.ref ((cx c).ga 797)) g_read_branch) : SoundB (cx c) d (sc_790 c) (stOf (cx c).K 790) (B_read_alternation g_read_branch) := (sb_cons (s_asg (u_name (ln_790_2 c)) (b_list es_nil) (fun _ => rfl) (fun _ => rfl) (fun _ => rfl))
  (sb_cons (s_while 1000 (t_val c_bool (fun _ _ => rfl))
  (sb_cons (s_asg (u_tup (.cons (ln_790_3 c) (.cons (ln_790_1 c) .nil))) (b_call (fn_790_read_branch c) h_read_branch (es_cons (l_name (ln_790_0 c)) (es_cons (l_name (ln_790_1 c)) es_nil (fun _ => rfl)) (fun _ => rfl)) (fun _ => ⟨rfl, rfl⟩) nilOk_cons (fun _ => rfl)) (fun _ => rfl) (fun _ => rfl) (fun _ => rfl))
  (sb_cons (s_expr (b_append (l_name (ln_790_2 c)) (l_name (ln_790_3 c)) (fun _ => ⟨rfl, rfl⟩) (fun _ => rfl)) (fun _ => rfl))
  (sb_cons (s_if (t_not (t_val (b_meth (l_name (ln_790_0 c)) (mo_558 c) ((ok_PatternText_skips c).le (Nat.le_trans (Nat.le_of_ble_eq_true rfl) hd)) (es_cons (c_str (by kernel_rfl)) es_nil (fun _ => rfl)) (fun _ => ⟨rfl, rfl⟩) nilOk_cons (fun _ => rfl)) (fun _ _ => rfl)))
  (sb_cons (s_ret (b_if (t_cmp (b_blt (bn_790_len c) f_len (es_cons (l_name (ln_790_2 c)) es_nil (fun _ => rfl)) (fun _ => ⟨rfl, rfl⟩) (fun _ => ⟨rfl, trivial⟩) (fun _ => rfl)) c_int bin_eq rfl) (b_sub (l_name (ln_790_2 c)) c_int (fun _ _ => rfl)) (b_tup (es_cons (c_str (by kernel_rfl)) (es_cons (l_name (ln_790_2 c)) es_nil (fun _ => rfl)) (fun _ => rfl)))))
  sb_nil)
  sb_nil)
  sb_nil))))
  sb_nil))
noncomputable def B_read_inner (g_read_alternation : FnG) : SS := (seqS (ifS (tE (bE eqV (attrE 561 4 (lE 0)) (cE (.int 40))))
  noS
  nilS)
  (seqS (augA 561 4 iaddV (lE 0) (cE (.int 1)))
  (seqS (asgS (asgL 3) (callE g_read_alternation (esC (lE 0) (esC (lE 1) esN))))
  (seqS (augA 561 4 isubV (lE 0) (cE (.int 1)))
  (seqS (ifS (tN (tE (methE 561 F_PatternText_skips (lE 0) (esC (cE (.str [41])) esN))))
  noS
  nilS)
  (seqS (retS (lE 3))
  nilS))))))
theorem S_read_inner (c : Base) (d : Nat) (hd : 4 ≤ d) {g_read_alternation : FnG} (h_read_alternation : CallOk (cx c) d (.ref ((cx c).ga 790)) g_read_alternation) : SoundB (cx c) d (sc_818 c) (stOf (cx c).K 818) (B_read_inner g_read_alternation) := (sb_cons (s_if (t_cmp (b_attr (l_name (ln_818_0 c)) (ao_561_4 c) (fun _ => rfl)) (g_name (gn_818_MOST_NESTED c) (fun _ _ => (.int _ _))) bin_eq rfl)
  no_b
  sb_nil)
  (sb_cons (s_augA (l_name (ln_818_0 c)) (ao_561_4 c) (so_561_4 c) c_int bin_iadd)
  (sb_cons (s_asg (u_name (ln_818_3 c)) (b_call (fn_818_read_alternation c) h_read_alternation (es_cons (l_name (ln_818_0 c)) (es_cons (l_name (ln_818_1 c)) es_nil (fun _ => rfl)) (fun _ => rfl)) (fun _ => ⟨rfl, rfl⟩) nilOk_cons (fun _ => rfl)) (fun _ => rfl) (fun _ => rfl) (fun _ => rfl))
  (sb_cons (s_augA (l_name (ln_818_0 c)) (ao_561_4 c) (so_561_4 c) c_int bin_isub)
  (sb_cons (s_if (t_not (t_val (b_meth (l_name (ln_818_0 c)) (mo_558 c) ((ok_PatternText_skips c).le (Nat.le_trans (Nat.le_of_ble_eq_true rfl) hd)) (es_cons (c_str (by kernel_rfl)) es_nil (fun _ => rfl)) (fun _ => ⟨rfl, rfl⟩) nilOk_cons (fun _ => rfl)) (fun _ _ => rfl)))
  no_b
  sb_nil)
  (sb_cons (s_ret (l_name (ln_818_3 c)))
  sb_nil))))))
noncomputable def B_read_capture (g_read_inner : FnG) : SS := (seqS (augA 561 3 iaddV (lE 0) (cE (.int 1)))
  (seqS (asgS (asgL 4) (attrE 561 3 (lE 0)))
  (seqS (ifS (tE (bE neV (lE 3) (cE (.str []))))
  noS
  nilS)
  (seqS (retS (tupE (esC (cE (.str [103, 114, 111, 117, 112])) (esC (lE 4) (esC (callE g_read_inner (esC (lE 0) (esC (lE 1) (esC (lE 2) esN)))) esN)))))
  nilS))))
theorem S_read_capture (c : Base) (d : Nat) (hd : 4 ≤ d) {g_read_inner : FnG} (h_read_inner : CallOk (cx c) d (.ref ((cx c).ga 818)) g_read_inner) : SoundB (cx c) d (sc_825 c) (stOf (cx c).K 825) (B_read_capture g_read_inner) := (sb_cons (s_augA (l_name (ln_825_0 c)) (ao_561_3 c) (so_561_3 c) c_int bin_iadd)
  (sb_cons (s_asg (u_name (ln_825_4 c)) (b_attr (l_name (ln_825_0 c)) (ao_561_3 c) (fun _ => rfl)) (fun _ => rfl) (fun _ => rfl) (fun _ => rfl))
  (sb_cons (s_if (t_cmp (l_name (ln_825_3 c)) (c_str (by kernel_rfl)) bin_ne rfl)
  no_b
  sb_nil)
  (sb_cons (s_ret (b_tup (es_cons (c_str (by kernel_rfl)) (es_cons (l_name (ln_825_4 c)) (es_cons (b_call (fn_825_read_inner c) h_read_inner (es_cons (l_name (ln_825_0 c)) (es_cons (l_name (ln_825_1 c)) (es_cons (l_name (ln_825_2 c)) es_nil (fun _ => rfl)) (fun _ => rfl)) (fun _ => rfl)) (fun _ => ⟨rfl, rfl⟩) nilOk_cons (fun _ => rfl)) es_nil (fun _ => rfl)) (fun _ => rfl)) (fun _ => rfl))))
  sb_nil))))
noncomputable def B_read_group (g_read_capture : FnG) : SS := (seqS (asgS (asgL 2) (attrE 561 2 (lE 0)))
  (seqS (forGS L_LOOKS (asgT [3, 4, 5])
  (seqS (ifS (tE (methE 561 F_PatternText_skips (lE 0) (esC (lE 3) esN)))
  noS
  nilS)
  nilS) 1000)
  (seqS (ifS (tE (methE 561 F_PatternText_skips (lE 0) (esC (cE (.str [40, 63, 62])) esN)))
  noS
  nilS)
  (seqS (forGS L_NAME_SIGNS (asgT [3, 6])
  (seqS (ifS (tE (methE 561 F_PatternText_skips (lE 0) (esC (lE 3) esN)))
  noS
  nilS)
  nilS) 1000)
  (seqS (ifS (tE (methE 561 F_PatternText_skips (lE 0) (esC (cE (.str [40, 63, 80, 61])) esN)))
  noS
  nilS)
  (seqS (ifS (tN (tE (methE 561 F_PatternText_skips (lE 0) (esC (cE (.str [40, 63])) esN))))
  (seqS (augA 561 2 iaddV (lE 0) (cE (.int 1)))
  (seqS (retS (callE g_read_capture (esC (lE 0) (esC (lE 1) (esC (lE 2) (esC (cE (.str [])) esN))))))
  nilS))
  nilS)
  noS))))))
theorem S_read_group (c : Base) (d : Nat) (hd : 4 ≤ d) {g_read_capture : FnG} (h_read_capture : CallOk (cx c) d (.ref ((cx c).ga 825)) g_read_capture) : SoundB (cx c) d (sc_839 c) (stOf (cx c).K 839) (B_read_group g_read_capture) := (sb_cons (s_asg (u_name (ln_839_2 c)) (b_attr (l_name (ln_839_0 c)) (ao_561_2 c) (fun _ => rfl)) (fun _ => rfl) (fun _ => rfl) (fun _ => rfl))
  (sb_cons (s_forG (gn := 760) 1000 (gn_839_LOOKS c) (gl_760 c) (u_tup (.cons (ln_839_3 c) (.cons (ln_839_4 c) (.cons (ln_839_5 c) .nil))))
  (sb_cons (s_if (t_val (b_meth (l_name (ln_839_0 c)) (mo_558 c) ((ok_PatternText_skips c).le (Nat.le_trans (Nat.le_of_ble_eq_true rfl) hd)) (es_cons (l_name (ln_839_3 c)) es_nil (fun _ => rfl)) (fun _ => ⟨rfl, rfl⟩) nilOk_cons (fun _ => rfl)) (fun _ _ => rfl))
  no_b
  sb_nil)
  sb_nil) (.inr ⟨_, _, _, rfl⟩) (fun _ _ => rfl))
  (sb_cons (s_if (t_val (b_meth (l_name (ln_839_0 c)) (mo_558 c) ((ok_PatternText_skips c).le (Nat.le_trans (Nat.le_of_ble_eq_true rfl) hd)) (es_cons (c_str (by kernel_rfl)) es_nil (fun _ => rfl)) (fun _ => ⟨rfl, rfl⟩) nilOk_cons (fun _ => rfl)) (fun _ _ => rfl))
  no_b
  sb_nil)
  (sb_cons (s_forG (gn := 764) 1000 (gn_839_NAME_SIGNS c) (gl_764 c) (u_tup (.cons (ln_839_3 c) (.cons (ln_839_6 c) .nil)))
  (sb_cons (s_if (t_val (b_meth (l_name (ln_839_0 c)) (mo_558 c) ((ok_PatternText_skips c).le (Nat.le_trans (Nat.le_of_ble_eq_true rfl) hd)) (es_cons (l_name (ln_839_3 c)) es_nil (fun _ => rfl)) (fun _ => ⟨rfl, rfl⟩) nilOk_cons (fun _ => rfl)) (fun _ _ => rfl))
  no_b
  sb_nil)
  sb_nil) (.inr ⟨_, _, _, rfl⟩) (fun _ _ => rfl))
  (sb_cons (s_if (t_val (b_meth (l_name (ln_839_0 c)) (mo_558 c) ((ok_PatternText_skips c).le (Nat.le_trans (Nat.le_of_ble_eq_true rfl) hd)) (es_cons (c_str (by kernel_rfl)) es_nil (fun _ => rfl)) (fun _ => ⟨rfl, rfl⟩) nilOk_cons (fun _ => rfl)) (fun _ _ => rfl))
  no_b
  sb_nil)
  (sb_cons (s_if (t_not (t_val (b_meth (l_name (ln_839_0 c)) (mo_558 c) ((ok_PatternText_skips c).le (Nat.le_trans (Nat.le_of_ble_eq_true rfl) hd)) (es_cons (c_str (by kernel_rfl)) es_nil (fun _ => rfl)) (fun _ => ⟨rfl, rfl⟩) nilOk_cons (fun _ => rfl)) (fun _ _ => rfl)))
  (sb_cons (s_augA (l_name (ln_839_0 c)) (ao_561_2 c) (so_561_2 c) c_int bin_iadd)
  (sb_cons (s_ret (b_call (fn_839_read_capture c) h_read_capture (es_cons (l_name (ln_839_0 c)) (es_cons (l_name (ln_839_1 c)) (es_cons (l_name (ln_839_2 c)) (es_cons (c_str (by kernel_rfl)) es_nil (fun _ => rfl)) (fun _ => rfl)) (fun _ => rfl)) (fun _ => rfl)) (fun _ => ⟨rfl, rfl⟩) nilOk_cons (fun _ => rfl)))
  sb_nil))
  sb_nil)
  no_b))))))
noncomputable def B_read_atom (g_read_group : FnG) : SS := (seqS (asgS (asgL 2) (methE 561 F_PatternText_peek (lE 0) esN))
  (seqS (ifS (tE (bE eqV (lE 2) (cE (.str [40]))))
  (seqS (retS (callE g_read_group (esC (lE 0) (esC (lE 1) esN))))
  nilS)
  nilS)
  (seqS (ifS (tE (bE eqV (lE 2) (cE (.str [91]))))
  (seqS (retS (callE F_read_set (esC (lE 0) (esC (bE inV (cE (.str [105])) (lE 1)) esN))))
  nilS)
  nilS)
  (seqS (ifS (tE (bE eqV (lE 2) (cE (.str [92]))))
  (seqS (retS (callE F_read_escape (esC (lE 0) (esC (lE 1) esN))))
  nilS)
  nilS)
  (seqS (ifS (tOr (tE (inDE D_COUNT_SIGNS 672 (lE 2))) (tOr (tAnd (tE (bE eqV (lE 2) (cE (.str [123])))) (tAnd noT (tB true))) (tB false)))
  noS
  nilS)
  (seqS (augA 561 2 iaddV (lE 0) (cE (.int 1)))
  (seqS (ifS (tE (bE eqV (lE 2) (cE (.str [46]))))
  (seqS (retS (tupE (esC (cE (.str [97, 110, 121])) (esC (bE inV (cE (.str [115])) (lE 1)) esN))))
  nilS)
  nilS)
  (seqS (ifS (tE (bE eqV (lE 2) (cE (.str [94]))))
  noS
  nilS)
  (seqS (ifS (tE (bE eqV (lE 2) (cE (.str [36]))))
  noS
  nilS)
  (seqS (retS (tupE (esC (cE (.str [115, 105, 103, 110])) (esC (lE 2) (esC (bE inV (cE (.str [105])) (lE 1)) esN)))))
  nilS))))))))))
theorem S_read_atom (c : Base) (d : Nat) (hd : 4 ≤ d) {g_read_group : FnG} (h_read_group : CallOk (cx c) d (.ref ((cx c).ga 839)) g_read_group) : SoundB (cx c) d (sc_804 c) (stOf (cx c).K 804) (B_read_atom g_read_group) := (sb_cons (s_asg (u_name (ln_804_2 c)) (b_meth (l_name (ln_804_0 c)) (mo_551 c) ((ok_PatternText_peek c).le (Nat.le_trans (Nat.le_of_ble_eq_true rfl) hd)) es_nil (fun _ => ⟨rfl, trivial⟩) nilOk_nil (fun _ => rfl)) (fun _ => rfl) (fun _ => rfl) (fun _ => rfl))
  (sb_cons (s_if (t_cmp (l_name (ln_804_2 c)) (c_str (by kernel_rfl)) bin_eq rfl)
  (sb_cons (s_ret (b_call (fn_804_read_group c) h_read_group (es_cons (l_name (ln_804_0 c)) (es_cons (l_name (ln_804_1 c)) es_nil (fun _ => rfl)) (fun _ => rfl)) (fun _ => ⟨rfl, rfl⟩) nilOk_cons (fun _ => rfl)))
  sb_nil)
  sb_nil)
  (sb_cons (s_if (t_cmp (l_name (ln_804_2 c)) (c_str (by kernel_rfl)) bin_eq rfl)
  (sb_cons (s_ret (b_call (fn_804_read_set c) ((ok_read_set c).le (Nat.le_trans (Nat.le_of_ble_eq_true rfl) hd)) (es_cons (l_name (ln_804_0 c)) (es_cons (b_cmp (c_str (by kernel_rfl)) (l_name (ln_804_1 c)) bin_in rfl) es_nil (fun _ => rfl)) (fun _ => rfl)) (fun _ => ⟨rfl, rfl⟩) nilOk_cons (fun _ => rfl)))
  sb_nil)
  sb_nil)
  (sb_cons (s_if (t_cmp (l_name (ln_804_2 c)) (c_str (by kernel_rfl)) bin_eq rfl)
  (sb_cons (s_ret (b_call (fn_804_read_escape c) ((ok_read_escape c).le (Nat.le_trans (Nat.le_of_ble_eq_true rfl) hd)) (es_cons (l_name (ln_804_0 c)) (es_cons (l_name (ln_804_1 c)) es_nil (fun _ => rfl)) (fun _ => rfl)) (fun _ => ⟨rfl, rfl⟩) nilOk_cons (fun _ => rfl)))
  sb_nil)
  sb_nil)
  (sb_cons (s_if (t_bool (a_or (t_inD (l_name (ln_804_2 c)) (gn_804_COUNT_SIGNS c) (di_672 c) rfl) (a_or (t_bool (a_and (t_cmp (l_name (ln_804_2 c)) (c_str (by kernel_rfl)) bin_eq rfl) (a_and no_t a_andNil))) a_orNil)))
  no_b
  sb_nil)
  (sb_cons (s_augA (l_name (ln_804_0 c)) (ao_561_2 c) (so_561_2 c) c_int bin_iadd)
  (sb_cons (s_if (t_cmp (l_name (ln_804_2 c)) (c_str (by kernel_rfl)) bin_eq rfl)
  (sb_cons (s_ret (b_tup (es_cons (c_str (by kernel_rfl)) (es_cons (b_cmp (c_str (by kernel_rfl)) (l_name (ln_804_1 c)) bin_in rfl) es_nil (fun _ => rfl)) (fun _ => rfl))))
  sb_nil)
  sb_nil)
  (sb_cons (s_if (t_cmp (l_name (ln_804_2 c)) (c_str (by kernel_rfl)) bin_eq rfl)
  no_b
  sb_nil)
  (sb_cons (s_if (t_cmp (l_name (ln_804_2 c)) (c_str (by kernel_rfl)) bin_eq rfl)
  no_b
  sb_nil)
  (sb_cons (s_ret (b_tup (es_cons (c_str (by kernel_rfl)) (es_cons (l_name (ln_804_2 c)) (es_cons (b_cmp (c_str (by kernel_rfl)) (l_name (ln_804_1 c)) bin_in rfl) es_nil (fun _ => rfl)) (fun _ => rfl)) (fun _ => rfl))))
  sb_nil))))))))))
noncomputable def B_read_branch (g_read_atom : FnG) : SS := (seqS (asgS (asgL 2) (listE esN))
  (seqS (whileS (tE (hE (notH inT) (methE 561 F_PatternText_peek (lE 0) esN) (tupE (esC (cE (.str [])) (esC (cE (.str [124])) (esC (cE (.str [41])) esN))))))
  (seqS (ifS (tE (callE F_skip_unseen (esC (lE 0) (esC (lE 1) esN))))
  noS
  nilS)
  (seqS (asgS (asgL 3) (callE F_read_inline (esC (lE 0) (esC (lE 1) esN))))
  (seqS (ifS (tE (bE isNotV (lE 3) (cE .none)))
  noS
  nilS)
  (seqS (exprS (appendE (lE 2) (callE F_read_counted (esC (lE 0) (esC (lE 1) (esC (callE g_read_atom (esC (lE 0) (esC (lE 1) esN))) esN))))))
  nilS)))) 1000)
  (seqS (retS (tupE (esC (tupE (esC (cE (.str [115, 101, 113])) (esC (lE 2) esN))) (esC (lE 1) esN))))
  nilS)))
theorem S_read_branch (c : Base) (d : Nat) (hd : 4 ≤ d) {g_read_atom : FnG} (h_read_atom : CallOk (cx c) d (.ref ((cx c).ga 804)) g_read_atom) : SoundB (cx c) d (sc_797 c) (stOf (cx c).K 797) (B_read_branch g_read_atom) := (sb_cons (s_asg (u_name (ln_797_2 c)) (b_list es_nil) (fun _ => rfl) (fun _ => rfl) (fun _ => rfl))
  (sb_cons (s_while 1000 (ht_cmp (b_meth (l_name (ln_797_0 c)) (mo_551 c) ((ok_PatternText_peek c).le (Nat.le_trans (Nat.le_of_ble_eq_true rfl) hd)) es_nil (fun _ => ⟨rfl, trivial⟩) nilOk_nil (fun _ => rfl)) (b_tup (es_cons (c_str (by kernel_rfl)) (es_cons (c_str (by kernel_rfl)) (es_cons (c_str (by kernel_rfl)) es_nil (fun _ => rfl)) (fun _ => rfl)) (fun _ => rfl))) (binh_notIn binh_in) rfl)
  (sb_cons (s_if (t_val (b_call (fn_797_skip_unseen c) ((ok_skip_unseen c).le (Nat.le_trans (Nat.le_of_ble_eq_true rfl) hd)) (es_cons (l_name (ln_797_0 c)) (es_cons (l_name (ln_797_1 c)) es_nil (fun _ => rfl)) (fun _ => rfl)) (fun _ => ⟨rfl, rfl⟩) nilOk_cons (fun _ => rfl)) (fun _ _ => rfl))
  no_b
  sb_nil)
  (sb_cons (s_asg (u_name (ln_797_3 c)) (b_call (fn_797_read_inline c) ((ok_read_inline c).le (Nat.le_trans (Nat.le_of_ble_eq_true rfl) hd)) (es_cons (l_name (ln_797_0 c)) (es_cons (l_name (ln_797_1 c)) es_nil (fun _ => rfl)) (fun _ => rfl)) (fun _ => ⟨rfl, rfl⟩) nilOk_cons (fun _ => rfl)) (fun _ => rfl) (fun _ => rfl) (fun _ => rfl))
  (sb_cons (s_if (t_cmp (l_name (ln_797_3 c)) c_none bin_isNot rfl)
  no_b
  sb_nil)
  (sb_cons (s_expr (b_append (l_name (ln_797_2 c)) (b_call (fn_797_read_counted c) ((ok_read_counted c).le (Nat.le_trans (Nat.le_of_ble_eq_true rfl) hd)) (es_cons (l_name (ln_797_0 c)) (es_cons (l_name (ln_797_1 c)) (es_cons (b_call (fn_797_read_atom c) h_read_atom (es_cons (l_name (ln_797_0 c)) (es_cons (l_name (ln_797_1 c)) es_nil (fun _ => rfl)) (fun _ => rfl)) (fun _ => ⟨rfl, rfl⟩) nilOk_cons (fun _ => rfl)) es_nil (fun _ => rfl)) (fun _ => rfl)) (fun _ => rfl)) (fun _ => ⟨rfl, rfl⟩) nilOk_cons (fun _ => rfl)) (fun _ => ⟨rfl, rfl⟩) (fun _ => rfl)) (fun _ => rfl))
  sb_nil)))))
  (sb_cons (s_ret (b_tup (es_cons (b_tup (es_cons (c_str (by kernel_rfl)) (es_cons (l_name (ln_797_2 c)) es_nil (fun _ => rfl)) (fun _ => rfl))) (es_cons (l_name (ln_797_1 c)) es_nil (fun _ => rfl)) (fun _ => rfl))))
  sb_nil)))
noncomputable def F_read_inner_1 : FnG := runB [3] 3 4 [] (B_read_inner noF)
theorem ok_read_inner_1 (c : Base) : CallOk (cx c) 5 (.ref ((cx c).ga 818)) F_read_inner_1 := fn_okK (fk_818 c) (S_read_inner c 4 (Nat.le_of_ble_eq_true rfl) (no_f))
noncomputable def F_read_capture_1 : FnG := runB [4] 4 5 [] (B_read_capture F_read_inner_1)
theorem ok_read_capture_1 (c : Base) : CallOk (cx c) 6 (.ref ((cx c).ga 825)) F_read_capture_1 := fn_okK (fk_825 c) (S_read_capture c 5 (Nat.le_of_ble_eq_true rfl) ((ok_read_inner_1 c).up rfl))
noncomputable def F_read_group_1 : FnG := runB [2] 2 8 [] (B_read_group F_read_capture_1)
theorem ok_read_group_1 (c : Base) : CallOk (cx c) 7 (.ref ((cx c).ga 839)) F_read_group_1 := fn_okK (fk_839 c) (S_read_group c 6 (Nat.le_of_ble_eq_true rfl) ((ok_read_capture_1 c).up rfl))
noncomputable def F_read_atom_1 : FnG := runB [2] 2 3 [] (B_read_atom F_read_group_1)
theorem ok_read_atom_1 (c : Base) : CallOk (cx c) 8 (.ref ((cx c).ga 804)) F_read_atom_1 := fn_okK (fk_804 c) (S_read_atom c 7 (Nat.le_of_ble_eq_true rfl) ((ok_read_group_1 c).up rfl))
noncomputable def F_read_branch_1 : FnG := runB [2] 2 4 [] (B_read_branch F_read_atom_1)
theorem ok_read_branch_1 (c : Base) : CallOk (cx c) 9 (.ref ((cx c).ga 797)) F_read_branch_1 := fn_okK (fk_797 c) (S_read_branch c 8 (Nat.le_of_ble_eq_true rfl) ((ok_read_atom_1 c).up rfl))
noncomputable def F_read_alternation_1 : FnG := runB [2] 2 4 [] (B_read_alternation F_read_branch_1)
theorem ok_read_alternation_1 (c : Base) : CallOk (cx c) 10 (.ref ((cx c).ga 790)) F_read_alternation_1 := fn_okK (fk_790 c) (S_read_alternation c 9 (Nat.le_of_ble_eq_true rfl) ((ok_read_branch_1 c).up rfl))
noncomputable def F_read_inner_2 : FnG := runB [3] 3 4 [] (B_read_inner F_read_alternation_1)
theorem ok_read_inner_2 (c : Base) : CallOk (cx c) 11 (.ref ((cx c).ga 818)) F_read_inner_2 := fn_okK (fk_818 c) (S_read_inner c 10 (Nat.le_of_ble_eq_true rfl) ((ok_read_alternation_1 c).up rfl))
noncomputable def F_read_capture_2 : FnG := runB [4] 4 5 [] (B_read_capture F_read_inner_2)
theorem ok_read_capture_2 (c : Base) : CallOk (cx c) 12 (.ref ((cx c).ga 825)) F_read_capture_2 := fn_okK (fk_825 c) (S_read_capture c 11 (Nat.le_of_ble_eq_true rfl) ((ok_read_inner_2 c).up rfl))
noncomputable def F_read_group_2 : FnG := runB [2] 2 8 [] (B_read_group F_read_capture_2)
theorem ok_read_group_2 (c : Base) : CallOk (cx c) 13 (.ref ((cx c).ga 839)) F_read_group_2 := fn_okK (fk_839 c) (S_read_group c 12 (Nat.le_of_ble_eq_true rfl) ((ok_read_capture_2 c).up rfl))
noncomputable def F_read_atom_2 : FnG := runB [2] 2 3 [] (B_read_atom F_read_group_2)
theorem ok_read_atom_2 (c : Base) : CallOk (cx c) 14 (.ref ((cx c).ga 804)) F_read_atom_2 := fn_okK (fk_804 c) (S_read_atom c 13 (Nat.le_of_ble_eq_true rfl) ((ok_read_group_2 c).up rfl))
noncomputable def F_read_branch_2 : FnG := runB [2] 2 4 [] (B_read_branch F_read_atom_2)
theorem ok_read_branch_2 (c : Base) : CallOk (cx c) 15 (.ref ((cx c).ga 797)) F_read_branch_2 := fn_okK (fk_797 c) (S_read_branch c 14 (Nat.le_of_ble_eq_true rfl) ((ok_read_atom_2 c).up rfl))
noncomputable def F_read_alternation_2 : FnG := runB [2] 2 4 [] (B_read_alternation F_read_branch_2)
theorem ok_read_alternation_2 (c : Base) : CallOk (cx c) 16 (.ref ((cx c).ga 790)) F_read_alternation_2 := fn_okK (fk_790 c) (S_read_alternation c 15 (Nat.le_of_ble_eq_true rfl) ((ok_read_branch_2 c).up rfl))
theorem gn_858_read_alternation (c : Base) : GloName (cx c) (sc_858 c) "read_alternation" (.ref 790) := ⟨gv_read_alternation c, by kernel_rfl, by kernel_rfl⟩
theorem fn_858_read_alternation (c : Base) : FnName (cx c) (sc_858 c) "read_alternation" 790 := ⟨gn_858_read_alternation c, kp_790 c⟩
noncomputable def sc_682 (c : Base) : Sc := ⟨(fdOf (cx c).K 682).scope, ["text", "found", "at", "close"], [], fun _ => True⟩
theorem fk_682 (c : Base) : FnK (cx c) 682 ["text"] ["text", "found", "at", "close"] [1] [] where
  at_ := by kernel_rfl
  isF := ⟨by kernel_rfl, by kernel_rfl, by kernel_rfl, by kernel_rfl⟩
  code := by kernel_rfl
  bind := bindD (ds := []) (fun _ _ => .nil) (one_ar (fun S ws h => by obtain ⟨w0, rfl⟩ := len1 h; kernel_rfl))
  ars := by decide
  pre := ⟨["found", "at", "close"], rfl⟩
  nd := by decide
  loc := by kernel_rfl
  cell := by kernel_rfl
  co := by kernel_rfl
  gen := by kernel_rfl
  kind := by kernel_rfl
theorem ln_682_1 (c : Base) : LocName (sc_682 c) 1 "found" := ⟨rfl, by kernel_rfl, by kernel_rfl⟩
theorem ln_682_2 (c : Base) : LocName (sc_682 c) 2 "at" := ⟨rfl, by kernel_rfl, by kernel_rfl⟩
theorem ln_682_0 (c : Base) : LocName (sc_682 c) 0 "text" := ⟨rfl, by kernel_rfl, by kernel_rfl⟩
theorem bn_682_len (c : Base) : BltName (cx c) (sc_682 c) "len" (.builtin "len") := ⟨gz_len c, by kernel_rfl, by decide, by kernel_rfl, by kernel_rfl⟩
noncomputable def sc_689 (c : Base) : Sc := ⟨(fdOf (cx c).K 689).scope, ["text", "at", "behind"], [], fun _ => True⟩
theorem fk_689 (c : Base) : FnK (cx c) 689 ["text", "at"] ["text", "at", "behind"] [2] [] where
  at_ := by kernel_rfl
  isF := ⟨by kernel_rfl, by kernel_rfl, by kernel_rfl, by kernel_rfl⟩
  code := by kernel_rfl
  bind := bindD (ds := []) (fun _ _ => .nil) (one_ar (fun S ws h => by obtain ⟨w0, w1, rfl⟩ := len2 h; kernel_rfl))
  ars := by decide
  pre := ⟨["behind"], rfl⟩
  nd := by decide
  loc := by kernel_rfl
  cell := by kernel_rfl
  co := by kernel_rfl
  gen := by kernel_rfl
  kind := by kernel_rfl
theorem ln_689_1 (c : Base) : LocName (sc_689 c) 1 "at" := ⟨rfl, by kernel_rfl, by kernel_rfl⟩
theorem ln_689_0 (c : Base) : LocName (sc_689 c) 0 "text" := ⟨rfl, by kernel_rfl, by kernel_rfl⟩
theorem bn_689_len (c : Base) : BltName (cx c) (sc_689 c) "len" (.builtin "len") := ⟨gz_len c, by kernel_rfl, by decide, by kernel_rfl, by kernel_rfl⟩
theorem ln_689_2 (c : Base) : LocName (sc_689 c) 2 "behind" := ⟨rfl, by kernel_rfl, by kernel_rfl⟩
noncomputable def sc_696 (c : Base) : Sc := ⟨(fdOf (cx c).K 696).scope, ["text", "at", "close"], [], fun _ => True⟩
theorem fk_696 (c : Base) : FnK (cx c) 696 ["text", "at"] ["text", "at", "close"] [2] [] where
  at_ := by kernel_rfl
  isF := ⟨by kernel_rfl, by kernel_rfl, by kernel_rfl, by kernel_rfl⟩
  code := by kernel_rfl
  bind := bindD (ds := []) (fun _ _ => .nil) (one_ar (fun S ws h => by obtain ⟨w0, w1, rfl⟩ := len2 h; kernel_rfl))
  ars := by decide
  pre := ⟨["close"], rfl⟩
  nd := by decide
  loc := by kernel_rfl
  cell := by kernel_rfl
  co := by kernel_rfl
  gen := by kernel_rfl
  kind := by kernel_rfl
theorem ln_696_2 (c : Base) : LocName (sc_696 c) 2 "close" := ⟨rfl, by kernel_rfl, by kernel_rfl⟩
theorem ln_696_1 (c : Base) : LocName (sc_696 c) 1 "at" := ⟨rfl, by kernel_rfl, by kernel_rfl⟩
theorem ln_696_0 (c : Base) : LocName (sc_696 c) 0 "text" := ⟨rfl, by kernel_rfl, by kernel_rfl⟩
theorem gn_696_posix_end (c : Base) : GloName (cx c) (sc_696 c) "posix_end" (.ref 636) := ⟨gv_posix_end c, by kernel_rfl, by kernel_rfl⟩
theorem fn_696_posix_end (c : Base) : FnName (cx c) (sc_696 c) "posix_end" 636 := ⟨gn_696_posix_end c, kp_636 c⟩
noncomputable def B_behind_posix : SS := (seqS (asgS (asgL 2) (callE F_posix_end (esC (lE 0) (esC (lE 1) esN))))
  (seqS (retS (ifE (tE (bE ltV (lE 2) (cE (.int 0)))) (lE 1) noE))
  nilS))
theorem S_behind_posix (c : Base) : SoundB (cx c) 1 (sc_696 c) (stOf (cx c).K 696) B_behind_posix := (sb_cons (s_asg (u_name (ln_696_2 c)) (b_call (fn_696_posix_end c) ((ok_posix_end c).up rfl) (es_cons (l_name (ln_696_0 c)) (es_cons (l_name (ln_696_1 c)) es_nil (fun _ => rfl)) (fun _ => rfl)) (fun _ => ⟨rfl, rfl⟩) nilOk_cons (fun _ => rfl)) (fun _ => rfl) (fun _ => rfl) (fun _ => rfl))
  (sb_cons (s_ret (b_if (t_cmp (l_name (ln_696_2 c)) c_int bin_lt rfl) (l_name (ln_696_1 c)) no_e))
  sb_nil))
noncomputable def F_behind_posix : FnG := runB [2] 2 3 [] B_behind_posix
theorem ok_behind_posix (c : Base) : CallOk (cx c) 2 (.ref ((cx c).ga 696)) F_behind_posix := fn_okK (fk_696 c) (S_behind_posix c)
theorem kp_696 (c : Base) : keepIn (cx c).K (.ref ((cx c).ga 696)) = true := by kernel_rfl
theorem gv_behind_posix (c : Base) : nsIn (cx c).K mainGlobals "behind_posix" = some (some (.ref 696)) := by kernel_rfl
theorem gn_689_behind_posix (c : Base) : GloName (cx c) (sc_689 c) "behind_posix" (.ref 696) := ⟨gv_behind_posix c, by kernel_rfl, by kernel_rfl⟩
theorem fn_689_behind_posix (c : Base) : FnName (cx c) (sc_689 c) "behind_posix" 696 := ⟨gn_689_behind_posix c, kp_696 c⟩
noncomputable def B_behind_set : SS := (seqS (augL 1 iaddV (cE (.int 1)))
  (seqS (ifS (tE (bE eqV (sliE (lE 0) (partE (lE 1)) (partE (bE addV (lE 1) (cE (.int 1))))) (cE (.str [94]))))
  noS
  nilS)
  (seqS (ifS (tE (bE eqV (sliE (lE 0) (partE (lE 1)) (partE (bE addV (lE 1) (cE (.int 1))))) (cE (.str [93]))))
  noS
  nilS)
  (seqS (whileS (tAnd (tE (bE ltV (lE 1) (bltE lenG (esC (lE 0) esN)))) (tAnd (tE (bE neV (subE (lE 0) (lE 1)) (cE (.str [93])))) (tB true)))
  (seqS (asgS (asgL 2) (callE F_behind_posix (esC (lE 0) (esC (lE 1) esN))))
  (seqS (ifS (tE (bE gtV (lE 2) (lE 1)))
  noS
  (seqS (augL 1 iaddV (ifE (tE (bE eqV (subE (lE 0) (lE 1)) (cE (.str [92])))) noE (cE (.int 1))))
  nilS))
  nilS)) 1000)
  (seqS (retS (lE 1))
  nilS)))))
theorem S_behind_set (c : Base) : SoundB (cx c) 2 (sc_689 c) (stOf (cx c).K 689) B_behind_set := (sb_cons (s_augL (ln_689_1 c) c_int bin_iadd)
  (sb_cons (s_if (t_cmp (b_slice (l_name (ln_689_0 c)) (p_some (l_name (ln_689_1 c))) (p_some (b_op (l_name (ln_689_1 c)) c_int bin_add)) (fun _ _ => rfl) (fun _ _ => rfl)) (c_str (by kernel_rfl)) bin_eq rfl)
  no_b
  sb_nil)
  (sb_cons (s_if (t_cmp (b_slice (l_name (ln_689_0 c)) (p_some (l_name (ln_689_1 c))) (p_some (b_op (l_name (ln_689_1 c)) c_int bin_add)) (fun _ _ => rfl) (fun _ _ => rfl)) (c_str (by kernel_rfl)) bin_eq rfl)
  no_b
  sb_nil)
  (sb_cons (s_while 1000 (t_bool (a_and (t_cmp (l_name (ln_689_1 c)) (b_blt (bn_689_len c) f_len (es_cons (l_name (ln_689_0 c)) es_nil (fun _ => rfl)) (fun _ => ⟨rfl, rfl⟩) (fun _ => ⟨rfl, trivial⟩) (fun _ => rfl)) bin_lt rfl) (a_and (t_cmp (b_sub (l_name (ln_689_0 c)) (l_name (ln_689_1 c)) (fun _ _ => rfl)) (c_str (by kernel_rfl)) bin_ne rfl) a_andNil)))
  (sb_cons (s_asg (u_name (ln_689_2 c)) (b_call (fn_689_behind_posix c) ((ok_behind_posix c).up rfl) (es_cons (l_name (ln_689_0 c)) (es_cons (l_name (ln_689_1 c)) es_nil (fun _ => rfl)) (fun _ => rfl)) (fun _ => ⟨rfl, rfl⟩) nilOk_cons (fun _ => rfl)) (fun _ => rfl) (fun _ => rfl) (fun _ => rfl))
  (sb_cons (s_if (t_cmp (l_name (ln_689_2 c)) (l_name (ln_689_1 c)) bin_gt rfl)
  no_b
  (sb_cons (s_augL (ln_689_1 c) (b_if (t_cmp (b_sub (l_name (ln_689_0 c)) (l_name (ln_689_1 c)) (fun _ _ => rfl)) (c_str (by kernel_rfl)) bin_eq rfl) no_e c_int) bin_iadd)
  sb_nil))
  sb_nil)))
  (sb_cons (s_ret (l_name (ln_689_1 c)))
  sb_nil)))))
noncomputable def F_behind_set : FnG := runB [2] 2 3 [] B_behind_set
theorem ok_behind_set (c : Base) : CallOk (cx c) 3 (.ref ((cx c).ga 689)) F_behind_set := fn_okK (fk_689 c) (S_behind_set c)
theorem kp_689 (c : Base) : keepIn (cx c).K (.ref ((cx c).ga 689)) = true := by kernel_rfl
theorem gv_behind_set (c : Base) : nsIn (cx c).K mainGlobals "behind_set" = some (some (.ref 689)) := by kernel_rfl
theorem gn_682_behind_set (c : Base) : GloName (cx c) (sc_682 c) "behind_set" (.ref 689) := ⟨gv_behind_set c, by kernel_rfl, by kernel_rfl⟩
theorem fn_682_behind_set (c : Base) : FnName (cx c) (sc_682 c) "behind_set" 689 := ⟨gn_682_behind_set c, kp_689 c⟩
noncomputable def sc_703 (c : Base) : Sc := ⟨(fdOf (cx c).K 703).scope, ["signs"], [], fun _ => True⟩
theorem fk_703 (c : Base) : FnK (cx c) 703 ["signs"] ["signs"] [1] [] where
  at_ := by kernel_rfl
  isF := ⟨by kernel_rfl, by kernel_rfl, by kernel_rfl, by kernel_rfl⟩
  code := by kernel_rfl
  bind := bindD (ds := []) (fun _ _ => .nil) (one_ar (fun S ws h => by obtain ⟨w0, rfl⟩ := len1 h; kernel_rfl))
  ars := by decide
  pre := ⟨[], rfl⟩
  nd := by decide
  loc := by kernel_rfl
  cell := by kernel_rfl
  co := by kernel_rfl
  gen := by kernel_rfl
  kind := by kernel_rfl
theorem ln_703_0 (c : Base) : LocName (sc_703 c) 0 "signs" := ⟨rfl, by kernel_rfl, by kernel_rfl⟩
noncomputable def B_opens_capture : SS := (seqS (ifS (tE (bE neV (sliE (lE 0) partN (partE (cE (.int 1)))) (cE (.str [63]))))
  (seqS (retS (cE (.bool true)))
  nilS)
  nilS)
  noS)
theorem S_opens_capture (c : Base) : SoundB (cx c) 0 (sc_703 c) (stOf (cx c).K 703) B_opens_capture := (sb_cons (s_if (t_cmp (b_slice (l_name (ln_703_0 c)) p_none (p_some c_int) (fun _ _ => rfl) (fun _ _ => rfl)) (c_str (by kernel_rfl)) bin_ne rfl)
  (sb_cons (s_ret c_bool)
  sb_nil)
  sb_nil)
  no_b)
noncomputable def F_opens_capture : FnG := runB [1] 1 1 [] B_opens_capture
theorem ok_opens_capture (c : Base) : CallOk (cx c) 1 (.ref ((cx c).ga 703)) F_opens_capture := fn_okK (fk_703 c) (S_opens_capture c)
theorem kp_703 (c : Base) : keepIn (cx c).K (.ref ((cx c).ga 703)) = true := by kernel_rfl
theorem gv_opens_capture (c : Base) : nsIn (cx c).K mainGlobals "opens_capture" = some (some (.ref 703)) := by kernel_rfl
theorem gn_682_opens_capture (c : Base) : GloName (cx c) (sc_682 c) "opens_capture" (.ref 703) := ⟨gv_opens_capture c, by kernel_rfl, by kernel_rfl⟩
theorem fn_682_opens_capture (c : Base) : FnName (cx c) (sc_682 c) "opens_capture" 703 := ⟨gn_682_opens_capture c, kp_703 c⟩
noncomputable def B_count_groups : SS := (seqS (asgS (asgL 1) (cE (.int 0)))
  (seqS (asgS (asgL 2) (cE (.int 0)))
  (seqS (whileS (tE (bE ltV (lE 2) (bltE lenG (esC (lE 0) esN))))
  (seqS (ifS (tE (bE eqV (subE (lE 0) (lE 2)) (cE (.str [92]))))
  (seqS (augL 2 iaddV (cE (.int 1)))
  nilS)
  (seqS (ifS (tE (bE eqV (subE (lE 0) (lE 2)) (cE (.str [91]))))
  (seqS (asgS (asgL 2) (callE F_behind_set (esC (lE 0) (esC (lE 2) esN))))
  nilS)
  (seqS (ifS (tE (bE eqV (sliE (lE 0) (partE (lE 2)) (partE (bE addV (lE 2) (cE (.int 3))))) (cE (.str [40, 63, 35]))))
  noS
  (seqS (ifS (tAnd (tE (bE eqV (subE (lE 0) (lE 2)) (cE (.str [40])))) (tAnd (tE (callE F_opens_capture (esC (sliE (lE 0) (partE (bE addV (lE 2) (cE (.int 1)))) (partE (bE addV (lE 2) (cE (.int 4))))) esN))) (tB true)))
  (seqS (augL 1 iaddV (cE (.int 1)))
  nilS)
  nilS)
  nilS))
  nilS))
  nilS))
  (seqS (augL 2 iaddV (cE (.int 1)))
  nilS)) 1000)
  (seqS (retS (lE 1))
  nilS))))
theorem S_count_groups (c : Base) : SoundB (cx c) 3 (sc_682 c) (stOf (cx c).K 682) B_count_groups := (sb_cons (s_asg (u_name (ln_682_1 c)) c_int (fun _ => rfl) (fun _ => rfl) (fun _ => rfl))
  (sb_cons (s_asg (u_name (ln_682_2 c)) c_int (fun _ => rfl) (fun _ => rfl) (fun _ => rfl))
  (sb_cons (s_while 1000 (t_cmp (l_name (ln_682_2 c)) (b_blt (bn_682_len c) f_len (es_cons (l_name (ln_682_0 c)) es_nil (fun _ => rfl)) (fun _ => ⟨rfl, rfl⟩) (fun _ => ⟨rfl, trivial⟩) (fun _ => rfl)) bin_lt rfl)
  (sb_cons (s_if (t_cmp (b_sub (l_name (ln_682_0 c)) (l_name (ln_682_2 c)) (fun _ _ => rfl)) (c_str (by kernel_rfl)) bin_eq rfl)
  (sb_cons (s_augL (ln_682_2 c) c_int bin_iadd)
  sb_nil)
  (sb_cons (s_if (t_cmp (b_sub (l_name (ln_682_0 c)) (l_name (ln_682_2 c)) (fun _ _ => rfl)) (c_str (by kernel_rfl)) bin_eq rfl)
  (sb_cons (s_asg (u_name (ln_682_2 c)) (b_call (fn_682_behind_set c) ((ok_behind_set c).up rfl) (es_cons (l_name (ln_682_0 c)) (es_cons (l_name (ln_682_2 c)) es_nil (fun _ => rfl)) (fun _ => rfl)) (fun _ => ⟨rfl, rfl⟩) nilOk_cons (fun _ => rfl)) (fun _ => rfl) (fun _ => rfl) (fun _ => rfl))
  sb_nil)
  (sb_cons (s_if (t_cmp (b_slice (l_name (ln_682_0 c)) (p_some (l_name (ln_682_2 c))) (p_some (b_op (l_name (ln_682_2 c)) c_int bin_add)) (fun _ _ => rfl) (fun _ _ => rfl)) (c_str (by kernel_rfl)) bin_eq rfl)
  no_b
  (sb_cons (s_if (t_bool (a_and (t_cmp (b_sub (l_name (ln_682_0 c)) (l_name (ln_682_2 c)) (fun _ _ => rfl)) (c_str (by kernel_rfl)) bin_eq rfl) (a_and (t_val (b_call (fn_682_opens_capture c) ((ok_opens_capture c).up rfl) (es_cons (b_slice (l_name (ln_682_0 c)) (p_some (b_op (l_name (ln_682_2 c)) c_int bin_add)) (p_some (b_op (l_name (ln_682_2 c)) c_int bin_add)) (fun _ _ => rfl) (fun _ _ => rfl)) es_nil (fun _ => rfl)) (fun _ => ⟨rfl, rfl⟩) nilOk_cons (fun _ => rfl)) (fun _ _ => rfl)) a_andNil)))
  (sb_cons (s_augL (ln_682_1 c) c_int bin_iadd)
  sb_nil)
  sb_nil)
  sb_nil))
  sb_nil))
  sb_nil))
  (sb_cons (s_augL (ln_682_2 c) c_int bin_iadd)
  sb_nil)))
  (sb_cons (s_ret (l_name (ln_682_1 c)))
  sb_nil))))
noncomputable def F_count_groups : FnG := runB [1] 1 4 [] B_count_groups
theorem ok_count_groups (c : Base) : CallOk (cx c) 4 (.ref ((cx c).ga 682)) F_count_groups := fn_okK (fk_682 c) (S_count_groups c)
theorem kp_682 (c : Base) : keepIn (cx c).K (.ref ((cx c).ga 682)) = true := by kernel_rfl
theorem gv_count_groups (c : Base) : nsIn (cx c).K mainGlobals "count_groups" = some (some (.ref 682)) := by kernel_rfl
theorem gn_858_count_groups (c : Base) : GloName (cx c) (sc_858 c) "count_groups" (.ref 682) := ⟨gv_count_groups c, by kernel_rfl, by kernel_rfl⟩
theorem fn_858_count_groups (c : Base) : FnName (cx c) (sc_858 c) "count_groups" 682 := ⟨gn_858_count_groups c, kp_682 c⟩
theorem mk_561 (c : Base) : MakeOk (cx c) 561 544 := ⟨by kernel_rfl, by kernel_rfl, by kernel_rfl, trivial⟩
noncomputable def sc_544 (c : Base) : Sc := ⟨(fdOf (cx c).K 544).scope, ["self", "text", "total"], [], fun _ => True⟩
theorem fk_544 (c : Base) : FnK (cx c) 544 ["self", "text", "total"] ["self", "text", "total"] [3] [] where
  at_ := by kernel_rfl
  isF := ⟨by kernel_rfl, by kernel_rfl, by kernel_rfl, by kernel_rfl⟩
  code := by kernel_rfl
  bind := bindD (ds := []) (fun _ _ => .nil) (one_ar (fun S ws h => by obtain ⟨w0, w1, w2, rfl⟩ := len3 h; kernel_rfl))
  ars := by decide
  pre := ⟨[], rfl⟩
  nd := by decide
  loc := by kernel_rfl
  cell := by kernel_rfl
  co := by kernel_rfl
  gen := by kernel_rfl
  kind := by kernel_rfl
theorem ln_544_0 (c : Base) : LocName (sc_544 c) 0 "self" := ⟨rfl, by kernel_rfl, by kernel_rfl⟩
theorem so_561_6 (c : Base) : SetOk (cx c) 561 6 "spoken" := ⟨rfl, nd_561, fw_561, by kernel_rfl, by kernel_rfl, by kernel_rfl, by kernel_rfl⟩
theorem so_561_5 (c : Base) : SetOk (cx c) 561 5 "names" := ⟨rfl, nd_561, fw_561, by kernel_rfl, by kernel_rfl, by kernel_rfl, by kernel_rfl⟩
theorem so_561_1 (c : Base) : SetOk (cx c) 561 1 "total" := ⟨rfl, nd_561, fw_561, by kernel_rfl, by kernel_rfl, by kernel_rfl, by kernel_rfl⟩
theorem ln_544_2 (c : Base) : LocName (sc_544 c) 2 "total" := ⟨rfl, by kernel_rfl, by kernel_rfl⟩
theorem so_561_0 (c : Base) : SetOk (cx c) 561 0 "text" := ⟨rfl, nd_561, fw_561, by kernel_rfl, by kernel_rfl, by kernel_rfl, by kernel_rfl⟩
theorem ln_544_1 (c : Base) : LocName (sc_544 c) 1 "text" := ⟨rfl, by kernel_rfl, by kernel_rfl⟩
noncomputable def B_PatternText___init__ : SS := (seqS (asgS (asgA 561 0 (lE 0)) (lE 1))
  (seqS (asgS (asgA 561 1 (lE 0)) (lE 2))
  (seqS (asgS (asgA 561 2 (lE 0)) (cE (.int 0)))
  (seqS (asgS (asgA 561 3 (lE 0)) (cE (.int 0)))
  (seqS (asgS (asgA 561 4 (lE 0)) (cE (.int 0)))
  (seqS (asgS (asgA 561 5 (lE 0)) dictN)
  (seqS (asgS (asgA 561 6 (lE 0)) (listE esN))
  nilS)))))))
theorem S_PatternText___init__ (c : Base) : SoundB (cx c) 0 (sc_544 c) (stOf (cx c).K 544) B_PatternText___init__ := (sb_cons (s_asg (u_attr (l_name (ln_544_0 c)) (so_561_0 c)) (l_name (ln_544_1 c)) (fun _ => rfl) (fun _ => rfl) (fun _ => rfl))
  (sb_cons (s_asg (u_attr (l_name (ln_544_0 c)) (so_561_1 c)) (l_name (ln_544_2 c)) (fun _ => rfl) (fun _ => rfl) (fun _ => rfl))
  (sb_cons (s_asg (u_attr (l_name (ln_544_0 c)) (so_561_2 c)) c_int (fun _ => rfl) (fun _ => rfl) (fun _ => rfl))
  (sb_cons (s_asg (u_attr (l_name (ln_544_0 c)) (so_561_3 c)) c_int (fun _ => rfl) (fun _ => rfl) (fun _ => rfl))
  (sb_cons (s_asg (u_attr (l_name (ln_544_0 c)) (so_561_4 c)) c_int (fun _ => rfl) (fun _ => rfl) (fun _ => rfl))
  (sb_cons (s_asg (u_attr (l_name (ln_544_0 c)) (so_561_5 c)) (b_dict0) (fun _ => rfl) (fun _ => rfl) (fun _ => rfl))
  (sb_cons (s_asg (u_attr (l_name (ln_544_0 c)) (so_561_6 c)) (b_list es_nil) (fun _ => rfl) (fun _ => rfl) (fun _ => rfl))
  sb_nil)))))))
noncomputable def F_PatternText___init__ : FnG := runB [3] 3 3 [] B_PatternText___init__
theorem ok_PatternText___init__ (c : Base) : CallOk (cx c) 1 (.ref ((cx c).ga 544)) F_PatternText___init__ := fn_okK (fk_544 c) (S_PatternText___init__ c)
theorem kp_561 (c : Base) : keepIn (cx c).K (.ref ((cx c).ga 561)) = true := by kernel_rfl
theorem gv_PatternText (c : Base) : nsIn (cx c).K mainGlobals "PatternText" = some (some (.ref 561)) := by kernel_rfl
theorem gn_858_PatternText (c : Base) : GloName (cx c) (sc_858 c) "PatternText" (.ref 561) := ⟨gv_PatternText c, by kernel_rfl, by kernel_rfl⟩
theorem fn_858_PatternText (c : Base) : FnName (cx c) (sc_858 c) "PatternText" 561 := ⟨gn_858_PatternText c, kp_561 c⟩
noncomputable def B_parse_pattern : SS := (seqS (asgS (asgL 1) (clsE 561 7 F_PatternText___init__ (esC (lE 0) (esC (callE F_count_groups (esC (lE 0) esN)) esN))))
  (seqS (asgS (asgL 2) (callE F_read_alternation_2 (esC (lE 1) (esC (joinE (cE (.str [])) (compV (cE (.str [105, 109, 115, 120])) (tE (bE inV (lE 0) (ceE 0))) noE [0] 1000)) esN))))
  (seqS (ifS (tE (bE ltV (attrE 561 2 (lE 1)) (bltE lenG (esC (lE 0) esN))))
  noS
  nilS)
  (seqS (forVS (attrE 561 6 (lE 1)) (asgT [3, 4])
  (seqS (ifS (tOr (tE (hE eqL (lE 3) (listE esN))) (tOr (tE (bE ltV (bltE oneG (esC (lE 3) esN)) (cE (.int 1)))) (tOr (tE (bE gtV (bltE oneG (esC (lE 3) esN)) (attrE 561 3 (lE 1)))) (tB false))))
  noS
  nilS)
  nilS) 1000)
  (seqS (retS (tupE (esC (lE 2) (esC (attrE 561 3 (lE 1)) (esC (attrE 561 5 (lE 1)) esN)))))
  nilS)))))
theorem S_parse_pattern (c : Base) : SoundB (cx c) 16 (sc_858 c) (stOf (cx c).K 858) B_parse_pattern := (sb_cons (s_asg (u_name (ln_858_1 c)) (b_cls (fn_858_PatternText c) (mk_561 c) rfl ((ok_PatternText___init__ c).up rfl) (es_cons (l_name (ln_858_0 c)) (es_cons (b_call (fn_858_count_groups c) ((ok_count_groups c).up rfl) (es_cons (l_name (ln_858_0 c)) es_nil (fun _ => rfl)) (fun _ => ⟨rfl, rfl⟩) nilOk_cons (fun _ => rfl)) es_nil (fun _ => rfl)) (fun _ => rfl)) (fun _ => ⟨rfl, rfl⟩) nilOk_cons (fun _ => rfl)) (fun _ => rfl) (fun _ => rfl) (fun _ => rfl))
  (sb_cons (s_asg (u_name (ln_858_2 c)) (b_call (fn_858_read_alternation c) ((ok_read_alternation_2 c).up rfl) (es_cons (l_name (ln_858_1 c)) (es_cons (b_join (c_str (by kernel_rfl)) (b_compV 1000 (g_name (gn_858_FLAG_LETTERS c) (fun _ _ => (.str _ _))) (i_one (t_cmp (l_name (ln_858m0_0 c)) (ce_name (cn_858m0_0 c)) bin_in rfl)) no_e (cp_858m0 c) (by decide) (fun _ _ => rfl)) (fun _ => ⟨rfl, rfl⟩) (fun _ => rfl)) es_nil (fun _ => rfl)) (fun _ => rfl)) (fun _ => ⟨rfl, rfl⟩) nilOk_cons (fun _ => rfl)) (fun _ => rfl) (fun _ => rfl) (fun _ => rfl))
  (sb_cons (s_if (t_cmp (b_attr (l_name (ln_858_1 c)) (ao_561_2 c) (fun _ => rfl)) (b_blt (bn_858_len c) f_len (es_cons (l_name (ln_858_0 c)) es_nil (fun _ => rfl)) (fun _ => ⟨rfl, rfl⟩) (fun _ => ⟨rfl, trivial⟩) (fun _ => rfl)) bin_lt rfl)
  no_b
  sb_nil)
  (sb_cons (s_for 1000 (b_attr (l_name (ln_858_1 c)) (ao_561_6 c) (fun _ => rfl)) (u_tup (.cons (ln_858_3 c) (.cons (ln_858_4 c) .nil)))
  (sb_cons (s_if (t_bool (a_or (ht_cmp (l_name (ln_858_3 c)) (b_list es_nil) binh_eq rfl) (a_or (t_cmp (b_blt (bn_858_min c) f_min1 (es_cons (l_name (ln_858_3 c)) es_nil (fun _ => rfl)) (fun _ => ⟨rfl, rfl⟩) (fun _ => ⟨rfl, trivial⟩) (fun _ => rfl)) c_int bin_lt rfl) (a_or (t_cmp (b_blt (bn_858_max c) f_max1 (es_cons (l_name (ln_858_3 c)) es_nil (fun _ => rfl)) (fun _ => ⟨rfl, rfl⟩) (fun _ => ⟨rfl, trivial⟩) (fun _ => rfl)) (b_attr (l_name (ln_858_1 c)) (ao_561_3 c) (fun _ => rfl)) bin_gt rfl) a_orNil))))
  no_b
  sb_nil)
  sb_nil) (.inr ⟨_, _, _, rfl⟩) (fun _ _ => rfl))
  (sb_cons (s_ret (b_tup (es_cons (l_name (ln_858_2 c)) (es_cons (b_attr (l_name (ln_858_1 c)) (ao_561_3 c) (fun _ => rfl)) (es_cons (b_attr (l_name (ln_858_1 c)) (ao_561_5 c) (fun _ => rfl)) es_nil (fun _ => rfl)) (fun _ => rfl)) (fun _ => rfl))))
  sb_nil)))))
theorem fk_858 (c : Base) : FnKC (cx c) 858 ["text", "flags"] ["text", "state", "node", "numbers", "at"] ["flags"] [some 0, none, none, none, none] [some 1] where
  at_ := by kernel_rfl
  isF := ⟨by kernel_rfl, by kernel_rfl, by kernel_rfl, by kernel_rfl⟩
  code := by kernel_rfl
  bind := (one_ar (fun S ws h => by obtain ⟨w0, w1, rfl⟩ := len2 h; kernel_rfl))
  nd := by decide
  ndp := by decide
  ndc := by decide
  loc := by kernel_rfl
  nsl := by kernel_rfl
  cnl := by kernel_rfl
  cel := by kernel_rfl
  ls := by decide
  cs := by decide
  co := by kernel_rfl
  gen := by kernel_rfl
  kind := by kernel_rfl
noncomputable def F_parse_pattern : FnG := runC 2 [some 0, none, none, none, none] [some 1] B_parse_pattern
theorem ok_parse_pattern (c : Base) : CallOk (cx c) 17 (.ref ((cx c).ga 858)) F_parse_pattern := fn_okC (fk_858 c) (S_parse_pattern c) (fun _ => trivial)
theorem kp_858 (c : Base) : keepIn (cx c).K (.ref ((cx c).ga 858)) = true := by kernel_rfl
theorem gv_parse_pattern (c : Base) : nsIn (cx c).K mainGlobals "parse_pattern" = some (some (.ref 858)) := by kernel_rfl
theorem gn_865_parse_pattern (c : Base) : GloName (cx c) (sc_865 c) "parse_pattern" (.ref 858) := ⟨gv_parse_pattern c, by kernel_rfl, by kernel_rfl⟩
theorem fn_865_parse_pattern (c : Base) : FnName (cx c) (sc_865 c) "parse_pattern" 858 := ⟨gn_865_parse_pattern c, kp_858 c⟩
noncomputable def B_compile_pattern : SS := (seqS (asgS (asgT [2, 3, 4]) (callE F_parse_pattern (esC (lE 0) (esC (lE 1) esN))))
  (seqS (retS (callE F_compile_tree (esC (lE 2) (esC (lE 3) (esC (lE 4) esN)))))
  nilS))
theorem S_compile_pattern (c : Base) : SoundB (cx c) 17 (sc_865 c) (stOf (cx c).K 865) B_compile_pattern := (sb_cons (s_asg (u_tup (.cons (ln_865_2 c) (.cons (ln_865_3 c) (.cons (ln_865_4 c) .nil)))) (b_call (fn_865_parse_pattern c) ((ok_parse_pattern c).up rfl) (es_cons (l_name (ln_865_0 c)) (es_cons (l_name (ln_865_1 c)) es_nil (fun _ => rfl)) (fun _ => rfl)) (fun _ => ⟨rfl, rfl⟩) nilOk_cons (fun _ => rfl)) (fun _ => rfl) (fun _ => rfl) (fun _ => rfl))
  (sb_cons (s_ret (b_call (fn_865_compile_tree c) ((ok_compile_tree c).up rfl) (es_cons (l_name (ln_865_2 c)) (es_cons (l_name (ln_865_3 c)) (es_cons (l_name (ln_865_4 c)) es_nil (fun _ => rfl)) (fun _ => rfl)) (fun _ => rfl)) (fun _ => ⟨rfl, rfl⟩) nilOk_cons (fun _ => rfl)))
  sb_nil))
noncomputable def F_compile_pattern : FnG := runB [2] 2 5 [] B_compile_pattern
theorem ok_compile_pattern (c : Base) : CallOk (cx c) 18 (.ref ((cx c).ga 865)) F_compile_pattern := fn_okK (fk_865 c) (S_compile_pattern c)
theorem kp_865 (c : Base) : keepIn (cx c).K (.ref ((cx c).ga 865)) = true := by kernel_rfl
theorem gv_compile_pattern (c : Base) : nsIn (cx c).K mainGlobals "compile_pattern" = some (some (.ref 865)) := by kernel_rfl
theorem gn_899_compile_pattern (c : Base) : GloName (cx c) (sc_899 c) "compile_pattern" (.ref 865) := ⟨gv_compile_pattern c, by kernel_rfl, by kernel_rfl⟩
theorem fn_899_compile_pattern (c : Base) : FnName (cx c) (sc_899 c) "compile_pattern" 865 := ⟨gn_899_compile_pattern c, kp_865 c⟩
theorem ln_899_5 (c : Base) : LocName (sc_899 c) 5 "thrice" := ⟨rfl, by kernel_rfl, by kernel_rfl⟩
theorem ln_899_4 (c : Base) : LocName (sc_899 c) 4 "letter" := ⟨rfl, by kernel_rfl, by kernel_rfl⟩
noncomputable def B_law_2 (xs : List Int) : SS := (swapS [4, 5] (esC (callE F_compile_pattern (esC (cE (.str [91, 97, 98, 93])) (esC (cE (.str [])) esN))) (esC (callE F_compile_pattern (esC (cE (.str [40, 46, 43, 41, 92, 49, 92, 49])) (esC (cE (.str [])) esN))) esN)))
theorem co_899_0 (c : Base) : CelOwn (sc_899 c) 0 "words" := ⟨rfl, by kernel_rfl⟩
noncomputable abbrev ex_880 (c : Base) : Env → Prop := fun e => ∃ L a cl, e = envX (fdOf (cx c).K 880).qualname (fdOf (cx c).K 880).scope L a (.ref (cdOf (cx c).K 880).code) cl
noncomputable def sc_880 (c : Base) : Sc := ⟨(fdOf (cx c).K 880).scope, ["letter", "begun", "goes", "other", "turn"], ["found", "word"], ex_880 c⟩
theorem cn_880_0 (c : Base) : CelName (sc_880 c) 0 "found" := ⟨rfl, by kernel_rfl, by kernel_rfl, by kernel_rfl⟩
theorem ln_880_4 (c : Base) : LocName (sc_880 c) 4 "turn" := ⟨rfl, by kernel_rfl, by kernel_rfl⟩
theorem mk_419 (c : Base) : MakeOk (cx c) 419 416 := ⟨by kernel_rfl, by kernel_rfl, by kernel_rfl, trivial⟩
noncomputable def sc_416 (c : Base) : Sc := ⟨(fdOf (cx c).K 416).scope, ["self", "width", "depth", "steps", "text", "items"], [], fun _ => True⟩
theorem fk_416 (c : Base) : FnK (cx c) 416 ["self", "width", "depth", "steps", "text", "items"] ["self", "width", "depth", "steps", "text", "items"] [1] [(.int 64), (.int 50), (.int 1000000), (.int 100000), (.int 10000)] where
  at_ := by kernel_rfl
  isF := ⟨by kernel_rfl, by kernel_rfl, by kernel_rfl, by kernel_rfl⟩
  code := by kernel_rfl
  bind := bindD (ds := [(.int 64 785), (.int 50 786), (.int 1000000 789), (.int 100000 792), (.int 10000 795)]) (fun _ _ => (.cons (.int _ _) (.cons (.int _ _) (.cons (.int _ _) (.cons (.int _ _) (.cons (.int _ _) .nil)))))) (one_ar (fun S ws h => by obtain ⟨w0, rfl⟩ := len1 h; kernel_rfl))
  ars := by decide
  pre := ⟨[], rfl⟩
  nd := by decide
  loc := by kernel_rfl
  cell := by kernel_rfl
  co := by kernel_rfl
  gen := by kernel_rfl
  kind := by kernel_rfl
theorem ln_416_0 (c : Base) : LocName (sc_416 c) 0 "self" := ⟨rfl, by kernel_rfl, by kernel_rfl⟩
theorem nd_419 : (cAt 419).Nodup := by decide
theorem fw_419 : (cAt 419).length ≤ 100 := by decide
theorem so_419_4 (c : Base) : SetOk (cx c) 419 4 "items" := ⟨rfl, nd_419, fw_419, by kernel_rfl, by kernel_rfl, by kernel_rfl, by kernel_rfl⟩
theorem ln_416_5 (c : Base) : LocName (sc_416 c) 5 "items" := ⟨rfl, by kernel_rfl, by kernel_rfl⟩
theorem so_419_3 (c : Base) : SetOk (cx c) 419 3 "text" := ⟨rfl, nd_419, fw_419, by kernel_rfl, by kernel_rfl, by kernel_rfl, by kernel_rfl⟩
theorem ln_416_4 (c : Base) : LocName (sc_416 c) 4 "text" := ⟨rfl, by kernel_rfl, by kernel_rfl⟩
theorem so_419_2 (c : Base) : SetOk (cx c) 419 2 "steps" := ⟨rfl, nd_419, fw_419, by kernel_rfl, by kernel_rfl, by kernel_rfl, by kernel_rfl⟩
theorem ln_416_3 (c : Base) : LocName (sc_416 c) 3 "steps" := ⟨rfl, by kernel_rfl, by kernel_rfl⟩
theorem so_419_1 (c : Base) : SetOk (cx c) 419 1 "depth" := ⟨rfl, nd_419, fw_419, by kernel_rfl, by kernel_rfl, by kernel_rfl, by kernel_rfl⟩
theorem ln_416_2 (c : Base) : LocName (sc_416 c) 2 "depth" := ⟨rfl, by kernel_rfl, by kernel_rfl⟩
theorem so_419_0 (c : Base) : SetOk (cx c) 419 0 "width" := ⟨rfl, nd_419, fw_419, by kernel_rfl, by kernel_rfl, by kernel_rfl, by kernel_rfl⟩
theorem ln_416_1 (c : Base) : LocName (sc_416 c) 1 "width" := ⟨rfl, by kernel_rfl, by kernel_rfl⟩
noncomputable def B_Limits___init__ : SS := (seqS (asgS (asgA 419 0 (lE 0)) (lE 1))
  (seqS (asgS (asgA 419 1 (lE 0)) (lE 2))
  (seqS (asgS (asgA 419 2 (lE 0)) (lE 3))
  (seqS (asgS (asgA 419 3 (lE 0)) (lE 4))
  (seqS (asgS (asgA 419 4 (lE 0)) (lE 5))
  nilS)))))
theorem S_Limits___init__ (c : Base) : SoundB (cx c) 0 (sc_416 c) (stOf (cx c).K 416) B_Limits___init__ := (sb_cons (s_asg (u_attr (l_name (ln_416_0 c)) (so_419_0 c)) (l_name (ln_416_1 c)) (fun _ => rfl) (fun _ => rfl) (fun _ => rfl))
  (sb_cons (s_asg (u_attr (l_name (ln_416_0 c)) (so_419_1 c)) (l_name (ln_416_2 c)) (fun _ => rfl) (fun _ => rfl) (fun _ => rfl))
  (sb_cons (s_asg (u_attr (l_name (ln_416_0 c)) (so_419_2 c)) (l_name (ln_416_3 c)) (fun _ => rfl) (fun _ => rfl) (fun _ => rfl))
  (sb_cons (s_asg (u_attr (l_name (ln_416_0 c)) (so_419_3 c)) (l_name (ln_416_4 c)) (fun _ => rfl) (fun _ => rfl) (fun _ => rfl))
  (sb_cons (s_asg (u_attr (l_name (ln_416_0 c)) (so_419_4 c)) (l_name (ln_416_5 c)) (fun _ => rfl) (fun _ => rfl) (fun _ => rfl))
  sb_nil)))))
noncomputable def F_Limits___init__ : FnG := runB [1] 6 6 [(.int 64), (.int 50), (.int 1000000), (.int 100000), (.int 10000)] B_Limits___init__
theorem ok_Limits___init__ (c : Base) : CallOk (cx c) 1 (.ref ((cx c).ga 416)) F_Limits___init__ := fn_okK (fk_416 c) (S_Limits___init__ c)
theorem kp_419 (c : Base) : keepIn (cx c).K (.ref ((cx c).ga 419)) = true := by kernel_rfl
theorem gv_Limits (c : Base) : nsIn (cx c).K mainGlobals "Limits" = some (some (.ref 419)) := by kernel_rfl
theorem gn_880_Limits (c : Base) : GloName (cx c) (sc_880 c) "Limits" (.ref 419) := ⟨gv_Limits c, by kernel_rfl, by kernel_rfl⟩
theorem fn_880_Limits (c : Base) : FnName (cx c) (sc_880 c) "Limits" 419 := ⟨gn_880_Limits c, kp_419 c⟩
theorem ln_880_3 (c : Base) : LocName (sc_880 c) 3 "other" := ⟨rfl, by kernel_rfl, by kernel_rfl⟩
theorem ln_880_0 (c : Base) : LocName (sc_880 c) 0 "letter" := ⟨rfl, by kernel_rfl, by kernel_rfl⟩
noncomputable def sc_401 (c : Base) : Sc := ⟨(fdOf (cx c).K 401).scope, ["program", "text", "replace", "is_global", "limits", "begin", "parts", "done", "count", "spent", "groups", "first", "end"], [], fun _ => True⟩
theorem fk_401 (c : Base) : FnK (cx c) 401 ["program", "text", "replace", "is_global", "limits", "begin"] ["program", "text", "replace", "is_global", "limits", "begin", "parts", "done", "count", "spent", "groups", "first", "end"] [5] [.none] where
  at_ := by kernel_rfl
  isF := ⟨by kernel_rfl, by kernel_rfl, by kernel_rfl, by kernel_rfl⟩
  code := by kernel_rfl
  bind := bindD (ds := [.none]) (fun _ _ => (.cons .none .nil)) (one_ar (fun S ws h => by obtain ⟨w0, w1, w2, w3, w4, rfl⟩ := len5 h; kernel_rfl))
  ars := by decide
  pre := ⟨["parts", "done", "count", "spent", "groups", "first", "end"], rfl⟩
  nd := by decide
  loc := by kernel_rfl
  cell := by kernel_rfl
  co := by kernel_rfl
  gen := by kernel_rfl
  kind := by kernel_rfl
theorem ln_401_8 (c : Base) : LocName (sc_401 c) 8 "count" := ⟨rfl, by kernel_rfl, by kernel_rfl⟩
theorem ln_401_6 (c : Base) : LocName (sc_401 c) 6 "parts" := ⟨rfl, by kernel_rfl, by kernel_rfl⟩
theorem ln_401_1 (c : Base) : LocName (sc_401 c) 1 "text" := ⟨rfl, by kernel_rfl, by kernel_rfl⟩
theorem ln_401_7 (c : Base) : LocName (sc_401 c) 7 "done" := ⟨rfl, by kernel_rfl, by kernel_rfl⟩
theorem ln_401_10 (c : Base) : LocName (sc_401 c) 10 "groups" := ⟨rfl, by kernel_rfl, by kernel_rfl⟩
theorem ln_401_9 (c : Base) : LocName (sc_401 c) 9 "spent" := ⟨rfl, by kernel_rfl, by kernel_rfl⟩
theorem ln_401_4 (c : Base) : LocName (sc_401 c) 4 "limits" := ⟨rfl, by kernel_rfl, by kernel_rfl⟩
theorem ln_401_11 (c : Base) : LocName (sc_401 c) 11 "first" := ⟨rfl, by kernel_rfl, by kernel_rfl⟩
theorem ln_401_12 (c : Base) : LocName (sc_401 c) 12 "end" := ⟨rfl, by kernel_rfl, by kernel_rfl⟩
theorem ln_401_0 (c : Base) : LocName (sc_401 c) 0 "program" := ⟨rfl, by kernel_rfl, by kernel_rfl⟩
noncomputable def sc_393 (c : Base) : Sc := ⟨(fdOf (cx c).K 393).scope, ["program", "text", "at", "was_empty", "limits", "begin", "spent"], [], fun _ => True⟩
theorem fk_393 (c : Base) : FnK (cx c) 393 ["program", "text", "at", "was_empty", "limits", "begin", "spent"] ["program", "text", "at", "was_empty", "limits", "begin", "spent"] [7] [] where
  at_ := by kernel_rfl
  isF := ⟨by kernel_rfl, by kernel_rfl, by kernel_rfl, by kernel_rfl⟩
  code := by kernel_rfl
  bind := bindD (ds := []) (fun _ _ => .nil) (one_ar (fun S ws h => by obtain ⟨w0, w1, w2, w3, w4, w5, w6, rfl⟩ := len7 h; kernel_rfl))
  ars := by decide
  pre := ⟨[], rfl⟩
  nd := by decide
  loc := by kernel_rfl
  cell := by kernel_rfl
  co := by kernel_rfl
  gen := by kernel_rfl
  kind := by kernel_rfl
theorem ln_393_6 (c : Base) : LocName (sc_393 c) 6 "spent" := ⟨rfl, by kernel_rfl, by kernel_rfl⟩
theorem ln_393_5 (c : Base) : LocName (sc_393 c) 5 "begin" := ⟨rfl, by kernel_rfl, by kernel_rfl⟩
theorem ln_393_3 (c : Base) : LocName (sc_393 c) 3 "was_empty" := ⟨rfl, by kernel_rfl, by kernel_rfl⟩
theorem ln_393_4 (c : Base) : LocName (sc_393 c) 4 "limits" := ⟨rfl, by kernel_rfl, by kernel_rfl⟩
theorem ln_393_2 (c : Base) : LocName (sc_393 c) 2 "at" := ⟨rfl, by kernel_rfl, by kernel_rfl⟩
theorem ln_393_1 (c : Base) : LocName (sc_393 c) 1 "text" := ⟨rfl, by kernel_rfl, by kernel_rfl⟩
theorem ln_393_0 (c : Base) : LocName (sc_393 c) 0 "program" := ⟨rfl, by kernel_rfl, by kernel_rfl⟩
noncomputable def sc_385 (c : Base) : Sc := ⟨(fdOf (cx c).K 385).scope, ["program", "text", "at", "limits", "least_end", "begin", "spent", "run", "words", "start"], [], fun _ => True⟩
theorem fk_385 (c : Base) : FnK (cx c) 385 ["program", "text", "at", "limits", "least_end", "begin", "spent"] ["program", "text", "at", "limits", "least_end", "begin", "spent", "run", "words", "start"] [5, 7] [.none, .none] where
  at_ := by kernel_rfl
  isF := ⟨by kernel_rfl, by kernel_rfl, by kernel_rfl, by kernel_rfl⟩
  code := by kernel_rfl
  bind := bindD (ds := [.none, .none]) (fun _ _ => (.cons .none (.cons .none .nil))) (more_ar (fun S ws h => by obtain ⟨w0, w1, w2, w3, w4, rfl⟩ := len5 h; kernel_rfl) (one_ar (fun S ws h => by obtain ⟨w0, w1, w2, w3, w4, w5, w6, rfl⟩ := len7 h; kernel_rfl)))
  ars := by decide
  pre := ⟨["run", "words", "start"], rfl⟩
  nd := by decide
  loc := by kernel_rfl
  cell := by kernel_rfl
  co := by kernel_rfl
  gen := by kernel_rfl
  kind := by kernel_rfl
theorem ln_385_9 (c : Base) : LocName (sc_385 c) 9 "start" := ⟨rfl, by kernel_rfl, by kernel_rfl⟩
theorem ln_385_1 (c : Base) : LocName (sc_385 c) 1 "text" := ⟨rfl, by kernel_rfl, by kernel_rfl⟩
theorem bn_385_len (c : Base) : BltName (cx c) (sc_385 c) "len" (.builtin "len") := ⟨gz_len c, by kernel_rfl, by decide, by kernel_rfl, by kernel_rfl⟩
theorem ln_385_7 (c : Base) : LocName (sc_385 c) 7 "run" := ⟨rfl, by kernel_rfl, by kernel_rfl⟩
theorem ao_193_8 (c : Base) : AttrOk (cx c) 193 8 "groups" := ⟨rfl, by kernel_rfl, by kernel_rfl, by kernel_rfl⟩
theorem ln_385_6 (c : Base) : LocName (sc_385 c) 6 "spent" := ⟨rfl, by kernel_rfl, by kernel_rfl⟩
theorem ao_193_5 (c : Base) : AttrOk (cx c) 193 5 "steps" := ⟨rfl, by kernel_rfl, by kernel_rfl, by kernel_rfl⟩
theorem ln_385_8 (c : Base) : LocName (sc_385 c) 8 "words" := ⟨rfl, by kernel_rfl, by kernel_rfl⟩
noncomputable def sc_377 (c : Base) : Sc := ⟨(fdOf (cx c).K 377).scope, ["run", "words", "start", "row", "is_right"], [], fun _ => True⟩
theorem fk_377 (c : Base) : FnK (cx c) 377 ["run", "words", "start"] ["run", "words", "start", "row", "is_right"] [3] [] where
  at_ := by kernel_rfl
  isF := ⟨by kernel_rfl, by kernel_rfl, by kernel_rfl, by kernel_rfl⟩
  code := by kernel_rfl
  bind := bindD (ds := []) (fun _ _ => .nil) (one_ar (fun S ws h => by obtain ⟨w0, w1, w2, rfl⟩ := len3 h; kernel_rfl))
  ars := by decide
  pre := ⟨["row", "is_right"], rfl⟩
  nd := by decide
  loc := by kernel_rfl
  cell := by kernel_rfl
  co := by kernel_rfl
  gen := by kernel_rfl
  kind := by kernel_rfl
theorem ln_377_0 (c : Base) : LocName (sc_377 c) 0 "run" := ⟨rfl, by kernel_rfl, by kernel_rfl⟩
noncomputable def sc_370 (c : Base) : Sc := ⟨(fdOf (cx c).K 370).scope, ["run", "entry"], [], fun _ => True⟩
theorem fk_370 (c : Base) : FnK (cx c) 370 ["run"] ["run", "entry"] [1] [] where
  at_ := by kernel_rfl
  isF := ⟨by kernel_rfl, by kernel_rfl, by kernel_rfl, by kernel_rfl⟩
  code := by kernel_rfl
  bind := bindD (ds := []) (fun _ _ => .nil) (one_ar (fun S ws h => by obtain ⟨w0, rfl⟩ := len1 h; kernel_rfl))
  ars := by decide
  pre := ⟨["entry"], rfl⟩
  nd := by decide
  loc := by kernel_rfl
  cell := by kernel_rfl
  co := by kernel_rfl
  gen := by kernel_rfl
  kind := by kernel_rfl
theorem ln_370_0 (c : Base) : LocName (sc_370 c) 0 "run" := ⟨rfl, by kernel_rfl, by kernel_rfl⟩
theorem ao_193_10 (c : Base) : AttrOk (cx c) 193 10 "pile" := ⟨rfl, by kernel_rfl, by kernel_rfl, by kernel_rfl⟩
theorem ln_370_1 (c : Base) : LocName (sc_370 c) 1 "entry" := ⟨rfl, by kernel_rfl, by kernel_rfl⟩
noncomputable def sc_321 (c : Base) : Sc := ⟨(fdOf (cx c).K 321).scope, ["run", "entry"], [], fun _ => True⟩
theorem fk_321 (c : Base) : FnK (cx c) 321 ["run", "entry"] ["run", "entry"] [2] [] where
  at_ := by kernel_rfl
  isF := ⟨by kernel_rfl, by kernel_rfl, by kernel_rfl, by kernel_rfl⟩
  code := by kernel_rfl
  bind := bindD (ds := []) (fun _ _ => .nil) (one_ar (fun S ws h => by obtain ⟨w0, w1, rfl⟩ := len2 h; kernel_rfl))
  ars := by decide
  pre := ⟨[], rfl⟩
  nd := by decide
  loc := by kernel_rfl
  cell := by kernel_rfl
  co := by kernel_rfl
  gen := by kernel_rfl
  kind := by kernel_rfl
theorem ln_321_1 (c : Base) : LocName (sc_321 c) 1 "entry" := ⟨rfl, by kernel_rfl, by kernel_rfl⟩
theorem ln_321_0 (c : Base) : LocName (sc_321 c) 0 "run" := ⟨rfl, by kernel_rfl, by kernel_rfl⟩
theorem ao_193_9 (c : Base) : AttrOk (cx c) 193 9 "registers" := ⟨rfl, by kernel_rfl, by kernel_rfl, by kernel_rfl⟩
noncomputable def B_undo_entry : SS := (seqS (ifS (tE (bE eqV (subE (lE 1) (cE (.int 0))) (cE (.str [103, 114, 111, 117, 112]))))
  (seqS (asgS (asgI (attrE 193 8 (lE 0)) (subE (lE 1) (cE (.int 1)))) (subE (lE 1) (cE (.int 2))))
  nilS)
  (seqS (ifS (tE (bE eqV (subE (lE 1) (cE (.int 0))) (cE (.str [114, 101, 103, 105, 115, 116, 101, 114]))))
  (seqS (asgS (asgI (attrE 193 9 (lE 0)) (subE (lE 1) (cE (.int 1)))) (subE (lE 1) (cE (.int 2))))
  nilS)
  nilS)
  nilS))
  nilS)
theorem S_undo_entry (c : Base) : SoundB (cx c) 0 (sc_321 c) (stOf (cx c).K 321) B_undo_entry := (sb_cons (s_if (t_cmp (b_sub (l_name (ln_321_1 c)) c_int (fun _ _ => rfl)) (c_str (by kernel_rfl)) bin_eq rfl)
  (sb_cons (s_asg (u_item (b_attr (l_name (ln_321_0 c)) (ao_193_8 c) (fun _ => rfl)) (b_sub (l_name (ln_321_1 c)) c_int (fun _ _ => rfl))) (b_sub (l_name (ln_321_1 c)) c_int (fun _ _ => rfl)) (fun _ => rfl) (fun _ => rfl) (fun _ => rfl))
  sb_nil)
  (sb_cons (s_if (t_cmp (b_sub (l_name (ln_321_1 c)) c_int (fun _ _ => rfl)) (c_str (by kernel_rfl)) bin_eq rfl)
  (sb_cons (s_asg (u_item (b_attr (l_name (ln_321_0 c)) (ao_193_9 c) (fun _ => rfl)) (b_sub (l_name (ln_321_1 c)) c_int (fun _ _ => rfl))) (b_sub (l_name (ln_321_1 c)) c_int (fun _ _ => rfl)) (fun _ => rfl) (fun _ => rfl) (fun _ => rfl))
  sb_nil)
  sb_nil)
  sb_nil))
  sb_nil)
noncomputable def F_undo_entry : FnG := runB [2] 2 2 [] B_undo_entry
theorem ok_undo_entry (c : Base) : CallOk (cx c) 1 (.ref ((cx c).ga 321)) F_undo_entry := fn_okK (fk_321 c) (S_undo_entry c)
theorem kp_321 (c : Base) : keepIn (cx c).K (.ref ((cx c).ga 321)) = true := by kernel_rfl
theorem gv_undo_entry (c : Base) : nsIn (cx c).K mainGlobals "undo_entry" = some (some (.ref 321)) := by kernel_rfl
theorem gn_370_undo_entry (c : Base) : GloName (cx c) (sc_370 c) "undo_entry" (.ref 321) := ⟨gv_undo_entry c, by kernel_rfl, by kernel_rfl⟩
theorem fn_370_undo_entry (c : Base) : FnName (cx c) (sc_370 c) "undo_entry" 321 := ⟨gn_370_undo_entry c, kp_321 c⟩
theorem ao_193_6 (c : Base) : AttrOk (cx c) 193 6 "at" := ⟨rfl, by kernel_rfl, by kernel_rfl, by kernel_rfl⟩
theorem nd_193 : (cAt 193).Nodup := by decide
theorem fw_193 : (cAt 193).length ≤ 100 := by decide
theorem so_193_6 (c : Base) : SetOk (cx c) 193 6 "at" := ⟨rfl, nd_193, fw_193, by kernel_rfl, by kernel_rfl, by kernel_rfl, by kernel_rfl⟩
theorem so_193_7 (c : Base) : SetOk (cx c) 193 7 "row" := ⟨rfl, nd_193, fw_193, by kernel_rfl, by kernel_rfl, by kernel_rfl, by kernel_rfl⟩
noncomputable def B_back_up : SS := (seqS (whileS (tE (hE neL (attrE 193 10 (lE 0)) (listE esN)))
  (seqS (asgS (asgL 1) (popE (attrE 193 10 (lE 0))))
  (seqS (ifS (tE (bE eqV (subE (lE 1) (cE (.int 0))) (cE (.str [116, 114, 121]))))
  (seqS (asgS (asgA 193 7 (lE 0)) (subE (lE 1) (cE (.int 1))))
  (seqS (asgS (asgA 193 6 (lE 0)) (subE (lE 1) (cE (.int 2))))
  (seqS (retS (cE (.bool true)))
  nilS)))
  nilS)
  (seqS (ifS (tE (bE eqV (subE (lE 1) (cE (.int 0))) (cE (.str [108, 101, 115, 115]))))
  (seqS (asgS (asgA 193 7 (lE 0)) (subE (lE 1) (cE (.int 1))))
  (seqS (asgS (asgA 193 6 (lE 0)) (bE subV (subE (lE 1) (cE (.int 3))) (cE (.int 1))))
  (seqS (ifS (tE (bE gtV (attrE 193 6 (lE 0)) (subE (lE 1) (cE (.int 2)))))
  (seqS (exprS (appendE (attrE 193 10 (lE 0)) (tupE (esC (cE (.str [108, 101, 115, 115])) (esC (subE (lE 1) (cE (.int 1))) (esC (subE (lE 1) (cE (.int 2))) (esC (attrE 193 6 (lE 0)) esN)))))))
  nilS)
  nilS)
  (seqS (retS (cE (.bool true)))
  nilS))))
  nilS)
  (seqS (ifS (tE (bE eqV (subE (lE 1) (cE (.int 0))) (cE (.str [109, 111, 114, 101]))))
  noS
  (seqS (exprS (callE F_undo_entry (esC (lE 0) (esC (lE 1) esN))))
  nilS))
  nilS)))) 1000)
  (seqS (retS (cE (.bool false)))
  nilS))
theorem S_back_up (c : Base) : SoundB (cx c) 1 (sc_370 c) (stOf (cx c).K 370) B_back_up := (sb_cons (s_while 1000 (ht_cmp (b_attr (l_name (ln_370_0 c)) (ao_193_10 c) (fun _ => rfl)) (b_list es_nil) binh_ne rfl)
  (sb_cons (s_asg (u_name (ln_370_1 c)) (b_pop (b_attr (l_name (ln_370_0 c)) (ao_193_10 c) (fun _ => rfl)) (fun _ => rfl)) (fun _ => rfl) (fun _ => rfl) (fun _ => rfl))
  (sb_cons (s_if (t_cmp (b_sub (l_name (ln_370_1 c)) c_int (fun _ _ => rfl)) (c_str (by kernel_rfl)) bin_eq rfl)
  (sb_cons (s_asg (u_attr (l_name (ln_370_0 c)) (so_193_7 c)) (b_sub (l_name (ln_370_1 c)) c_int (fun _ _ => rfl)) (fun _ => rfl) (fun _ => rfl) (fun _ => rfl))
  (sb_cons (s_asg (u_attr (l_name (ln_370_0 c)) (so_193_6 c)) (b_sub (l_name (ln_370_1 c)) c_int (fun _ _ => rfl)) (fun _ => rfl) (fun _ => rfl) (fun _ => rfl))
  (sb_cons (s_ret c_bool)
  sb_nil)))
  sb_nil)
  (sb_cons (s_if (t_cmp (b_sub (l_name (ln_370_1 c)) c_int (fun _ _ => rfl)) (c_str (by kernel_rfl)) bin_eq rfl)
  (sb_cons (s_asg (u_attr (l_name (ln_370_0 c)) (so_193_7 c)) (b_sub (l_name (ln_370_1 c)) c_int (fun _ _ => rfl)) (fun _ => rfl) (fun _ => rfl) (fun _ => rfl))
  (sb_cons (s_asg (u_attr (l_name (ln_370_0 c)) (so_193_6 c)) (b_op (b_sub (l_name (ln_370_1 c)) c_int (fun _ _ => rfl)) c_int bin_sub) (fun _ => rfl) (fun _ => rfl) (fun _ => rfl))
  (sb_cons (s_if (t_cmp (b_attr (l_name (ln_370_0 c)) (ao_193_6 c) (fun _ => rfl)) (b_sub (l_name (ln_370_1 c)) c_int (fun _ _ => rfl)) bin_gt rfl)
  (sb_cons (s_expr (b_append (b_attr (l_name (ln_370_0 c)) (ao_193_10 c) (fun _ => rfl)) (b_tup (es_cons (c_str (by kernel_rfl)) (es_cons (b_sub (l_name (ln_370_1 c)) c_int (fun _ _ => rfl)) (es_cons (b_sub (l_name (ln_370_1 c)) c_int (fun _ _ => rfl)) (es_cons (b_attr (l_name (ln_370_0 c)) (ao_193_6 c) (fun _ => rfl)) es_nil (fun _ => rfl)) (fun _ => rfl)) (fun _ => rfl)) (fun _ => rfl))) (fun _ => ⟨rfl, rfl⟩) (fun _ => rfl)) (fun _ => rfl))
  sb_nil)
  sb_nil)
  (sb_cons (s_ret c_bool)
  sb_nil))))
  sb_nil)
  (sb_cons (s_if (t_cmp (b_sub (l_name (ln_370_1 c)) c_int (fun _ _ => rfl)) (c_str (by kernel_rfl)) bin_eq rfl)
  no_b
  (sb_cons (s_expr (b_call (fn_370_undo_entry c) ((ok_undo_entry c).up rfl) (es_cons (l_name (ln_370_0 c)) (es_cons (l_name (ln_370_1 c)) es_nil (fun _ => rfl)) (fun _ => rfl)) (fun _ => ⟨rfl, rfl⟩) nilOk_cons (fun _ => rfl)) (fun _ => rfl))
  sb_nil))
  sb_nil)))))
  (sb_cons (s_ret c_bool)
  sb_nil))
noncomputable def F_back_up : FnG := runB [1] 1 2 [] B_back_up
theorem ok_back_up (c : Base) : CallOk (cx c) 2 (.ref ((cx c).ga 370)) F_back_up := fn_okK (fk_370 c) (S_back_up c)
theorem kp_370 (c : Base) : keepIn (cx c).K (.ref ((cx c).ga 370)) = true := by kernel_rfl
theorem gv_back_up (c : Base) : nsIn (cx c).K mainGlobals "back_up" = some (some (.ref 370)) := by kernel_rfl
theorem gn_377_back_up (c : Base) : GloName (cx c) (sc_377 c) "back_up" (.ref 370) := ⟨gv_back_up c, by kernel_rfl, by kernel_rfl⟩
theorem fn_377_back_up (c : Base) : FnName (cx c) (sc_377 c) "back_up" 370 := ⟨gn_377_back_up c, kp_370 c⟩
theorem ln_377_4 (c : Base) : LocName (sc_377 c) 4 "is_right" := ⟨rfl, by kernel_rfl, by kernel_rfl⟩
theorem ln_377_3 (c : Base) : LocName (sc_377 c) 3 "row" := ⟨rfl, by kernel_rfl, by kernel_rfl⟩
theorem ln_377_2 (c : Base) : LocName (sc_377 c) 2 "start" := ⟨rfl, by kernel_rfl, by kernel_rfl⟩
theorem ao_193_3 (c : Base) : AttrOk (cx c) 193 3 "least_end" := ⟨rfl, by kernel_rfl, by kernel_rfl, by kernel_rfl⟩
theorem ln_377_1 (c : Base) : LocName (sc_377 c) 1 "words" := ⟨rfl, by kernel_rfl, by kernel_rfl⟩
noncomputable def sc_218 (c : Base) : Sc := ⟨(fdOf (cx c).K 218).scope, ["run", "row"], [], fun _ => True⟩
theorem fk_218 (c : Base) : FnK (cx c) 218 ["run", "row"] ["run", "row"] [2] [] where
  at_ := by kernel_rfl
  isF := ⟨by kernel_rfl, by kernel_rfl, by kernel_rfl, by kernel_rfl⟩
  code := by kernel_rfl
  bind := bindD (ds := []) (fun _ _ => .nil) (one_ar (fun S ws h => by obtain ⟨w0, w1, rfl⟩ := len2 h; kernel_rfl))
  ars := by decide
  pre := ⟨[], rfl⟩
  nd := by decide
  loc := by kernel_rfl
  cell := by kernel_rfl
  co := by kernel_rfl
  gen := by kernel_rfl
  kind := by kernel_rfl
theorem ln_218_0 (c : Base) : LocName (sc_218 c) 0 "run" := ⟨rfl, by kernel_rfl, by kernel_rfl⟩
noncomputable def sc_211 (c : Base) : Sc := ⟨(fdOf (cx c).K 211).scope, ["run"], [], fun _ => True⟩
theorem fk_211 (c : Base) : FnK (cx c) 211 ["run"] ["run"] [1] [] where
  at_ := by kernel_rfl
  isF := ⟨by kernel_rfl, by kernel_rfl, by kernel_rfl, by kernel_rfl⟩
  code := by kernel_rfl
  bind := bindD (ds := []) (fun _ _ => .nil) (one_ar (fun S ws h => by obtain ⟨w0, rfl⟩ := len1 h; kernel_rfl))
  ars := by decide
  pre := ⟨[], rfl⟩
  nd := by decide
  loc := by kernel_rfl
  cell := by kernel_rfl
  co := by kernel_rfl
  gen := by kernel_rfl
  kind := by kernel_rfl
theorem ln_211_0 (c : Base) : LocName (sc_211 c) 0 "run" := ⟨rfl, by kernel_rfl, by kernel_rfl⟩
theorem ao_193_7 (c : Base) : AttrOk (cx c) 193 7 "row" := ⟨rfl, by kernel_rfl, by kernel_rfl, by kernel_rfl⟩
noncomputable def B_go_on : SS := (seqS (augA 193 7 iaddV (lE 0) (cE (.int 1)))
  (seqS (retS (cE (.bool true)))
  nilS))
theorem S_go_on (c : Base) : SoundB (cx c) 0 (sc_211 c) (stOf (cx c).K 211) B_go_on := (sb_cons (s_augA (l_name (ln_211_0 c)) (ao_193_7 c) (so_193_7 c) c_int bin_iadd)
  (sb_cons (s_ret c_bool)
  sb_nil))
noncomputable def F_go_on : FnG := runB [1] 1 1 [] B_go_on
theorem ok_go_on (c : Base) : CallOk (cx c) 1 (.ref ((cx c).ga 211)) F_go_on := fn_okK (fk_211 c) (S_go_on c)
theorem kp_211 (c : Base) : keepIn (cx c).K (.ref ((cx c).ga 211)) = true := by kernel_rfl
theorem gv_go_on (c : Base) : nsIn (cx c).K mainGlobals "go_on" = some (some (.ref 211)) := by kernel_rfl
theorem gn_218_go_on (c : Base) : GloName (cx c) (sc_218 c) "go_on" (.ref 211) := ⟨gv_go_on c, by kernel_rfl, by kernel_rfl⟩
theorem fn_218_go_on (c : Base) : FnName (cx c) (sc_218 c) "go_on" 211 := ⟨gn_218_go_on c, kp_211 c⟩
theorem ao_193_1 (c : Base) : AttrOk (cx c) 193 1 "text" := ⟨rfl, by kernel_rfl, by kernel_rfl, by kernel_rfl⟩
theorem ln_218_1 (c : Base) : LocName (sc_218 c) 1 "row" := ⟨rfl, by kernel_rfl, by kernel_rfl⟩
noncomputable def sc_176 (c : Base) : Sc := ⟨(fdOf (cx c).K 176).scope, ["test", "sign"], [], fun _ => True⟩
theorem fk_176 (c : Base) : FnK (cx c) 176 ["test", "sign"] ["test", "sign"] [2] [] where
  at_ := by kernel_rfl
  isF := ⟨by kernel_rfl, by kernel_rfl, by kernel_rfl, by kernel_rfl⟩
  code := by kernel_rfl
  bind := bindD (ds := []) (fun _ _ => .nil) (one_ar (fun S ws h => by obtain ⟨w0, w1, rfl⟩ := len2 h; kernel_rfl))
  ars := by decide
  pre := ⟨[], rfl⟩
  nd := by decide
  loc := by kernel_rfl
  cell := by kernel_rfl
  co := by kernel_rfl
  gen := by kernel_rfl
  kind := by kernel_rfl
theorem ln_176_1 (c : Base) : LocName (sc_176 c) 1 "sign" := ⟨rfl, by kernel_rfl, by kernel_rfl⟩
theorem ln_176_0 (c : Base) : LocName (sc_176 c) 0 "test" := ⟨rfl, by kernel_rfl, by kernel_rfl⟩
noncomputable def sc_169 (c : Base) : Sc := ⟨(fdOf (cx c).K 169).scope, ["items", "is_negated", "is_folded", "sign", "found"], [], fun _ => True⟩
theorem fk_169 (c : Base) : FnK (cx c) 169 ["items", "is_negated", "is_folded", "sign"] ["items", "is_negated", "is_folded", "sign", "found"] [4] [] where
  at_ := by kernel_rfl
  isF := ⟨by kernel_rfl, by kernel_rfl, by kernel_rfl, by kernel_rfl⟩
  code := by kernel_rfl
  bind := bindD (ds := []) (fun _ _ => .nil) (one_ar (fun S ws h => by obtain ⟨w0, w1, w2, w3, rfl⟩ := len4 h; kernel_rfl))
  ars := by decide
  pre := ⟨["found"], rfl⟩
  nd := by decide
  loc := by kernel_rfl
  cell := by kernel_rfl
  co := by kernel_rfl
  gen := by kernel_rfl
  kind := by kernel_rfl
theorem ln_169_4 (c : Base) : LocName (sc_169 c) 4 "found" := ⟨rfl, by kernel_rfl, by kernel_rfl⟩
theorem ln_169_1 (c : Base) : LocName (sc_169 c) 1 "is_negated" := ⟨rfl, by kernel_rfl, by kernel_rfl⟩
theorem ln_169_2 (c : Base) : LocName (sc_169 c) 2 "is_folded" := ⟨rfl, by kernel_rfl, by kernel_rfl⟩
theorem ln_169_3 (c : Base) : LocName (sc_169 c) 3 "sign" := ⟨rfl, by kernel_rfl, by kernel_rfl⟩
theorem ln_169_0 (c : Base) : LocName (sc_169 c) 0 "items" := ⟨rfl, by kernel_rfl, by kernel_rfl⟩
noncomputable def sc_162 (c : Base) : Sc := ⟨(fdOf (cx c).K 162).scope, ["items", "sign", "item"], [], fun _ => True⟩
theorem fk_162 (c : Base) : FnK (cx c) 162 ["items", "sign"] ["items", "sign", "item"] [2] [] where
  at_ := by kernel_rfl
  isF := ⟨by kernel_rfl, by kernel_rfl, by kernel_rfl, by kernel_rfl⟩
  code := by kernel_rfl
  bind := bindD (ds := []) (fun _ _ => .nil) (one_ar (fun S ws h => by obtain ⟨w0, w1, rfl⟩ := len2 h; kernel_rfl))
  ars := by decide
  pre := ⟨["item"], rfl⟩
  nd := by decide
  loc := by kernel_rfl
  cell := by kernel_rfl
  co := by kernel_rfl
  gen := by kernel_rfl
  kind := by kernel_rfl
theorem ln_162_2 (c : Base) : LocName (sc_162 c) 2 "item" := ⟨rfl, by kernel_rfl, by kernel_rfl⟩
theorem ln_162_1 (c : Base) : LocName (sc_162 c) 1 "sign" := ⟨rfl, by kernel_rfl, by kernel_rfl⟩
noncomputable def sc_155 (c : Base) : Sc := ⟨(fdOf (cx c).K 155).scope, ["item", "sign"], [], fun _ => True⟩
theorem fk_155 (c : Base) : FnK (cx c) 155 ["item", "sign"] ["item", "sign"] [2] [] where
  at_ := by kernel_rfl
  isF := ⟨by kernel_rfl, by kernel_rfl, by kernel_rfl, by kernel_rfl⟩
  code := by kernel_rfl
  bind := bindD (ds := []) (fun _ _ => .nil) (one_ar (fun S ws h => by obtain ⟨w0, w1, rfl⟩ := len2 h; kernel_rfl))
  ars := by decide
  pre := ⟨[], rfl⟩
  nd := by decide
  loc := by kernel_rfl
  cell := by kernel_rfl
  co := by kernel_rfl
  gen := by kernel_rfl
  kind := by kernel_rfl
theorem ln_155_0 (c : Base) : LocName (sc_155 c) 0 "item" := ⟨rfl, by kernel_rfl, by kernel_rfl⟩
theorem ln_155_1 (c : Base) : LocName (sc_155 c) 1 "sign" := ⟨rfl, by kernel_rfl, by kernel_rfl⟩
theorem bn_155_ord (c : Base) : BltName (cx c) (sc_155 c) "ord" (.builtin "ord") := ⟨gz_ord c, by kernel_rfl, by decide, by kernel_rfl, by kernel_rfl⟩
noncomputable def B_item_holds : SS := (seqS (ifS (tE (bE eqV (subE (lE 0) (cE (.int 0))) (cE (.str [114, 97, 110, 103, 101]))))
  (seqS (retS (chE (subE (lE 0) (cE (.int 1))) (bltE ordG (esC (lE 1) esN)) (subE (lE 0) (cE (.int 2)))))
  nilS)
  nilS)
  noS)
theorem S_item_holds (c : Base) : SoundB (cx c) 0 (sc_155 c) (stOf (cx c).K 155) B_item_holds := (sb_cons (s_if (t_cmp (b_sub (l_name (ln_155_0 c)) c_int (fun _ _ => rfl)) (c_str (by kernel_rfl)) bin_eq rfl)
  (sb_cons (s_ret (b_chain (b_sub (l_name (ln_155_0 c)) c_int (fun _ _ => rfl)) (b_blt (bn_155_ord c) f_ord (es_cons (l_name (ln_155_1 c)) es_nil (fun _ => rfl)) (fun _ => ⟨rfl, rfl⟩) (fun _ => ⟨rfl, trivial⟩) (fun _ => rfl)) (b_sub (l_name (ln_155_0 c)) c_int (fun _ _ => rfl)) (fun _ => rfl)))
  sb_nil)
  sb_nil)
  no_b)
noncomputable def F_item_holds : FnG := runB [2] 2 2 [] B_item_holds
theorem ok_item_holds (c : Base) : CallOk (cx c) 1 (.ref ((cx c).ga 155)) F_item_holds := fn_okK (fk_155 c) (S_item_holds c)
theorem kp_155 (c : Base) : keepIn (cx c).K (.ref ((cx c).ga 155)) = true := by kernel_rfl
theorem gv_item_holds (c : Base) : nsIn (cx c).K mainGlobals "item_holds" = some (some (.ref 155)) := by kernel_rfl
theorem gn_162_item_holds (c : Base) : GloName (cx c) (sc_162 c) "item_holds" (.ref 155) := ⟨gv_item_holds c, by kernel_rfl, by kernel_rfl⟩
theorem fn_162_item_holds (c : Base) : FnName (cx c) (sc_162 c) "item_holds" 155 := ⟨gn_162_item_holds c, kp_155 c⟩
theorem ln_162_0 (c : Base) : LocName (sc_162 c) 0 "items" := ⟨rfl, by kernel_rfl, by kernel_rfl⟩
noncomputable def B_items_hold : SS := (seqS (forVS (lE 0) (asgL 2)
  (seqS (ifS (tE (callE F_item_holds (esC (lE 2) (esC (lE 1) esN))))
  (seqS (retS (cE (.bool true)))
  nilS)
  nilS)
  nilS) 1000)
  noS)
theorem S_items_hold (c : Base) : SoundB (cx c) 1 (sc_162 c) (stOf (cx c).K 162) B_items_hold := (sb_cons (s_for 1000 (l_name (ln_162_0 c)) (u_name (ln_162_2 c))
  (sb_cons (s_if (t_val (b_call (fn_162_item_holds c) ((ok_item_holds c).up rfl) (es_cons (l_name (ln_162_2 c)) (es_cons (l_name (ln_162_1 c)) es_nil (fun _ => rfl)) (fun _ => rfl)) (fun _ => ⟨rfl, rfl⟩) nilOk_cons (fun _ => rfl)) (fun _ _ => rfl))
  (sb_cons (s_ret c_bool)
  sb_nil)
  sb_nil)
  sb_nil) (.inl (fun _ _ => rfl)) (fun _ _ => rfl))
  no_b)
noncomputable def F_items_hold : FnG := runB [2] 2 3 [] B_items_hold
theorem ok_items_hold (c : Base) : CallOk (cx c) 2 (.ref ((cx c).ga 162)) F_items_hold := fn_okK (fk_162 c) (S_items_hold c)
theorem kp_162 (c : Base) : keepIn (cx c).K (.ref ((cx c).ga 162)) = true := by kernel_rfl
theorem gv_items_hold (c : Base) : nsIn (cx c).K mainGlobals "items_hold" = some (some (.ref 162)) := by kernel_rfl
theorem gn_169_items_hold (c : Base) : GloName (cx c) (sc_169 c) "items_hold" (.ref 162) := ⟨gv_items_hold c, by kernel_rfl, by kernel_rfl⟩
theorem fn_169_items_hold (c : Base) : FnName (cx c) (sc_169 c) "items_hold" 162 := ⟨gn_169_items_hold c, kp_162 c⟩
noncomputable def B_set_holds : SS := (seqS (asgS (asgL 4) (callE F_items_hold (esC (lE 0) (esC (lE 3) esN))))
  (seqS (ifS (tAnd (tE (lE 2)) (tAnd noT (tB true)))
  noS
  nilS)
  (seqS (retS (bE neV (lE 4) (lE 1)))
  nilS)))
theorem S_set_holds (c : Base) : SoundB (cx c) 2 (sc_169 c) (stOf (cx c).K 169) B_set_holds := (sb_cons (s_asg (u_name (ln_169_4 c)) (b_call (fn_169_items_hold c) ((ok_items_hold c).up rfl) (es_cons (l_name (ln_169_0 c)) (es_cons (l_name (ln_169_3 c)) es_nil (fun _ => rfl)) (fun _ => rfl)) (fun _ => ⟨rfl, rfl⟩) nilOk_cons (fun _ => rfl)) (fun _ => rfl) (fun _ => rfl) (fun _ => rfl))
  (sb_cons (s_if (t_bool (a_and (t_val (l_name (ln_169_2 c)) (fun _ _ => rfl)) (a_and no_t a_andNil)))
  no_b
  sb_nil)
  (sb_cons (s_ret (b_cmp (l_name (ln_169_4 c)) (l_name (ln_169_1 c)) bin_ne rfl))
  sb_nil)))
noncomputable def F_set_holds : FnG := runB [4] 4 5 [] B_set_holds
theorem ok_set_holds (c : Base) : CallOk (cx c) 3 (.ref ((cx c).ga 169)) F_set_holds := fn_okK (fk_169 c) (S_set_holds c)
theorem kp_169 (c : Base) : keepIn (cx c).K (.ref ((cx c).ga 169)) = true := by kernel_rfl
theorem gv_set_holds (c : Base) : nsIn (cx c).K mainGlobals "set_holds" = some (some (.ref 169)) := by kernel_rfl
theorem gn_176_set_holds (c : Base) : GloName (cx c) (sc_176 c) "set_holds" (.ref 169) := ⟨gv_set_holds c, by kernel_rfl, by kernel_rfl⟩
theorem fn_176_set_holds (c : Base) : FnName (cx c) (sc_176 c) "set_holds" 169 := ⟨gn_176_set_holds c, kp_169 c⟩
noncomputable def sc_143 (c : Base) : Sc := ⟨(fdOf (cx c).K 143).scope, ["one", "other", "is_folded"], [], fun _ => True⟩
theorem fk_143 (c : Base) : FnK (cx c) 143 ["one", "other", "is_folded"] ["one", "other", "is_folded"] [3] [] where
  at_ := by kernel_rfl
  isF := ⟨by kernel_rfl, by kernel_rfl, by kernel_rfl, by kernel_rfl⟩
  code := by kernel_rfl
  bind := bindD (ds := []) (fun _ _ => .nil) (one_ar (fun S ws h => by obtain ⟨w0, w1, w2, rfl⟩ := len3 h; kernel_rfl))
  ars := by decide
  pre := ⟨[], rfl⟩
  nd := by decide
  loc := by kernel_rfl
  cell := by kernel_rfl
  co := by kernel_rfl
  gen := by kernel_rfl
  kind := by kernel_rfl
theorem ln_143_0 (c : Base) : LocName (sc_143 c) 0 "one" := ⟨rfl, by kernel_rfl, by kernel_rfl⟩
theorem ln_143_1 (c : Base) : LocName (sc_143 c) 1 "other" := ⟨rfl, by kernel_rfl, by kernel_rfl⟩
theorem ln_143_2 (c : Base) : LocName (sc_143 c) 2 "is_folded" := ⟨rfl, by kernel_rfl, by kernel_rfl⟩
noncomputable def B_same_sign : SS := (seqS (retS (vOr (bE eqV (lE 0) (lE 1)) (vAnd (lE 2) noE)))
  nilS)
theorem S_same_sign (c : Base) : SoundB (cx c) 0 (sc_143 c) (stOf (cx c).K 143) B_same_sign := (sb_cons (s_ret (b_bool (o_or (b_cmp (l_name (ln_143_0 c)) (l_name (ln_143_1 c)) bin_eq rfl) (o_one (b_bool (o_and (l_name (ln_143_2 c)) (o_one no_e)))))))
  sb_nil)
noncomputable def F_same_sign : FnG := runB [3] 3 3 [] B_same_sign
theorem ok_same_sign (c : Base) : CallOk (cx c) 1 (.ref ((cx c).ga 143)) F_same_sign := fn_okK (fk_143 c) (S_same_sign c)
theorem kp_143 (c : Base) : keepIn (cx c).K (.ref ((cx c).ga 143)) = true := by kernel_rfl
theorem gv_same_sign (c : Base) : nsIn (cx c).K mainGlobals "same_sign" = some (some (.ref 143)) := by kernel_rfl
theorem gn_176_same_sign (c : Base) : GloName (cx c) (sc_176 c) "same_sign" (.ref 143) := ⟨gv_same_sign c, by kernel_rfl, by kernel_rfl⟩
theorem fn_176_same_sign (c : Base) : FnName (cx c) (sc_176 c) "same_sign" 143 := ⟨gn_176_same_sign c, kp_143 c⟩
noncomputable def B_sign_fits : SS := (seqS (ifS (tE (bE eqV (subE (lE 0) (cE (.int 0))) (cE (.str [115, 105, 103, 110]))))
  (seqS (retS (callE F_same_sign (esC (lE 1) (esC (subE (lE 0) (cE (.int 1))) (esC (subE (lE 0) (cE (.int 2))) esN)))))
  nilS)
  nilS)
  (seqS (ifS (tE (bE eqV (subE (lE 0) (cE (.int 0))) (cE (.str [97, 110, 121]))))
  (seqS (retS (vOr (subE (lE 0) (cE (.int 1))) (bE neV (lE 1) (cE (.str [10])))))
  nilS)
  nilS)
  (seqS (retS (callE F_set_holds (esC (subE (lE 0) (cE (.int 1))) (esC (subE (lE 0) (cE (.int 2))) (esC (subE (lE 0) (cE (.int 3))) (esC (lE 1) esN))))))
  nilS)))
theorem S_sign_fits (c : Base) : SoundB (cx c) 3 (sc_176 c) (stOf (cx c).K 176) B_sign_fits := (sb_cons (s_if (t_cmp (b_sub (l_name (ln_176_0 c)) c_int (fun _ _ => rfl)) (c_str (by kernel_rfl)) bin_eq rfl)
  (sb_cons (s_ret (b_call (fn_176_same_sign c) ((ok_same_sign c).up rfl) (es_cons (l_name (ln_176_1 c)) (es_cons (b_sub (l_name (ln_176_0 c)) c_int (fun _ _ => rfl)) (es_cons (b_sub (l_name (ln_176_0 c)) c_int (fun _ _ => rfl)) es_nil (fun _ => rfl)) (fun _ => rfl)) (fun _ => rfl)) (fun _ => ⟨rfl, rfl⟩) nilOk_cons (fun _ => rfl)))
  sb_nil)
  sb_nil)
  (sb_cons (s_if (t_cmp (b_sub (l_name (ln_176_0 c)) c_int (fun _ _ => rfl)) (c_str (by kernel_rfl)) bin_eq rfl)
  (sb_cons (s_ret (b_bool (o_or (b_sub (l_name (ln_176_0 c)) c_int (fun _ _ => rfl)) (o_one (b_cmp (l_name (ln_176_1 c)) (c_str (by kernel_rfl)) bin_ne rfl)))))
  sb_nil)
  sb_nil)
  (sb_cons (s_ret (b_call (fn_176_set_holds c) ((ok_set_holds c).up rfl) (es_cons (b_sub (l_name (ln_176_0 c)) c_int (fun _ _ => rfl)) (es_cons (b_sub (l_name (ln_176_0 c)) c_int (fun _ _ => rfl)) (es_cons (b_sub (l_name (ln_176_0 c)) c_int (fun _ _ => rfl)) (es_cons (l_name (ln_176_1 c)) es_nil (fun _ => rfl)) (fun _ => rfl)) (fun _ => rfl)) (fun _ => rfl)) (fun _ => ⟨rfl, rfl⟩) nilOk_cons (fun _ => rfl)))
  sb_nil)))
noncomputable def F_sign_fits : FnG := runB [2] 2 2 [] B_sign_fits
theorem ok_sign_fits (c : Base) : CallOk (cx c) 4 (.ref ((cx c).ga 176)) F_sign_fits := fn_okK (fk_176 c) (S_sign_fits c)
theorem kp_176 (c : Base) : keepIn (cx c).K (.ref ((cx c).ga 176)) = true := by kernel_rfl
theorem gv_sign_fits (c : Base) : nsIn (cx c).K mainGlobals "sign_fits" = some (some (.ref 176)) := by kernel_rfl
theorem gn_218_sign_fits (c : Base) : GloName (cx c) (sc_218 c) "sign_fits" (.ref 176) := ⟨gv_sign_fits c, by kernel_rfl, by kernel_rfl⟩
theorem fn_218_sign_fits (c : Base) : FnName (cx c) (sc_218 c) "sign_fits" 176 := ⟨gn_218_sign_fits c, kp_176 c⟩
theorem bn_218_len (c : Base) : BltName (cx c) (sc_218 c) "len" (.builtin "len") := ⟨gz_len c, by kernel_rfl, by decide, by kernel_rfl, by kernel_rfl⟩
noncomputable def B_row_test : SS := (seqS (ifS (tOr (tE (bE geV (attrE 193 6 (lE 0)) (bltE lenG (esC (attrE 193 1 (lE 0)) esN)))) (tOr (tN (tE (callE F_sign_fits (esC (lE 1) (esC (subE (attrE 193 1 (lE 0)) (attrE 193 6 (lE 0))) esN))))) (tB false)))
  (seqS (retS (cE (.bool false)))
  nilS)
  nilS)
  (seqS (augA 193 6 iaddV (lE 0) (cE (.int 1)))
  (seqS (retS (callE F_go_on (esC (lE 0) esN)))
  nilS)))
theorem S_row_test (c : Base) : SoundB (cx c) 4 (sc_218 c) (stOf (cx c).K 218) B_row_test := (sb_cons (s_if (t_bool (a_or (t_cmp (b_attr (l_name (ln_218_0 c)) (ao_193_6 c) (fun _ => rfl)) (b_blt (bn_218_len c) f_len (es_cons (b_attr (l_name (ln_218_0 c)) (ao_193_1 c) (fun _ => rfl)) es_nil (fun _ => rfl)) (fun _ => ⟨rfl, rfl⟩) (fun _ => ⟨rfl, trivial⟩) (fun _ => rfl)) bin_ge rfl) (a_or (t_not (t_val (b_call (fn_218_sign_fits c) ((ok_sign_fits c).up rfl) (es_cons (l_name (ln_218_1 c)) (es_cons (b_sub (b_attr (l_name (ln_218_0 c)) (ao_193_1 c) (fun _ => rfl)) (b_attr (l_name (ln_218_0 c)) (ao_193_6 c) (fun _ => rfl)) (fun _ _ => rfl)) es_nil (fun _ => rfl)) (fun _ => rfl)) (fun _ => ⟨rfl, rfl⟩) nilOk_cons (fun _ => rfl)) (fun _ _ => rfl))) a_orNil)))
  (sb_cons (s_ret c_bool)
  sb_nil)
  sb_nil)
  (sb_cons (s_augA (l_name (ln_218_0 c)) (ao_193_6 c) (so_193_6 c) c_int bin_iadd)
  (sb_cons (s_ret (b_call (fn_218_go_on c) ((ok_go_on c).up rfl) (es_cons (l_name (ln_218_0 c)) es_nil (fun _ => rfl)) (fun _ => ⟨rfl, rfl⟩) nilOk_cons (fun _ => rfl)))
  sb_nil)))
noncomputable def F_row_test : FnG := runB [2] 2 2 [] B_row_test
theorem ok_row_test (c : Base) : CallOk (cx c) 5 (.ref ((cx c).ga 218)) F_row_test := fn_okK (fk_218 c) (S_row_test c)
noncomputable def sc_232 (c : Base) : Sc := ⟨(fdOf (cx c).K 232).scope, ["run", "row", "word", "test", "least", "most", "is_lazy", "low", "end"], [], fun _ => True⟩
theorem fk_232 (c : Base) : FnK (cx c) 232 ["run", "row"] ["run", "row", "word", "test", "least", "most", "is_lazy", "low", "end"] [2] [] where
  at_ := by kernel_rfl
  isF := ⟨by kernel_rfl, by kernel_rfl, by kernel_rfl, by kernel_rfl⟩
  code := by kernel_rfl
  bind := bindD (ds := []) (fun _ _ => .nil) (one_ar (fun S ws h => by obtain ⟨w0, w1, rfl⟩ := len2 h; kernel_rfl))
  ars := by decide
  pre := ⟨["word", "test", "least", "most", "is_lazy", "low", "end"], rfl⟩
  nd := by decide
  loc := by kernel_rfl
  cell := by kernel_rfl
  co := by kernel_rfl
  gen := by kernel_rfl
  kind := by kernel_rfl
theorem ln_232_0 (c : Base) : LocName (sc_232 c) 0 "run" := ⟨rfl, by kernel_rfl, by kernel_rfl⟩
theorem ln_232_8 (c : Base) : LocName (sc_232 c) 8 "end" := ⟨rfl, by kernel_rfl, by kernel_rfl⟩
theorem ln_232_6 (c : Base) : LocName (sc_232 c) 6 "is_lazy" := ⟨rfl, by kernel_rfl, by kernel_rfl⟩
theorem ln_232_7 (c : Base) : LocName (sc_232 c) 7 "low" := ⟨rfl, by kernel_rfl, by kernel_rfl⟩
theorem gv_STEP_SIGNS (c : Base) : nsIn (cx c).K mainGlobals "STEP_SIGNS" = some (some (.int 100 434)) := by kernel_rfl
theorem gn_232_STEP_SIGNS (c : Base) : GloName (cx c) (sc_232 c) "STEP_SIGNS" (.int 100 434) := ⟨gv_STEP_SIGNS c, by kernel_rfl, by kernel_rfl⟩
theorem so_193_5 (c : Base) : SetOk (cx c) 193 5 "steps" := ⟨rfl, nd_193, fw_193, by kernel_rfl, by kernel_rfl, by kernel_rfl, by kernel_rfl⟩
theorem ln_232_5 (c : Base) : LocName (sc_232 c) 5 "most" := ⟨rfl, by kernel_rfl, by kernel_rfl⟩
theorem ln_232_3 (c : Base) : LocName (sc_232 c) 3 "test" := ⟨rfl, by kernel_rfl, by kernel_rfl⟩
noncomputable def sc_225 (c : Base) : Sc := ⟨(fdOf (cx c).K 225).scope, ["run", "test", "at", "most", "stop"], [], fun _ => True⟩
theorem fk_225 (c : Base) : FnK (cx c) 225 ["run", "test", "at", "most"] ["run", "test", "at", "most", "stop"] [4] [] where
  at_ := by kernel_rfl
  isF := ⟨by kernel_rfl, by kernel_rfl, by kernel_rfl, by kernel_rfl⟩
  code := by kernel_rfl
  bind := bindD (ds := []) (fun _ _ => .nil) (one_ar (fun S ws h => by obtain ⟨w0, w1, w2, w3, rfl⟩ := len4 h; kernel_rfl))
  ars := by decide
  pre := ⟨["stop"], rfl⟩
  nd := by decide
  loc := by kernel_rfl
  cell := by kernel_rfl
  co := by kernel_rfl
  gen := by kernel_rfl
  kind := by kernel_rfl
theorem ln_225_2 (c : Base) : LocName (sc_225 c) 2 "at" := ⟨rfl, by kernel_rfl, by kernel_rfl⟩
theorem ln_225_0 (c : Base) : LocName (sc_225 c) 0 "run" := ⟨rfl, by kernel_rfl, by kernel_rfl⟩
theorem ln_225_1 (c : Base) : LocName (sc_225 c) 1 "test" := ⟨rfl, by kernel_rfl, by kernel_rfl⟩
theorem gn_225_sign_fits (c : Base) : GloName (cx c) (sc_225 c) "sign_fits" (.ref 176) := ⟨gv_sign_fits c, by kernel_rfl, by kernel_rfl⟩
theorem fn_225_sign_fits (c : Base) : FnName (cx c) (sc_225 c) "sign_fits" 176 := ⟨gn_225_sign_fits c, kp_176 c⟩
theorem ln_225_4 (c : Base) : LocName (sc_225 c) 4 "stop" := ⟨rfl, by kernel_rfl, by kernel_rfl⟩
theorem ln_225_3 (c : Base) : LocName (sc_225 c) 3 "most" := ⟨rfl, by kernel_rfl, by kernel_rfl⟩
theorem bn_225_len (c : Base) : BltName (cx c) (sc_225 c) "len" (.builtin "len") := ⟨gz_len c, by kernel_rfl, by decide, by kernel_rfl, by kernel_rfl⟩
noncomputable def B_run_end : SS := (seqS (asgS (asgL 4) (ifE (tE (bE ltV (lE 3) (cE (.int 0)))) (bltE lenG (esC (attrE 193 1 (lE 0)) esN)) noE))
  (seqS (whileS (tAnd (tE (bE ltV (lE 2) (lE 4))) (tAnd (tE (callE F_sign_fits (esC (lE 1) (esC (subE (attrE 193 1 (lE 0)) (lE 2)) esN)))) (tB true)))
  (seqS (augL 2 iaddV (cE (.int 1)))
  nilS) 1000)
  (seqS (retS (lE 2))
  nilS)))
theorem S_run_end (c : Base) : SoundB (cx c) 4 (sc_225 c) (stOf (cx c).K 225) B_run_end := (sb_cons (s_asg (u_name (ln_225_4 c)) (b_if (t_cmp (l_name (ln_225_3 c)) c_int bin_lt rfl) (b_blt (bn_225_len c) f_len (es_cons (b_attr (l_name (ln_225_0 c)) (ao_193_1 c) (fun _ => rfl)) es_nil (fun _ => rfl)) (fun _ => ⟨rfl, rfl⟩) (fun _ => ⟨rfl, trivial⟩) (fun _ => rfl)) no_e) (fun _ => rfl) (fun _ => rfl) (fun _ => rfl))
  (sb_cons (s_while 1000 (t_bool (a_and (t_cmp (l_name (ln_225_2 c)) (l_name (ln_225_4 c)) bin_lt rfl) (a_and (t_val (b_call (fn_225_sign_fits c) ((ok_sign_fits c).up rfl) (es_cons (l_name (ln_225_1 c)) (es_cons (b_sub (b_attr (l_name (ln_225_0 c)) (ao_193_1 c) (fun _ => rfl)) (l_name (ln_225_2 c)) (fun _ _ => rfl)) es_nil (fun _ => rfl)) (fun _ => rfl)) (fun _ => ⟨rfl, rfl⟩) nilOk_cons (fun _ => rfl)) (fun _ _ => rfl)) a_andNil)))
  (sb_cons (s_augL (ln_225_2 c) c_int bin_iadd)
  sb_nil))
  (sb_cons (s_ret (l_name (ln_225_2 c)))
  sb_nil)))
noncomputable def F_run_end : FnG := runB [4] 4 5 [] B_run_end
theorem ok_run_end (c : Base) : CallOk (cx c) 5 (.ref ((cx c).ga 225)) F_run_end := fn_okK (fk_225 c) (S_run_end c)
theorem kp_225 (c : Base) : keepIn (cx c).K (.ref ((cx c).ga 225)) = true := by kernel_rfl
theorem gv_run_end (c : Base) : nsIn (cx c).K mainGlobals "run_end" = some (some (.ref 225)) := by kernel_rfl
theorem gn_232_run_end (c : Base) : GloName (cx c) (sc_232 c) "run_end" (.ref 225) := ⟨gv_run_end c, by kernel_rfl, by kernel_rfl⟩
theorem fn_232_run_end (c : Base) : FnName (cx c) (sc_232 c) "run_end" 225 := ⟨gn_232_run_end c, kp_225 c⟩
theorem ln_232_4 (c : Base) : LocName (sc_232 c) 4 "least" := ⟨rfl, by kernel_rfl, by kernel_rfl⟩
theorem ln_232_2 (c : Base) : LocName (sc_232 c) 2 "word" := ⟨rfl, by kernel_rfl, by kernel_rfl⟩
theorem ln_232_1 (c : Base) : LocName (sc_232 c) 1 "row" := ⟨rfl, by kernel_rfl, by kernel_rfl⟩
noncomputable def B_row_run : SS := (seqS (asgS (asgT [2, 3, 4, 5, 6]) (lE 1))
  (seqS (asgS (asgL 7) (bE addV (attrE 193 6 (lE 0)) (lE 4)))
  (seqS (asgS (asgL 8) (callE F_run_end (esC (lE 0) (esC (lE 3) (esC (attrE 193 6 (lE 0)) (esC (ifE (tE (lE 6)) noE (lE 5)) esN))))))
  (seqS (augA 193 5 iaddV (lE 0) (bE divV (bE subV (lE 8) (attrE 193 6 (lE 0))) (cE (.int 100))))
  (seqS (ifS (tE (bE ltV (lE 8) (lE 7)))
  (seqS (retS (cE (.bool false)))
  nilS)
  nilS)
  (seqS (augA 193 7 iaddV (lE 0) (cE (.int 1)))
  (seqS (ifS (tAnd (tE (lE 6)) (tAnd noT (tB true)))
  noS
  (seqS (ifS (tE (bE gtV (lE 8) (lE 7)))
  (seqS (exprS (appendE (attrE 193 10 (lE 0)) (tupE (esC (cE (.str [108, 101, 115, 115])) (esC (attrE 193 7 (lE 0)) (esC (lE 7) (esC (lE 8) esN)))))))
  nilS)
  nilS)
  nilS))
  (seqS (asgS (asgA 193 6 (lE 0)) (lE 8))
  (seqS (retS (cE (.bool true)))
  nilS)))))))))
theorem S_row_run (c : Base) : SoundB (cx c) 5 (sc_232 c) (stOf (cx c).K 232) B_row_run := (sb_cons (s_asg (u_tup (.cons (ln_232_2 c) (.cons (ln_232_3 c) (.cons (ln_232_4 c) (.cons (ln_232_5 c) (.cons (ln_232_6 c) .nil)))))) (l_name (ln_232_1 c)) (fun _ => rfl) (fun _ => rfl) (fun _ => rfl))
  (sb_cons (s_asg (u_name (ln_232_7 c)) (b_op (b_attr (l_name (ln_232_0 c)) (ao_193_6 c) (fun _ => rfl)) (l_name (ln_232_4 c)) bin_add) (fun _ => rfl) (fun _ => rfl) (fun _ => rfl))
  (sb_cons (s_asg (u_name (ln_232_8 c)) (b_call (fn_232_run_end c) ((ok_run_end c).up rfl) (es_cons (l_name (ln_232_0 c)) (es_cons (l_name (ln_232_3 c)) (es_cons (b_attr (l_name (ln_232_0 c)) (ao_193_6 c) (fun _ => rfl)) (es_cons (b_if (t_val (l_name (ln_232_6 c)) (fun _ _ => rfl)) no_e (l_name (ln_232_5 c))) es_nil (fun _ => rfl)) (fun _ => rfl)) (fun _ => rfl)) (fun _ => rfl)) (fun _ => ⟨rfl, rfl⟩) nilOk_cons (fun _ => rfl)) (fun _ => rfl) (fun _ => rfl) (fun _ => rfl))
  (sb_cons (s_augA (l_name (ln_232_0 c)) (ao_193_5 c) (so_193_5 c) (b_op (b_op (l_name (ln_232_8 c)) (b_attr (l_name (ln_232_0 c)) (ao_193_6 c) (fun _ => rfl)) bin_sub) (g_name (gn_232_STEP_SIGNS c) (fun _ _ => (.int _ _))) bin_div) bin_iadd)
  (sb_cons (s_if (t_cmp (l_name (ln_232_8 c)) (l_name (ln_232_7 c)) bin_lt rfl)
  (sb_cons (s_ret c_bool)
  sb_nil)
  sb_nil)
  (sb_cons (s_augA (l_name (ln_232_0 c)) (ao_193_7 c) (so_193_7 c) c_int bin_iadd)
  (sb_cons (s_if (t_bool (a_and (t_val (l_name (ln_232_6 c)) (fun _ _ => rfl)) (a_and no_t a_andNil)))
  no_b
  (sb_cons (s_if (t_cmp (l_name (ln_232_8 c)) (l_name (ln_232_7 c)) bin_gt rfl)
  (sb_cons (s_expr (b_append (b_attr (l_name (ln_232_0 c)) (ao_193_10 c) (fun _ => rfl)) (b_tup (es_cons (c_str (by kernel_rfl)) (es_cons (b_attr (l_name (ln_232_0 c)) (ao_193_7 c) (fun _ => rfl)) (es_cons (l_name (ln_232_7 c)) (es_cons (l_name (ln_232_8 c)) es_nil (fun _ => rfl)) (fun _ => rfl)) (fun _ => rfl)) (fun _ => rfl))) (fun _ => ⟨rfl, rfl⟩) (fun _ => rfl)) (fun _ => rfl))
  sb_nil)
  sb_nil)
  sb_nil))
  (sb_cons (s_asg (u_attr (l_name (ln_232_0 c)) (so_193_6 c)) (l_name (ln_232_8 c)) (fun _ => rfl) (fun _ => rfl) (fun _ => rfl))
  (sb_cons (s_ret c_bool)
  sb_nil)))))))))
noncomputable def F_row_run : FnG := runB [2] 2 9 [] B_row_run
theorem ok_row_run (c : Base) : CallOk (cx c) 6 (.ref ((cx c).ga 232)) F_row_run := fn_okK (fk_232 c) (S_row_run c)
noncomputable def sc_253 (c : Base) : Sc := ⟨(fdOf (cx c).K 253).scope, ["run", "row", "n", "begin", "end", "k"], [], fun _ => True⟩
theorem fk_253 (c : Base) : FnK (cx c) 253 ["run", "row"] ["run", "row", "n", "begin", "end", "k"] [2] [] where
  at_ := by kernel_rfl
  isF := ⟨by kernel_rfl, by kernel_rfl, by kernel_rfl, by kernel_rfl⟩
  code := by kernel_rfl
  bind := bindD (ds := []) (fun _ _ => .nil) (one_ar (fun S ws h => by obtain ⟨w0, w1, rfl⟩ := len2 h; kernel_rfl))
  ars := by decide
  pre := ⟨["n", "begin", "end", "k"], rfl⟩
  nd := by decide
  loc := by kernel_rfl
  cell := by kernel_rfl
  co := by kernel_rfl
  gen := by kernel_rfl
  kind := by kernel_rfl
theorem ln_253_2 (c : Base) : LocName (sc_253 c) 2 "n" := ⟨rfl, by kernel_rfl, by kernel_rfl⟩
theorem ln_253_0 (c : Base) : LocName (sc_253 c) 0 "run" := ⟨rfl, by kernel_rfl, by kernel_rfl⟩
theorem gn_253_go_on (c : Base) : GloName (cx c) (sc_253 c) "go_on" (.ref 211) := ⟨gv_go_on c, by kernel_rfl, by kernel_rfl⟩
theorem fn_253_go_on (c : Base) : FnName (cx c) (sc_253 c) "go_on" 211 := ⟨gn_253_go_on c, kp_211 c⟩
theorem ln_253_4 (c : Base) : LocName (sc_253 c) 4 "end" := ⟨rfl, by kernel_rfl, by kernel_rfl⟩
theorem ln_253_3 (c : Base) : LocName (sc_253 c) 3 "begin" := ⟨rfl, by kernel_rfl, by kernel_rfl⟩
theorem ln_253_5 (c : Base) : LocName (sc_253 c) 5 "k" := ⟨rfl, by kernel_rfl, by kernel_rfl⟩
theorem ln_253_1 (c : Base) : LocName (sc_253 c) 1 "row" := ⟨rfl, by kernel_rfl, by kernel_rfl⟩
theorem gn_253_same_sign (c : Base) : GloName (cx c) (sc_253 c) "same_sign" (.ref 143) := ⟨gv_same_sign c, by kernel_rfl, by kernel_rfl⟩
theorem fn_253_same_sign (c : Base) : FnName (cx c) (sc_253 c) "same_sign" 143 := ⟨gn_253_same_sign c, kp_143 c⟩
theorem gz_range (c : Base) : nsIn (cx c).K mainGlobals "range" = some none := by kernel_rfl
theorem bn_253_range (c : Base) : BltName (cx c) (sc_253 c) "range" (.type "range") := ⟨gz_range c, by kernel_rfl, by decide, by kernel_rfl, by kernel_rfl⟩
theorem gn_253_STEP_SIGNS (c : Base) : GloName (cx c) (sc_253 c) "STEP_SIGNS" (.int 100 434) := ⟨gv_STEP_SIGNS c, by kernel_rfl, by kernel_rfl⟩
theorem bn_253_len (c : Base) : BltName (cx c) (sc_253 c) "len" (.builtin "len") := ⟨gz_len c, by kernel_rfl, by decide, by kernel_rfl, by kernel_rfl⟩
noncomputable def B_row_back : SS := (seqS (forVS (subE (lE 1) (cE (.int 1))) (asgL 2)
  (seqS (ifS (tE (bE isNotV (subE (attrE 193 8 (lE 0)) (lE 2)) (cE .none)))
  (seqS (asgS (asgT [3, 4]) (subE (attrE 193 8 (lE 0)) (lE 2)))
  (seqS (ifS (tE (bE gtV (bE subV (bE addV (attrE 193 6 (lE 0)) (lE 4)) (lE 3)) (bltE lenG (esC (attrE 193 1 (lE 0)) esN))))
  (seqS (retS (cE (.bool false)))
  nilS)
  nilS)
  (seqS (augA 193 5 iaddV (lE 0) (bE divV (bE subV (lE 4) (lE 3)) (cE (.int 100))))
  (seqS (forRS (cE (.int 0)) (bE subV (lE 4) (lE 3)) (asgL 5)
  (seqS (ifS (tN (tE (callE F_same_sign (esC (subE (attrE 193 1 (lE 0)) (bE addV (attrE 193 6 (lE 0)) (lE 5))) (esC (subE (attrE 193 1 (lE 0)) (bE addV (lE 3) (lE 5))) (esC (subE (lE 1) (cE (.int 2))) esN))))))
  (seqS (retS (cE (.bool false)))
  nilS)
  nilS)
  nilS) 1000)
  (seqS (augA 193 6 iaddV (lE 0) (bE subV (lE 4) (lE 3)))
  (seqS (retS (callE F_go_on (esC (lE 0) esN)))
  nilS))))))
  nilS)
  nilS) 1000)
  noS)
theorem S_row_back (c : Base) : SoundB (cx c) 1 (sc_253 c) (stOf (cx c).K 253) B_row_back := (sb_cons (s_for 1000 (b_sub (l_name (ln_253_1 c)) c_int (fun _ _ => rfl)) (u_name (ln_253_2 c))
  (sb_cons (s_if (t_cmp (b_sub (b_attr (l_name (ln_253_0 c)) (ao_193_8 c) (fun _ => rfl)) (l_name (ln_253_2 c)) (fun _ _ => rfl)) c_none bin_isNot rfl)
  (sb_cons (s_asg (u_tup (.cons (ln_253_3 c) (.cons (ln_253_4 c) .nil))) (b_sub (b_attr (l_name (ln_253_0 c)) (ao_193_8 c) (fun _ => rfl)) (l_name (ln_253_2 c)) (fun _ _ => rfl)) (fun _ => rfl) (fun _ => rfl) (fun _ => rfl))
  (sb_cons (s_if (t_cmp (b_op (b_op (b_attr (l_name (ln_253_0 c)) (ao_193_6 c) (fun _ => rfl)) (l_name (ln_253_4 c)) bin_add) (l_name (ln_253_3 c)) bin_sub) (b_blt (bn_253_len c) f_len (es_cons (b_attr (l_name (ln_253_0 c)) (ao_193_1 c) (fun _ => rfl)) es_nil (fun _ => rfl)) (fun _ => ⟨rfl, rfl⟩) (fun _ => ⟨rfl, trivial⟩) (fun _ => rfl)) bin_gt rfl)
  (sb_cons (s_ret c_bool)
  sb_nil)
  sb_nil)
  (sb_cons (s_augA (l_name (ln_253_0 c)) (ao_193_5 c) (so_193_5 c) (b_op (b_op (l_name (ln_253_4 c)) (l_name (ln_253_3 c)) bin_sub) (g_name (gn_253_STEP_SIGNS c) (fun _ _ => (.int _ _))) bin_div) bin_iadd)
  (sb_cons (s_for1 1000 (bn_253_range c) (b_op (l_name (ln_253_4 c)) (l_name (ln_253_3 c)) bin_sub) (u_name (ln_253_5 c))
  (sb_cons (s_if (t_not (t_val (b_call (fn_253_same_sign c) ((ok_same_sign c).up rfl) (es_cons (b_sub (b_attr (l_name (ln_253_0 c)) (ao_193_1 c) (fun _ => rfl)) (b_op (b_attr (l_name (ln_253_0 c)) (ao_193_6 c) (fun _ => rfl)) (l_name (ln_253_5 c)) bin_add) (fun _ _ => rfl)) (es_cons (b_sub (b_attr (l_name (ln_253_0 c)) (ao_193_1 c) (fun _ => rfl)) (b_op (l_name (ln_253_3 c)) (l_name (ln_253_5 c)) bin_add) (fun _ _ => rfl)) (es_cons (b_sub (l_name (ln_253_1 c)) c_int (fun _ _ => rfl)) es_nil (fun _ => rfl)) (fun _ => rfl)) (fun _ => rfl)) (fun _ => ⟨rfl, rfl⟩) nilOk_cons (fun _ => rfl)) (fun _ _ => rfl)))
  (sb_cons (s_ret c_bool)
  sb_nil)
  sb_nil)
  sb_nil) (.inl (fun _ _ => rfl)) (fun _ _ => rfl) (fun _ => ⟨rfl, rfl⟩) (fun _ => rfl))
  (sb_cons (s_augA (l_name (ln_253_0 c)) (ao_193_6 c) (so_193_6 c) (b_op (l_name (ln_253_4 c)) (l_name (ln_253_3 c)) bin_sub) bin_iadd)
  (sb_cons (s_ret (b_call (fn_253_go_on c) ((ok_go_on c).up rfl) (es_cons (l_name (ln_253_0 c)) es_nil (fun _ => rfl)) (fun _ => ⟨rfl, rfl⟩) nilOk_cons (fun _ => rfl)))
  sb_nil))))))
  sb_nil)
  sb_nil) (.inl (fun _ _ => rfl)) (fun _ _ => rfl))
  no_b)
noncomputable def F_row_back : FnG := runB [2] 2 6 [] B_row_back
theorem ok_row_back (c : Base) : CallOk (cx c) 2 (.ref ((cx c).ga 253)) F_row_back := fn_okK (fk_253 c) (S_row_back c)
noncomputable def sc_260 (c : Base) : Sc := ⟨(fdOf (cx c).K 260).scope, ["run", "row"], [], fun _ => True⟩
theorem fk_260 (c : Base) : FnK (cx c) 260 ["run", "row"] ["run", "row"] [2] [] where
  at_ := by kernel_rfl
  isF := ⟨by kernel_rfl, by kernel_rfl, by kernel_rfl, by kernel_rfl⟩
  code := by kernel_rfl
  bind := bindD (ds := []) (fun _ _ => .nil) (one_ar (fun S ws h => by obtain ⟨w0, w1, rfl⟩ := len2 h; kernel_rfl))
  ars := by decide
  pre := ⟨[], rfl⟩
  nd := by decide
  loc := by kernel_rfl
  cell := by kernel_rfl
  co := by kernel_rfl
  gen := by kernel_rfl
  kind := by kernel_rfl
theorem ln_260_0 (c : Base) : LocName (sc_260 c) 0 "run" := ⟨rfl, by kernel_rfl, by kernel_rfl⟩
theorem gn_260_go_on (c : Base) : GloName (cx c) (sc_260 c) "go_on" (.ref 211) := ⟨gv_go_on c, by kernel_rfl, by kernel_rfl⟩
theorem fn_260_go_on (c : Base) : FnName (cx c) (sc_260 c) "go_on" 211 := ⟨gn_260_go_on c, kp_211 c⟩
theorem ln_260_1 (c : Base) : LocName (sc_260 c) 1 "row" := ⟨rfl, by kernel_rfl, by kernel_rfl⟩
noncomputable def sc_204 (c : Base) : Sc := ⟨(fdOf (cx c).K 204).scope, ["run", "k", "value"], [], fun _ => True⟩
theorem fk_204 (c : Base) : FnK (cx c) 204 ["run", "k", "value"] ["run", "k", "value"] [3] [] where
  at_ := by kernel_rfl
  isF := ⟨by kernel_rfl, by kernel_rfl, by kernel_rfl, by kernel_rfl⟩
  code := by kernel_rfl
  bind := bindD (ds := []) (fun _ _ => .nil) (one_ar (fun S ws h => by obtain ⟨w0, w1, w2, rfl⟩ := len3 h; kernel_rfl))
  ars := by decide
  pre := ⟨[], rfl⟩
  nd := by decide
  loc := by kernel_rfl
  cell := by kernel_rfl
  co := by kernel_rfl
  gen := by kernel_rfl
  kind := by kernel_rfl
theorem ln_204_0 (c : Base) : LocName (sc_204 c) 0 "run" := ⟨rfl, by kernel_rfl, by kernel_rfl⟩
theorem ln_204_1 (c : Base) : LocName (sc_204 c) 1 "k" := ⟨rfl, by kernel_rfl, by kernel_rfl⟩
theorem ln_204_2 (c : Base) : LocName (sc_204 c) 2 "value" := ⟨rfl, by kernel_rfl, by kernel_rfl⟩
noncomputable def B_set_register : SS := (seqS (exprS (appendE (attrE 193 10 (lE 0)) (tupE (esC (cE (.str [114, 101, 103, 105, 115, 116, 101, 114])) (esC (lE 1) (esC (subE (attrE 193 9 (lE 0)) (lE 1)) esN))))))
  (seqS (asgS (asgI (attrE 193 9 (lE 0)) (lE 1)) (lE 2))
  nilS))
theorem S_set_register (c : Base) : SoundB (cx c) 0 (sc_204 c) (stOf (cx c).K 204) B_set_register := (sb_cons (s_expr (b_append (b_attr (l_name (ln_204_0 c)) (ao_193_10 c) (fun _ => rfl)) (b_tup (es_cons (c_str (by kernel_rfl)) (es_cons (l_name (ln_204_1 c)) (es_cons (b_sub (b_attr (l_name (ln_204_0 c)) (ao_193_9 c) (fun _ => rfl)) (l_name (ln_204_1 c)) (fun _ _ => rfl)) es_nil (fun _ => rfl)) (fun _ => rfl)) (fun _ => rfl))) (fun _ => ⟨rfl, rfl⟩) (fun _ => rfl)) (fun _ => rfl))
  (sb_cons (s_asg (u_item (b_attr (l_name (ln_204_0 c)) (ao_193_9 c) (fun _ => rfl)) (l_name (ln_204_1 c))) (l_name (ln_204_2 c)) (fun _ => rfl) (fun _ => rfl) (fun _ => rfl))
  sb_nil))
noncomputable def F_set_register : FnG := runB [3] 3 3 [] B_set_register
theorem ok_set_register (c : Base) : CallOk (cx c) 1 (.ref ((cx c).ga 204)) F_set_register := fn_okK (fk_204 c) (S_set_register c)
theorem kp_204 (c : Base) : keepIn (cx c).K (.ref ((cx c).ga 204)) = true := by kernel_rfl
theorem gv_set_register (c : Base) : nsIn (cx c).K mainGlobals "set_register" = some (some (.ref 204)) := by kernel_rfl
theorem gn_260_set_register (c : Base) : GloName (cx c) (sc_260 c) "set_register" (.ref 204) := ⟨gv_set_register c, by kernel_rfl, by kernel_rfl⟩
theorem fn_260_set_register (c : Base) : FnName (cx c) (sc_260 c) "set_register" 204 := ⟨gn_260_set_register c, kp_204 c⟩
noncomputable def B_row_open : SS := (seqS (exprS (callE F_set_register (esC (lE 0) (esC (subE (lE 1) (cE (.int 1))) (esC (attrE 193 6 (lE 0)) esN)))))
  (seqS (retS (callE F_go_on (esC (lE 0) esN)))
  nilS))
theorem S_row_open (c : Base) : SoundB (cx c) 1 (sc_260 c) (stOf (cx c).K 260) B_row_open := (sb_cons (s_expr (b_call (fn_260_set_register c) ((ok_set_register c).up rfl) (es_cons (l_name (ln_260_0 c)) (es_cons (b_sub (l_name (ln_260_1 c)) c_int (fun _ _ => rfl)) (es_cons (b_attr (l_name (ln_260_0 c)) (ao_193_6 c) (fun _ => rfl)) es_nil (fun _ => rfl)) (fun _ => rfl)) (fun _ => rfl)) (fun _ => ⟨rfl, rfl⟩) nilOk_cons (fun _ => rfl)) (fun _ => rfl))
  (sb_cons (s_ret (b_call (fn_260_go_on c) ((ok_go_on c).up rfl) (es_cons (l_name (ln_260_0 c)) es_nil (fun _ => rfl)) (fun _ => ⟨rfl, rfl⟩) nilOk_cons (fun _ => rfl)))
  sb_nil))
noncomputable def F_row_open : FnG := runB [2] 2 2 [] B_row_open
theorem ok_row_open (c : Base) : CallOk (cx c) 2 (.ref ((cx c).ga 260)) F_row_open := fn_okK (fk_260 c) (S_row_open c)
noncomputable def sc_267 (c : Base) : Sc := ⟨(fdOf (cx c).K 267).scope, ["run", "row"], [], fun _ => True⟩
theorem fk_267 (c : Base) : FnK (cx c) 267 ["run", "row"] ["run", "row"] [2] [] where
  at_ := by kernel_rfl
  isF := ⟨by kernel_rfl, by kernel_rfl, by kernel_rfl, by kernel_rfl⟩
  code := by kernel_rfl
  bind := bindD (ds := []) (fun _ _ => .nil) (one_ar (fun S ws h => by obtain ⟨w0, w1, rfl⟩ := len2 h; kernel_rfl))
  ars := by decide
  pre := ⟨[], rfl⟩
  nd := by decide
  loc := by kernel_rfl
  cell := by kernel_rfl
  co := by kernel_rfl
  gen := by kernel_rfl
  kind := by kernel_rfl
theorem ln_267_0 (c : Base) : LocName (sc_267 c) 0 "run" := ⟨rfl, by kernel_rfl, by kernel_rfl⟩
theorem gn_267_go_on (c : Base) : GloName (cx c) (sc_267 c) "go_on" (.ref 211) := ⟨gv_go_on c, by kernel_rfl, by kernel_rfl⟩
theorem fn_267_go_on (c : Base) : FnName (cx c) (sc_267 c) "go_on" 211 := ⟨gn_267_go_on c, kp_211 c⟩
theorem ln_267_1 (c : Base) : LocName (sc_267 c) 1 "row" := ⟨rfl, by kernel_rfl, by kernel_rfl⟩
noncomputable def B_row_close : SS := (seqS (exprS (appendE (attrE 193 10 (lE 0)) (tupE (esC (cE (.str [103, 114, 111, 117, 112])) (esC (subE (lE 1) (cE (.int 1))) (esC (subE (attrE 193 8 (lE 0)) (subE (lE 1) (cE (.int 1)))) esN))))))
  (seqS (asgS (asgI (attrE 193 8 (lE 0)) (subE (lE 1) (cE (.int 1)))) (tupE (esC (subE (attrE 193 9 (lE 0)) (subE (lE 1) (cE (.int 2)))) (esC (attrE 193 6 (lE 0)) esN))))
  (seqS (retS (callE F_go_on (esC (lE 0) esN)))
  nilS)))
theorem S_row_close (c : Base) : SoundB (cx c) 1 (sc_267 c) (stOf (cx c).K 267) B_row_close := (sb_cons (s_expr (b_append (b_attr (l_name (ln_267_0 c)) (ao_193_10 c) (fun _ => rfl)) (b_tup (es_cons (c_str (by kernel_rfl)) (es_cons (b_sub (l_name (ln_267_1 c)) c_int (fun _ _ => rfl)) (es_cons (b_sub (b_attr (l_name (ln_267_0 c)) (ao_193_8 c) (fun _ => rfl)) (b_sub (l_name (ln_267_1 c)) c_int (fun _ _ => rfl)) (fun _ _ => rfl)) es_nil (fun _ => rfl)) (fun _ => rfl)) (fun _ => rfl))) (fun _ => ⟨rfl, rfl⟩) (fun _ => rfl)) (fun _ => rfl))
  (sb_cons (s_asg (u_item (b_attr (l_name (ln_267_0 c)) (ao_193_8 c) (fun _ => rfl)) (b_sub (l_name (ln_267_1 c)) c_int (fun _ _ => rfl))) (b_tup (es_cons (b_sub (b_attr (l_name (ln_267_0 c)) (ao_193_9 c) (fun _ => rfl)) (b_sub (l_name (ln_267_1 c)) c_int (fun _ _ => rfl)) (fun _ _ => rfl)) (es_cons (b_attr (l_name (ln_267_0 c)) (ao_193_6 c) (fun _ => rfl)) es_nil (fun _ => rfl)) (fun _ => rfl))) (fun _ => rfl) (fun _ => rfl) (fun _ => rfl))
  (sb_cons (s_ret (b_call (fn_267_go_on c) ((ok_go_on c).up rfl) (es_cons (l_name (ln_267_0 c)) es_nil (fun _ => rfl)) (fun _ => ⟨rfl, rfl⟩) nilOk_cons (fun _ => rfl)))
  sb_nil)))
noncomputable def F_row_close : FnG := runB [2] 2 2 [] B_row_close
theorem ok_row_close (c : Base) : CallOk (cx c) 2 (.ref ((cx c).ga 267)) F_row_close := fn_okK (fk_267 c) (S_row_close c)
noncomputable def sc_281 (c : Base) : Sc := ⟨(fdOf (cx c).K 281).scope, ["run", "row"], [], fun _ => True⟩
theorem fk_281 (c : Base) : FnK (cx c) 281 ["run", "row"] ["run", "row"] [2] [] where
  at_ := by kernel_rfl
  isF := ⟨by kernel_rfl, by kernel_rfl, by kernel_rfl, by kernel_rfl⟩
  code := by kernel_rfl
  bind := bindD (ds := []) (fun _ _ => .nil) (one_ar (fun S ws h => by obtain ⟨w0, w1, rfl⟩ := len2 h; kernel_rfl))
  ars := by decide
  pre := ⟨[], rfl⟩
  nd := by decide
  loc := by kernel_rfl
  cell := by kernel_rfl
  co := by kernel_rfl
  gen := by kernel_rfl
  kind := by kernel_rfl
theorem ln_281_0 (c : Base) : LocName (sc_281 c) 0 "run" := ⟨rfl, by kernel_rfl, by kernel_rfl⟩
theorem ln_281_1 (c : Base) : LocName (sc_281 c) 1 "row" := ⟨rfl, by kernel_rfl, by kernel_rfl⟩
noncomputable def B_row_split : SS := (seqS (exprS (appendE (attrE 193 10 (lE 0)) (tupE (esC (cE (.str [116, 114, 121])) (esC (subE (lE 1) (cE (.int 2))) (esC (attrE 193 6 (lE 0)) esN))))))
  (seqS (asgS (asgA 193 7 (lE 0)) (subE (lE 1) (cE (.int 1))))
  (seqS (retS (cE (.bool true)))
  nilS)))
theorem S_row_split (c : Base) : SoundB (cx c) 0 (sc_281 c) (stOf (cx c).K 281) B_row_split := (sb_cons (s_expr (b_append (b_attr (l_name (ln_281_0 c)) (ao_193_10 c) (fun _ => rfl)) (b_tup (es_cons (c_str (by kernel_rfl)) (es_cons (b_sub (l_name (ln_281_1 c)) c_int (fun _ _ => rfl)) (es_cons (b_attr (l_name (ln_281_0 c)) (ao_193_6 c) (fun _ => rfl)) es_nil (fun _ => rfl)) (fun _ => rfl)) (fun _ => rfl))) (fun _ => ⟨rfl, rfl⟩) (fun _ => rfl)) (fun _ => rfl))
  (sb_cons (s_asg (u_attr (l_name (ln_281_0 c)) (so_193_7 c)) (b_sub (l_name (ln_281_1 c)) c_int (fun _ _ => rfl)) (fun _ => rfl) (fun _ => rfl) (fun _ => rfl))
  (sb_cons (s_ret c_bool)
  sb_nil)))
noncomputable def F_row_split : FnG := runB [2] 2 2 [] B_row_split
theorem ok_row_split (c : Base) : CallOk (cx c) 1 (.ref ((cx c).ga 281)) F_row_split := fn_okK (fk_281 c) (S_row_split c)
theorem kp_281 (c : Base) : keepIn (cx c).K (.ref ((cx c).ga 281)) = true := by kernel_rfl
theorem kp_267 (c : Base) : keepIn (cx c).K (.ref ((cx c).ga 267)) = true := by kernel_rfl
theorem kp_260 (c : Base) : keepIn (cx c).K (.ref ((cx c).ga 260)) = true := by kernel_rfl
theorem kp_253 (c : Base) : keepIn (cx c).K (.ref ((cx c).ga 253)) = true := by kernel_rfl
theorem kp_232 (c : Base) : keepIn (cx c).K (.ref ((cx c).ga 232)) = true := by kernel_rfl
theorem kp_218 (c : Base) : keepIn (cx c).K (.ref ((cx c).ga 218)) = true := by kernel_rfl
noncomputable def rowTab : Nat → Option FnG := tabOf [(218, F_row_test), (232, F_row_run), (253, F_row_back), (260, F_row_open), (267, F_row_close), (281, F_row_split)]
theorem ao_193_0 (c : Base) : AttrOk (cx c) 193 0 "program" := ⟨rfl, by kernel_rfl, by kernel_rfl, by kernel_rfl⟩
theorem ao_441_0 (c : Base) : AttrOk (cx c) 441 0 "rows" := ⟨rfl, by kernel_rfl, by kernel_rfl, by kernel_rfl⟩
theorem ao_193_4 (c : Base) : AttrOk (cx c) 193 4 "most" := ⟨rfl, by kernel_rfl, by kernel_rfl, by kernel_rfl⟩
theorem ao_441_1 (c : Base) : AttrOk (cx c) 441 1 "groups" := ⟨rfl, by kernel_rfl, by kernel_rfl, by kernel_rfl⟩
theorem ao_441_2 (c : Base) : AttrOk (cx c) 441 2 "registers" := ⟨rfl, by kernel_rfl, by kernel_rfl, by kernel_rfl⟩
theorem gv_STEP_GROUPS (c : Base) : nsIn (cx c).K mainGlobals "STEP_GROUPS" = some (some (.int 20 436)) := by kernel_rfl
theorem gn_377_STEP_GROUPS (c : Base) : GloName (cx c) (sc_377 c) "STEP_GROUPS" (.int 20 436) := ⟨gv_STEP_GROUPS c, by kernel_rfl, by kernel_rfl⟩
theorem so_193_9 (c : Base) : SetOk (cx c) 193 9 "registers" := ⟨rfl, nd_193, fw_193, by kernel_rfl, by kernel_rfl, by kernel_rfl, by kernel_rfl⟩
theorem so_193_8 (c : Base) : SetOk (cx c) 193 8 "groups" := ⟨rfl, nd_193, fw_193, by kernel_rfl, by kernel_rfl, by kernel_rfl, by kernel_rfl⟩
theorem so_193_10 (c : Base) : SetOk (cx c) 193 10 "pile" := ⟨rfl, nd_193, fw_193, by kernel_rfl, by kernel_rfl, by kernel_rfl, by kernel_rfl⟩
noncomputable def B_match_from : SS := (seqS (asgS (asgA 193 6 (lE 0)) (lE 2))
  (seqS (asgS (asgA 193 7 (lE 0)) (cE (.int 0)))
  (seqS (asgS (asgA 193 10 (lE 0)) (listE esN))
  (seqS (asgS (asgA 193 8 (lE 0)) (hE mulL (listE (esC (cE .none) esN)) (bE addV (attrE 441 1 (attrE 193 0 (lE 0))) (cE (.int 1)))))
  (seqS (asgS (asgA 193 9 (lE 0)) (hE mulL (listE (esC (cE (.int (-1))) esN)) (attrE 441 2 (attrE 193 0 (lE 0)))))
  (seqS (augA 193 5 iaddV (lE 0) (bE divV (bE addV (attrE 441 1 (attrE 193 0 (lE 0))) (attrE 441 2 (attrE 193 0 (lE 0)))) (cE (.int 20))))
  (seqS (whileS (tE (cE (.bool true)))
  (seqS (augA 193 5 iaddV (lE 0) (cE (.int 1)))
  (seqS (ifS (tE (bE gtV (attrE 193 5 (lE 0)) (attrE 193 4 (lE 0))))
  noS
  nilS)
  (seqS (asgS (asgL 3) (subE (attrE 441 0 (attrE 193 0 (lE 0))) (attrE 193 7 (lE 0))))
  (seqS (ifS (tE (bE eqV (subE (lE 3) (cE (.int 0))) (cE (.str [101, 110, 100]))))
  (seqS (asgS (asgL 4) (bE geV (attrE 193 6 (lE 0)) (attrE 193 3 (lE 0))))
  (seqS (ifS (tE (lE 4))
  (seqS (asgS (asgI (attrE 193 8 (lE 0)) (cE (.int 0))) (tupE (esC (lE 2) (esC (attrE 193 6 (lE 0)) esN))))
  (seqS (retS (cE (.bool true)))
  nilS))
  nilS)
  nilS))
  (seqS (asgS (asgL 4) (dynE rowTab (subE (lE 1) (subE (lE 3) (cE (.int 0)))) (esC (lE 0) (esC (lE 3) esN))))
  nilS))
  (seqS (ifS (tAnd (tN (tE (lE 4))) (tAnd (tN (tE (callE F_back_up (esC (lE 0) esN)))) (tB true)))
  (seqS (retS (cE (.bool false)))
  nilS)
  nilS)
  nilS))))) 1000)
  nilS)))))))
theorem S_match_from (c : Base) : SoundB (cx c) 6 (sc_377 c) (stOf (cx c).K 377) B_match_from := (sb_cons (s_asg (u_attr (l_name (ln_377_0 c)) (so_193_6 c)) (l_name (ln_377_2 c)) (fun _ => rfl) (fun _ => rfl) (fun _ => rfl))
  (sb_cons (s_asg (u_attr (l_name (ln_377_0 c)) (so_193_7 c)) c_int (fun _ => rfl) (fun _ => rfl) (fun _ => rfl))
  (sb_cons (s_asg (u_attr (l_name (ln_377_0 c)) (so_193_10 c)) (b_list es_nil) (fun _ => rfl) (fun _ => rfl) (fun _ => rfl))
  (sb_cons (s_asg (u_attr (l_name (ln_377_0 c)) (so_193_8 c)) (h_op (b_list (es_cons c_none es_nil (fun _ => rfl))) (b_op (b_attr (b_attr (l_name (ln_377_0 c)) (ao_193_0 c) (fun _ => rfl)) (ao_441_1 c) (fun _ => rfl)) c_int bin_add) binh_mul) (fun _ => rfl) (fun _ => rfl) (fun _ => rfl))
  (sb_cons (s_asg (u_attr (l_name (ln_377_0 c)) (so_193_9 c)) (h_op (b_list (es_cons b_neg es_nil (fun _ => rfl))) (b_attr (b_attr (l_name (ln_377_0 c)) (ao_193_0 c) (fun _ => rfl)) (ao_441_2 c) (fun _ => rfl)) binh_mul) (fun _ => rfl) (fun _ => rfl) (fun _ => rfl))
  (sb_cons (s_augA (l_name (ln_377_0 c)) (ao_193_5 c) (so_193_5 c) (b_op (b_op (b_attr (b_attr (l_name (ln_377_0 c)) (ao_193_0 c) (fun _ => rfl)) (ao_441_1 c) (fun _ => rfl)) (b_attr (b_attr (l_name (ln_377_0 c)) (ao_193_0 c) (fun _ => rfl)) (ao_441_2 c) (fun _ => rfl)) bin_add) (g_name (gn_377_STEP_GROUPS c) (fun _ _ => (.int _ _))) bin_div) bin_iadd)
  (sb_cons (s_while 1000 (t_val c_bool (fun _ _ => rfl))
  (sb_cons (s_augA (l_name (ln_377_0 c)) (ao_193_5 c) (so_193_5 c) c_int bin_iadd)
  (sb_cons (s_if (t_cmp (b_attr (l_name (ln_377_0 c)) (ao_193_5 c) (fun _ => rfl)) (b_attr (l_name (ln_377_0 c)) (ao_193_4 c) (fun _ => rfl)) bin_gt rfl)
  no_b
  sb_nil)
  (sb_cons (s_asg (u_name (ln_377_3 c)) (b_sub (b_attr (b_attr (l_name (ln_377_0 c)) (ao_193_0 c) (fun _ => rfl)) (ao_441_0 c) (fun _ => rfl)) (b_attr (l_name (ln_377_0 c)) (ao_193_7 c) (fun _ => rfl)) (fun _ _ => rfl)) (fun _ => rfl) (fun _ => rfl) (fun _ => rfl))
  (sb_cons (s_if (t_cmp (b_sub (l_name (ln_377_3 c)) c_int (fun _ _ => rfl)) (c_str (by kernel_rfl)) bin_eq rfl)
  (sb_cons (s_asg (u_name (ln_377_4 c)) (b_cmp (b_attr (l_name (ln_377_0 c)) (ao_193_6 c) (fun _ => rfl)) (b_attr (l_name (ln_377_0 c)) (ao_193_3 c) (fun _ => rfl)) bin_ge rfl) (fun _ => rfl) (fun _ => rfl) (fun _ => rfl))
  (sb_cons (s_if (t_val (l_name (ln_377_4 c)) (fun _ _ => rfl))
  (sb_cons (s_asg (u_item (b_attr (l_name (ln_377_0 c)) (ao_193_8 c) (fun _ => rfl)) c_int) (b_tup (es_cons (l_name (ln_377_2 c)) (es_cons (b_attr (l_name (ln_377_0 c)) (ao_193_6 c) (fun _ => rfl)) es_nil (fun _ => rfl)) (fun _ => rfl))) (fun _ => rfl) (fun _ => rfl) (fun _ => rfl))
  (sb_cons (s_ret c_bool)
  sb_nil))
  sb_nil)
  sb_nil))
  (sb_cons (s_asg (u_name (ln_377_4 c)) (b_dyn (b_sub (l_name (ln_377_1 c)) (b_sub (l_name (ln_377_3 c)) c_int (fun _ _ => rfl)) (fun _ _ => rfl)) (tab_cons ((ok_row_test c).up rfl) (kp_218 c) (tab_cons ((ok_row_run c).up rfl) (kp_232 c) (tab_cons ((ok_row_back c).up rfl) (kp_253 c) (tab_cons ((ok_row_open c).up rfl) (kp_260 c) (tab_cons ((ok_row_close c).up rfl) (kp_267 c) (tab_cons ((ok_row_split c).up rfl) (kp_281 c) tab_nil)))))) (es_cons (l_name (ln_377_0 c)) (es_cons (l_name (ln_377_3 c)) es_nil (fun _ => rfl)) (fun _ => rfl)) (fun _ => ⟨rfl, rfl⟩) nilOk_cons (fun _ => rfl)) (fun _ => rfl) (fun _ => rfl) (fun _ => rfl))
  sb_nil))
  (sb_cons (s_if (t_bool (a_and (t_not (t_val (l_name (ln_377_4 c)) (fun _ _ => rfl))) (a_and (t_not (t_val (b_call (fn_377_back_up c) ((ok_back_up c).up rfl) (es_cons (l_name (ln_377_0 c)) es_nil (fun _ => rfl)) (fun _ => ⟨rfl, rfl⟩) nilOk_cons (fun _ => rfl)) (fun _ _ => rfl))) a_andNil)))
  (sb_cons (s_ret c_bool)
  sb_nil)
  sb_nil)
  sb_nil))))))
  sb_nil)))))))
noncomputable def F_match_from : FnG := runB [3] 3 5 [] B_match_from
theorem ok_match_from (c : Base) : CallOk (cx c) 7 (.ref ((cx c).ga 377)) F_match_from := fn_okK (fk_377 c) (S_match_from c)
theorem kp_377 (c : Base) : keepIn (cx c).K (.ref ((cx c).ga 377)) = true := by kernel_rfl
theorem gv_match_from (c : Base) : nsIn (cx c).K mainGlobals "match_from" = some (some (.ref 377)) := by kernel_rfl
theorem gn_385_match_from (c : Base) : GloName (cx c) (sc_385 c) "match_from" (.ref 377) := ⟨gv_match_from c, by kernel_rfl, by kernel_rfl⟩
theorem fn_385_match_from (c : Base) : FnName (cx c) (sc_385 c) "match_from" 377 := ⟨gn_385_match_from c, kp_377 c⟩
theorem ln_385_2 (c : Base) : LocName (sc_385 c) 2 "at" := ⟨rfl, by kernel_rfl, by kernel_rfl⟩
noncomputable def sc_356 (c : Base) : Sc := ⟨(fdOf (cx c).K 356).scope, [], [], fun _ => True⟩
theorem fk_356 (c : Base) : FnK (cx c) 356 [] [] [0] [] where
  at_ := by kernel_rfl
  isF := ⟨by kernel_rfl, by kernel_rfl, by kernel_rfl, by kernel_rfl⟩
  code := by kernel_rfl
  bind := bindD (ds := []) (fun _ _ => .nil) (one_ar (fun S ws h => by obtain ⟨rfl⟩ := len0 h; kernel_rfl))
  ars := by decide
  pre := ⟨[], rfl⟩
  nd := by decide
  loc := by kernel_rfl
  cell := by kernel_rfl
  co := by kernel_rfl
  gen := by kernel_rfl
  kind := by kernel_rfl
theorem gv_row_behind (c : Base) : nsIn (cx c).K mainGlobals "row_behind" = some (some (.ref 349)) := by kernel_rfl
theorem gn_356_row_behind (c : Base) : GloName (cx c) (sc_356 c) "row_behind" (.ref 349) := ⟨gv_row_behind c, by kernel_rfl, by kernel_rfl⟩
theorem gv_row_return (c : Base) : nsIn (cx c).K mainGlobals "row_return" = some (some (.ref 342)) := by kernel_rfl
theorem gn_356_row_return (c : Base) : GloName (cx c) (sc_356 c) "row_return" (.ref 342) := ⟨gv_row_return c, by kernel_rfl, by kernel_rfl⟩
theorem gv_row_place (c : Base) : nsIn (cx c).K mainGlobals "row_place" = some (some (.ref 335)) := by kernel_rfl
theorem gn_356_row_place (c : Base) : GloName (cx c) (sc_356 c) "row_place" (.ref 335) := ⟨gv_row_place c, by kernel_rfl, by kernel_rfl⟩
theorem gv_row_refuse (c : Base) : nsIn (cx c).K mainGlobals "row_refuse" = some (some (.ref 328)) := by kernel_rfl
theorem gn_356_row_refuse (c : Base) : GloName (cx c) (sc_356 c) "row_refuse" (.ref 328) := ⟨gv_row_refuse c, by kernel_rfl, by kernel_rfl⟩
theorem gv_row_cut (c : Base) : nsIn (cx c).K mainGlobals "row_cut" = some (some (.ref 314)) := by kernel_rfl
theorem gn_356_row_cut (c : Base) : GloName (cx c) (sc_356 c) "row_cut" (.ref 314) := ⟨gv_row_cut c, by kernel_rfl, by kernel_rfl⟩
theorem gv_row_mark (c : Base) : nsIn (cx c).K mainGlobals "row_mark" = some (some (.ref 309)) := by kernel_rfl
theorem gn_356_row_mark (c : Base) : GloName (cx c) (sc_356 c) "row_mark" (.ref 309) := ⟨gv_row_mark c, by kernel_rfl, by kernel_rfl⟩
theorem gv_row_again (c : Base) : nsIn (cx c).K mainGlobals "row_again" = some (some (.ref 302)) := by kernel_rfl
theorem gn_356_row_again (c : Base) : GloName (cx c) (sc_356 c) "row_again" (.ref 302) := ⟨gv_row_again c, by kernel_rfl, by kernel_rfl⟩
theorem gv_row_loop (c : Base) : nsIn (cx c).K mainGlobals "row_loop" = some (some (.ref 295)) := by kernel_rfl
theorem gn_356_row_loop (c : Base) : GloName (cx c) (sc_356 c) "row_loop" (.ref 295) := ⟨gv_row_loop c, by kernel_rfl, by kernel_rfl⟩
theorem gv_row_zero (c : Base) : nsIn (cx c).K mainGlobals "row_zero" = some (some (.ref 288)) := by kernel_rfl
theorem gn_356_row_zero (c : Base) : GloName (cx c) (sc_356 c) "row_zero" (.ref 288) := ⟨gv_row_zero c, by kernel_rfl, by kernel_rfl⟩
theorem gv_row_split (c : Base) : nsIn (cx c).K mainGlobals "row_split" = some (some (.ref 281)) := by kernel_rfl
theorem gn_356_row_split (c : Base) : GloName (cx c) (sc_356 c) "row_split" (.ref 281) := ⟨gv_row_split c, by kernel_rfl, by kernel_rfl⟩
theorem gv_row_jump (c : Base) : nsIn (cx c).K mainGlobals "row_jump" = some (some (.ref 274)) := by kernel_rfl
theorem gn_356_row_jump (c : Base) : GloName (cx c) (sc_356 c) "row_jump" (.ref 274) := ⟨gv_row_jump c, by kernel_rfl, by kernel_rfl⟩
theorem gv_row_close (c : Base) : nsIn (cx c).K mainGlobals "row_close" = some (some (.ref 267)) := by kernel_rfl
theorem gn_356_row_close (c : Base) : GloName (cx c) (sc_356 c) "row_close" (.ref 267) := ⟨gv_row_close c, by kernel_rfl, by kernel_rfl⟩
theorem gv_row_open (c : Base) : nsIn (cx c).K mainGlobals "row_open" = some (some (.ref 260)) := by kernel_rfl
theorem gn_356_row_open (c : Base) : GloName (cx c) (sc_356 c) "row_open" (.ref 260) := ⟨gv_row_open c, by kernel_rfl, by kernel_rfl⟩
theorem gv_row_back (c : Base) : nsIn (cx c).K mainGlobals "row_back" = some (some (.ref 253)) := by kernel_rfl
theorem gn_356_row_back (c : Base) : GloName (cx c) (sc_356 c) "row_back" (.ref 253) := ⟨gv_row_back c, by kernel_rfl, by kernel_rfl⟩
theorem gv_row_at (c : Base) : nsIn (cx c).K mainGlobals "row_at" = some (some (.ref 246)) := by kernel_rfl
theorem gn_356_row_at (c : Base) : GloName (cx c) (sc_356 c) "row_at" (.ref 246) := ⟨gv_row_at c, by kernel_rfl, by kernel_rfl⟩
theorem gv_row_run (c : Base) : nsIn (cx c).K mainGlobals "row_run" = some (some (.ref 232)) := by kernel_rfl
theorem gn_356_row_run (c : Base) : GloName (cx c) (sc_356 c) "row_run" (.ref 232) := ⟨gv_row_run c, by kernel_rfl, by kernel_rfl⟩
theorem gv_row_test (c : Base) : nsIn (cx c).K mainGlobals "row_test" = some (some (.ref 218)) := by kernel_rfl
theorem gn_356_row_test (c : Base) : GloName (cx c) (sc_356 c) "row_test" (.ref 218) := ⟨gv_row_test c, by kernel_rfl, by kernel_rfl⟩
noncomputable def es_row_words : List (List Nat × V) := [([115, 105, 103, 110], (.g 218)), ([97, 110, 121], (.g 218)), ([115, 101, 116], (.g 218)), ([114, 117, 110], (.g 232)), ([97, 116], (.g 246)), ([98, 97, 99, 107], (.g 253)), ([111, 112, 101, 110], (.g 260)), ([99, 108, 111, 115, 101], (.g 267)), ([106, 117, 109, 112], (.g 274)), ([115, 112, 108, 105, 116], (.g 281)), ([122, 101, 114, 111], (.g 288)), ([108, 111, 111, 112], (.g 295)), ([97, 103, 97, 105, 110], (.g 302)), ([109, 97, 114, 107], (.g 309)), ([99, 117, 116], (.g 314)), ([114, 101, 102, 117, 115, 101], (.g 328)), ([112, 108, 97, 99, 101], (.g 335)), ([114, 101, 116, 117, 114, 110], (.g 342)), ([98, 101, 104, 105, 110, 100], (.g 349))]
noncomputable def B_row_words : SS := seqS (retS (dictC es_row_words)) nilS
theorem P_row_words (c : Base) : ∃ ks vs pos r, stOf (cx c).K 356 = [.Return (some (.Dict ks vs pos)) r] ∧ PairsE (cx c) 0 (sc_356 c) ks vs es_row_words :=
  ⟨_, _, _, _, rfl, (.cons (by kernel_rfl) (g_name (gn_356_row_test c) (fun _ _ => (.g 218))) (.cons (by kernel_rfl) (g_name (gn_356_row_test c) (fun _ _ => (.g 218))) (.cons (by kernel_rfl) (g_name (gn_356_row_test c) (fun _ _ => (.g 218))) (.cons (by kernel_rfl) (g_name (gn_356_row_run c) (fun _ _ => (.g 232))) (.cons (by kernel_rfl) (g_name (gn_356_row_at c) (fun _ _ => (.g 246))) (.cons (by kernel_rfl) (g_name (gn_356_row_back c) (fun _ _ => (.g 253))) (.cons (by kernel_rfl) (g_name (gn_356_row_open c) (fun _ _ => (.g 260))) (.cons (by kernel_rfl) (g_name (gn_356_row_close c) (fun _ _ => (.g 267))) (.cons (by kernel_rfl) (g_name (gn_356_row_jump c) (fun _ _ => (.g 274))) (.cons (by kernel_rfl) (g_name (gn_356_row_split c) (fun _ _ => (.g 281))) (.cons (by kernel_rfl) (g_name (gn_356_row_zero c) (fun _ _ => (.g 288))) (.cons (by kernel_rfl) (g_name (gn_356_row_loop c) (fun _ _ => (.g 295))) (.cons (by kernel_rfl) (g_name (gn_356_row_again c) (fun _ _ => (.g 302))) (.cons (by kernel_rfl) (g_name (gn_356_row_mark c) (fun _ _ => (.g 309))) (.cons (by kernel_rfl) (g_name (gn_356_row_cut c) (fun _ _ => (.g 314))) (.cons (by kernel_rfl) (g_name (gn_356_row_refuse c) (fun _ _ => (.g 328))) (.cons (by kernel_rfl) (g_name (gn_356_row_place c) (fun _ _ => (.g 335))) (.cons (by kernel_rfl) (g_name (gn_356_row_return c) (fun _ _ => (.g 342))) (.cons (by kernel_rfl) (g_name (gn_356_row_behind c) (fun _ _ => (.g 349))) .nil)))))))))))))))))))⟩
theorem S_row_words (c : Base) : SoundB (cx c) 0 (sc_356 c) (stOf (cx c).K 356) B_row_words := by
  obtain ⟨ks, vs, pos, r, e, h⟩ := P_row_words c
  rw [e]
  exact sb_cons (s_ret (b_dictC h (by decide) (by decide) (by decide))) sb_nil
noncomputable def F_row_words : FnG := runB [0] 0 0 [] B_row_words
theorem ok_row_words (c : Base) : CallOk (cx c) 1 (.ref ((cx c).ga 356)) F_row_words := fn_okK (fk_356 c) (S_row_words c)
theorem kp_356 (c : Base) : keepIn (cx c).K (.ref ((cx c).ga 356)) = true := by kernel_rfl
theorem gv_row_words (c : Base) : nsIn (cx c).K mainGlobals "row_words" = some (some (.ref 356)) := by kernel_rfl
theorem gn_385_row_words (c : Base) : GloName (cx c) (sc_385 c) "row_words" (.ref 356) := ⟨gv_row_words c, by kernel_rfl, by kernel_rfl⟩
theorem fn_385_row_words (c : Base) : FnName (cx c) (sc_385 c) "row_words" 356 := ⟨gn_385_row_words c, kp_356 c⟩
theorem ln_385_3 (c : Base) : LocName (sc_385 c) 3 "limits" := ⟨rfl, by kernel_rfl, by kernel_rfl⟩
theorem ao_419_2 (c : Base) : AttrOk (cx c) 419 2 "steps" := ⟨rfl, by kernel_rfl, by kernel_rfl, by kernel_rfl⟩
theorem ln_385_4 (c : Base) : LocName (sc_385 c) 4 "least_end" := ⟨rfl, by kernel_rfl, by kernel_rfl⟩
theorem ln_385_5 (c : Base) : LocName (sc_385 c) 5 "begin" := ⟨rfl, by kernel_rfl, by kernel_rfl⟩
theorem ln_385_0 (c : Base) : LocName (sc_385 c) 0 "program" := ⟨rfl, by kernel_rfl, by kernel_rfl⟩
theorem mk_193 (c : Base) : MakeOk (cx c) 193 190 := ⟨by kernel_rfl, by kernel_rfl, by kernel_rfl, trivial⟩
noncomputable def sc_190 (c : Base) : Sc := ⟨(fdOf (cx c).K 190).scope, ["self", "program", "text", "begin", "least_end", "most"], [], fun _ => True⟩
theorem fk_190 (c : Base) : FnK (cx c) 190 ["self", "program", "text", "begin", "least_end", "most"] ["self", "program", "text", "begin", "least_end", "most"] [6] [] where
  at_ := by kernel_rfl
  isF := ⟨by kernel_rfl, by kernel_rfl, by kernel_rfl, by kernel_rfl⟩
  code := by kernel_rfl
  bind := bindD (ds := []) (fun _ _ => .nil) (one_ar (fun S ws h => by obtain ⟨w0, w1, w2, w3, w4, w5, rfl⟩ := len6 h; kernel_rfl))
  ars := by decide
  pre := ⟨[], rfl⟩
  nd := by decide
  loc := by kernel_rfl
  cell := by kernel_rfl
  co := by kernel_rfl
  gen := by kernel_rfl
  kind := by kernel_rfl
theorem ln_190_0 (c : Base) : LocName (sc_190 c) 0 "self" := ⟨rfl, by kernel_rfl, by kernel_rfl⟩
theorem ln_190_3 (c : Base) : LocName (sc_190 c) 3 "begin" := ⟨rfl, by kernel_rfl, by kernel_rfl⟩
theorem so_193_4 (c : Base) : SetOk (cx c) 193 4 "most" := ⟨rfl, nd_193, fw_193, by kernel_rfl, by kernel_rfl, by kernel_rfl, by kernel_rfl⟩
theorem ln_190_5 (c : Base) : LocName (sc_190 c) 5 "most" := ⟨rfl, by kernel_rfl, by kernel_rfl⟩
theorem so_193_3 (c : Base) : SetOk (cx c) 193 3 "least_end" := ⟨rfl, nd_193, fw_193, by kernel_rfl, by kernel_rfl, by kernel_rfl, by kernel_rfl⟩
theorem ln_190_4 (c : Base) : LocName (sc_190 c) 4 "least_end" := ⟨rfl, by kernel_rfl, by kernel_rfl⟩
theorem so_193_2 (c : Base) : SetOk (cx c) 193 2 "begin" := ⟨rfl, nd_193, fw_193, by kernel_rfl, by kernel_rfl, by kernel_rfl, by kernel_rfl⟩
theorem so_193_1 (c : Base) : SetOk (cx c) 193 1 "text" := ⟨rfl, nd_193, fw_193, by kernel_rfl, by kernel_rfl, by kernel_rfl, by kernel_rfl⟩
theorem ln_190_2 (c : Base) : LocName (sc_190 c) 2 "text" := ⟨rfl, by kernel_rfl, by kernel_rfl⟩
theorem so_193_0 (c : Base) : SetOk (cx c) 193 0 "program" := ⟨rfl, nd_193, fw_193, by kernel_rfl, by kernel_rfl, by kernel_rfl, by kernel_rfl⟩
theorem ln_190_1 (c : Base) : LocName (sc_190 c) 1 "program" := ⟨rfl, by kernel_rfl, by kernel_rfl⟩
noncomputable def B_MatchRun___init__ : SS := (seqS (asgS (asgA 193 0 (lE 0)) (lE 1))
  (seqS (asgS (asgA 193 1 (lE 0)) (lE 2))
  (seqS (asgS (asgA 193 2 (lE 0)) (lE 3))
  (seqS (asgS (asgA 193 3 (lE 0)) (lE 4))
  (seqS (asgS (asgA 193 4 (lE 0)) (lE 5))
  (seqS (asgS (asgA 193 5 (lE 0)) (cE (.int 0)))
  (seqS (asgS (asgA 193 6 (lE 0)) (lE 3))
  (seqS (asgS (asgA 193 7 (lE 0)) (cE (.int 0)))
  (seqS (asgS (asgA 193 8 (lE 0)) (listE esN))
  (seqS (asgS (asgA 193 9 (lE 0)) (listE esN))
  (seqS (asgS (asgA 193 10 (lE 0)) (listE esN))
  nilS)))))))))))
theorem S_MatchRun___init__ (c : Base) : SoundB (cx c) 0 (sc_190 c) (stOf (cx c).K 190) B_MatchRun___init__ := (sb_cons (s_asg (u_attr (l_name (ln_190_0 c)) (so_193_0 c)) (l_name (ln_190_1 c)) (fun _ => rfl) (fun _ => rfl) (fun _ => rfl))
  (sb_cons (s_asg (u_attr (l_name (ln_190_0 c)) (so_193_1 c)) (l_name (ln_190_2 c)) (fun _ => rfl) (fun _ => rfl) (fun _ => rfl))
  (sb_cons (s_asg (u_attr (l_name (ln_190_0 c)) (so_193_2 c)) (l_name (ln_190_3 c)) (fun _ => rfl) (fun _ => rfl) (fun _ => rfl))
  (sb_cons (s_asg (u_attr (l_name (ln_190_0 c)) (so_193_3 c)) (l_name (ln_190_4 c)) (fun _ => rfl) (fun _ => rfl) (fun _ => rfl))
  (sb_cons (s_asg (u_attr (l_name (ln_190_0 c)) (so_193_4 c)) (l_name (ln_190_5 c)) (fun _ => rfl) (fun _ => rfl) (fun _ => rfl))
  (sb_cons (s_asg (u_attr (l_name (ln_190_0 c)) (so_193_5 c)) c_int (fun _ => rfl) (fun _ => rfl) (fun _ => rfl))
  (sb_cons (s_asg (u_attr (l_name (ln_190_0 c)) (so_193_6 c)) (l_name (ln_190_3 c)) (fun _ => rfl) (fun _ => rfl) (fun _ => rfl))
  (sb_cons (s_asg (u_attr (l_name (ln_190_0 c)) (so_193_7 c)) c_int (fun _ => rfl) (fun _ => rfl) (fun _ => rfl))
  (sb_cons (s_asg (u_attr (l_name (ln_190_0 c)) (so_193_8 c)) (b_list es_nil) (fun _ => rfl) (fun _ => rfl) (fun _ => rfl))
  (sb_cons (s_asg (u_attr (l_name (ln_190_0 c)) (so_193_9 c)) (b_list es_nil) (fun _ => rfl) (fun _ => rfl) (fun _ => rfl))
  (sb_cons (s_asg (u_attr (l_name (ln_190_0 c)) (so_193_10 c)) (b_list es_nil) (fun _ => rfl) (fun _ => rfl) (fun _ => rfl))
  sb_nil)))))))))))
noncomputable def F_MatchRun___init__ : FnG := runB [6] 6 6 [] B_MatchRun___init__
theorem ok_MatchRun___init__ (c : Base) : CallOk (cx c) 1 (.ref ((cx c).ga 190)) F_MatchRun___init__ := fn_okK (fk_190 c) (S_MatchRun___init__ c)
theorem kp_193 (c : Base) : keepIn (cx c).K (.ref ((cx c).ga 193)) = true := by kernel_rfl
theorem gv_MatchRun (c : Base) : nsIn (cx c).K mainGlobals "MatchRun" = some (some (.ref 193)) := by kernel_rfl
theorem gn_385_MatchRun (c : Base) : GloName (cx c) (sc_385 c) "MatchRun" (.ref 193) := ⟨gv_MatchRun c, by kernel_rfl, by kernel_rfl⟩
theorem fn_385_MatchRun (c : Base) : FnName (cx c) (sc_385 c) "MatchRun" 193 := ⟨gn_385_MatchRun c, kp_193 c⟩
noncomputable def B_search_pattern : SS := (seqS (asgS (asgL 7) (clsE 193 11 F_MatchRun___init__ (esC (lE 0) (esC (lE 1) (esC (ifE (tE (bE isV (lE 5) (cE .none))) (lE 2) noE) (esC (lE 4) (esC (attrE 419 2 (lE 3)) esN)))))))
  (seqS (asgS (asgA 193 5 (lE 7)) (ifE (tE (bE isV (lE 6) (cE .none))) (cE (.int 0)) (subE (lE 6) (cE (.int 0)))))
  (seqS (asgS (asgL 8) (callE F_row_words esN))
  (seqS (asgS (asgL 9) (lE 2))
  (seqS (whileS (tAnd (tE (bE leV (lE 9) (bltE lenG (esC (lE 1) esN)))) (tAnd (tN (tE (callE F_match_from (esC (lE 7) (esC (lE 8) (esC (lE 9) esN)))))) (tB true)))
  (seqS (augL 9 iaddV (cE (.int 1)))
  nilS) 1000)
  (seqS (ifS (tE (bE isNotV (lE 6) (cE .none)))
  (seqS (asgS (asgI (lE 6) (cE (.int 0))) (attrE 193 5 (lE 7)))
  nilS)
  nilS)
  (seqS (retS (ifE (tE (bE leV (lE 9) (bltE lenG (esC (lE 1) esN)))) (attrE 193 8 (lE 7)) (cE .none)))
  nilS)))))))
theorem S_search_pattern (c : Base) : SoundB (cx c) 7 (sc_385 c) (stOf (cx c).K 385) B_search_pattern := (sb_cons (s_asg (u_name (ln_385_7 c)) (b_cls (fn_385_MatchRun c) (mk_193 c) rfl ((ok_MatchRun___init__ c).up rfl) (es_cons (l_name (ln_385_0 c)) (es_cons (l_name (ln_385_1 c)) (es_cons (b_if (t_cmp (l_name (ln_385_5 c)) c_none bin_is rfl) (l_name (ln_385_2 c)) no_e) (es_cons (l_name (ln_385_4 c)) (es_cons (b_attr (l_name (ln_385_3 c)) (ao_419_2 c) (fun _ => rfl)) es_nil (fun _ => rfl)) (fun _ => rfl)) (fun _ => rfl)) (fun _ => rfl)) (fun _ => rfl)) (fun _ => ⟨rfl, rfl⟩) nilOk_cons (fun _ => rfl)) (fun _ => rfl) (fun _ => rfl) (fun _ => rfl))
  (sb_cons (s_asg (u_attr (l_name (ln_385_7 c)) (so_193_5 c)) (b_if (t_cmp (l_name (ln_385_6 c)) c_none bin_is rfl) c_int (b_sub (l_name (ln_385_6 c)) c_int (fun _ _ => rfl))) (fun _ => rfl) (fun _ => rfl) (fun _ => rfl))
  (sb_cons (s_asg (u_name (ln_385_8 c)) (b_call (fn_385_row_words c) ((ok_row_words c).up rfl) es_nil (fun _ => ⟨rfl, trivial⟩) nilOk_nil (fun _ => rfl)) (fun _ => rfl) (fun _ => rfl) (fun _ => rfl))
  (sb_cons (s_asg (u_name (ln_385_9 c)) (l_name (ln_385_2 c)) (fun _ => rfl) (fun _ => rfl) (fun _ => rfl))
  (sb_cons (s_while 1000 (t_bool (a_and (t_cmp (l_name (ln_385_9 c)) (b_blt (bn_385_len c) f_len (es_cons (l_name (ln_385_1 c)) es_nil (fun _ => rfl)) (fun _ => ⟨rfl, rfl⟩) (fun _ => ⟨rfl, trivial⟩) (fun _ => rfl)) bin_le rfl) (a_and (t_not (t_val (b_call (fn_385_match_from c) ((ok_match_from c).up rfl) (es_cons (l_name (ln_385_7 c)) (es_cons (l_name (ln_385_8 c)) (es_cons (l_name (ln_385_9 c)) es_nil (fun _ => rfl)) (fun _ => rfl)) (fun _ => rfl)) (fun _ => ⟨rfl, rfl⟩) nilOk_cons (fun _ => rfl)) (fun _ _ => rfl))) a_andNil)))
  (sb_cons (s_augL (ln_385_9 c) c_int bin_iadd)
  sb_nil))
  (sb_cons (s_if (t_cmp (l_name (ln_385_6 c)) c_none bin_isNot rfl)
  (sb_cons (s_asg (u_item (l_name (ln_385_6 c)) c_int) (b_attr (l_name (ln_385_7 c)) (ao_193_5 c) (fun _ => rfl)) (fun _ => rfl) (fun _ => rfl) (fun _ => rfl))
  sb_nil)
  sb_nil)
  (sb_cons (s_ret (b_if (t_cmp (l_name (ln_385_9 c)) (b_blt (bn_385_len c) f_len (es_cons (l_name (ln_385_1 c)) es_nil (fun _ => rfl)) (fun _ => ⟨rfl, rfl⟩) (fun _ => ⟨rfl, trivial⟩) (fun _ => rfl)) bin_le rfl) (b_attr (l_name (ln_385_7 c)) (ao_193_8 c) (fun _ => rfl)) c_none))
  sb_nil)))))))
noncomputable def F_search_pattern : FnG := runB [5, 7] 7 10 [.none, .none] B_search_pattern
theorem ok_search_pattern (c : Base) : CallOk (cx c) 8 (.ref ((cx c).ga 385)) F_search_pattern := fn_okK (fk_385 c) (S_search_pattern c)
theorem kp_385 (c : Base) : keepIn (cx c).K (.ref ((cx c).ga 385)) = true := by kernel_rfl
theorem gv_search_pattern (c : Base) : nsIn (cx c).K mainGlobals "search_pattern" = some (some (.ref 385)) := by kernel_rfl
theorem gn_393_search_pattern (c : Base) : GloName (cx c) (sc_393 c) "search_pattern" (.ref 385) := ⟨gv_search_pattern c, by kernel_rfl, by kernel_rfl⟩
theorem fn_393_search_pattern (c : Base) : FnName (cx c) (sc_393 c) "search_pattern" 385 := ⟨gn_393_search_pattern c, kp_385 c⟩
theorem bn_393_len (c : Base) : BltName (cx c) (sc_393 c) "len" (.builtin "len") := ⟨gz_len c, by kernel_rfl, by decide, by kernel_rfl, by kernel_rfl⟩
noncomputable def B_next_match : SS := (seqS (ifS (tE (bE gtV (lE 2) (bltE lenG (esC (lE 1) esN))))
  noS
  nilS)
  (seqS (retS (callE F_search_pattern (esC (lE 0) (esC (lE 1) (esC (lE 2) (esC (lE 4) (esC (ifE (tE (lE 3)) noE (cE (.int 0))) (esC (lE 5) (esC (lE 6) esN)))))))))
  nilS))
theorem S_next_match (c : Base) : SoundB (cx c) 8 (sc_393 c) (stOf (cx c).K 393) B_next_match := (sb_cons (s_if (t_cmp (l_name (ln_393_2 c)) (b_blt (bn_393_len c) f_len (es_cons (l_name (ln_393_1 c)) es_nil (fun _ => rfl)) (fun _ => ⟨rfl, rfl⟩) (fun _ => ⟨rfl, trivial⟩) (fun _ => rfl)) bin_gt rfl)
  no_b
  sb_nil)
  (sb_cons (s_ret (b_call (fn_393_search_pattern c) ((ok_search_pattern c).up rfl) (es_cons (l_name (ln_393_0 c)) (es_cons (l_name (ln_393_1 c)) (es_cons (l_name (ln_393_2 c)) (es_cons (l_name (ln_393_4 c)) (es_cons (b_if (t_val (l_name (ln_393_3 c)) (fun _ _ => rfl)) no_e c_int) (es_cons (l_name (ln_393_5 c)) (es_cons (l_name (ln_393_6 c)) es_nil (fun _ => rfl)) (fun _ => rfl)) (fun _ => rfl)) (fun _ => rfl)) (fun _ => rfl)) (fun _ => rfl)) (fun _ => rfl)) (fun _ => ⟨rfl, rfl⟩) nilOk_cons (fun _ => rfl)))
  sb_nil))
noncomputable def F_next_match : FnG := runB [7] 7 7 [] B_next_match
theorem ok_next_match (c : Base) : CallOk (cx c) 9 (.ref ((cx c).ga 393)) F_next_match := fn_okK (fk_393 c) (S_next_match c)
theorem kp_393 (c : Base) : keepIn (cx c).K (.ref ((cx c).ga 393)) = true := by kernel_rfl
theorem gv_next_match (c : Base) : nsIn (cx c).K mainGlobals "next_match" = some (some (.ref 393)) := by kernel_rfl
theorem gn_401_next_match (c : Base) : GloName (cx c) (sc_401 c) "next_match" (.ref 393) := ⟨gv_next_match c, by kernel_rfl, by kernel_rfl⟩
theorem fn_401_next_match (c : Base) : FnName (cx c) (sc_401 c) "next_match" 393 := ⟨gn_401_next_match c, kp_393 c⟩
theorem ln_401_3 (c : Base) : LocName (sc_401 c) 3 "is_global" := ⟨rfl, by kernel_rfl, by kernel_rfl⟩
theorem ln_401_2 (c : Base) : LocName (sc_401 c) 2 "replace" := ⟨rfl, by kernel_rfl, by kernel_rfl⟩
noncomputable def sc_k0 (c : Base) : Sc := ⟨((cx c).cd 0).scope, ["groups"], ((cx c).cd 0).fv, fun _ => True⟩
theorem cn_k0_1 (c : Base) : CelName (sc_k0 c) 1 "found" := ⟨rfl, by kernel_rfl, by kernel_rfl, by kernel_rfl⟩
theorem ln_k0_0 (c : Base) : LocName (sc_k0 c) 0 "groups" := ⟨rfl, by kernel_rfl, by kernel_rfl⟩
theorem cn_k0_0 (c : Base) : CelName (sc_k0 c) 0 "word" := ⟨rfl, by kernel_rfl, by kernel_rfl, by kernel_rfl⟩
noncomputable def B_k0 : SS := (seqS (retS (ifE (tE (bE eqV (subE (subE (ceE 1) (cE (.int (-1)))) (subE (subE (lE 0) (cE (.int 0))) (cE (.int 0)))) (cE (.str [97])))) (cE (.str [97, 98])) (ceE 0)))
  nilS)
theorem S_k0 (c : Base) : SoundB (cx c) 0 (sc_k0 c) ((cx c).cd 0).body B_k0 := (sb_cons (s_ret (b_if (t_cmp (b_sub (b_sub (ce_name (cn_k0_1 c)) b_neg (fun _ _ => rfl)) (b_sub (b_sub (l_name (ln_k0_0 c)) c_int (fun _ _ => rfl)) c_int (fun _ _ => rfl)) (fun _ _ => rfl)) (c_str (by kernel_rfl)) bin_eq rfl) (c_str (by kernel_rfl)) (ce_name (cn_k0_0 c))))
  sb_nil)
noncomputable def F_k0 : CloG := runK 1 1 B_k0
theorem fk_k0 (c : Base) : FnKK (cx c) 0 ["groups"] ["groups"] where
  bind := fun _ _ _ _ _ S ws h => by obtain ⟨w0, rfl⟩ := len1 h; kernel_rfl
  pre := ⟨[], rfl⟩
  nd := by decide
  ndf := by
    have h : ((cx c).cd 0).fv = (["word", "found"] : List Str) := by kernel_rfl
    rw [h]; decide
  loc := by kernel_rfl
  cell := by kernel_rfl
  co := by kernel_rfl
  gen := by kernel_rfl
  kind := by kernel_rfl
theorem ok_k0 (c : Base) : CloOk (cx c) 1 0 F_k0 := clo_okK (fk_k0 c) (S_k0 c)
noncomputable def sc_k1 (c : Base) : Sc := ⟨((cx c).cd 1).scope, ["groups"], ((cx c).cd 1).fv, fun _ => True⟩
theorem cn_k1_0 (c : Base) : CelName (sc_k1 c) 0 "words" := ⟨rfl, by kernel_rfl, by kernel_rfl, by kernel_rfl⟩
theorem cn_k1_1 (c : Base) : CelName (sc_k1 c) 1 "at" := ⟨rfl, by kernel_rfl, by kernel_rfl, by kernel_rfl⟩
theorem ln_k1_0 (c : Base) : LocName (sc_k1 c) 0 "groups" := ⟨rfl, by kernel_rfl, by kernel_rfl⟩
noncomputable def B_k1 : SS := (seqS (retS (ifE (tE (bE eqV (subE (subE (ceE 0) (ceE 1)) (subE (subE (lE 0) (cE (.int 0))) (cE (.int 0)))) (cE (.str [97])))) (cE (.str [98])) (cE (.str [97]))))
  nilS)
theorem S_k1 (c : Base) : SoundB (cx c) 0 (sc_k1 c) ((cx c).cd 1).body B_k1 := (sb_cons (s_ret (b_if (t_cmp (b_sub (b_sub (ce_name (cn_k1_0 c)) (ce_name (cn_k1_1 c)) (fun _ _ => rfl)) (b_sub (b_sub (l_name (ln_k1_0 c)) c_int (fun _ _ => rfl)) c_int (fun _ _ => rfl)) (fun _ _ => rfl)) (c_str (by kernel_rfl)) bin_eq rfl) (c_str (by kernel_rfl)) (c_str (by kernel_rfl))))
  sb_nil)
noncomputable def F_k1 : CloG := runK 1 1 B_k1
theorem fk_k1 (c : Base) : FnKK (cx c) 1 ["groups"] ["groups"] where
  bind := fun _ _ _ _ _ S ws h => by obtain ⟨w0, rfl⟩ := len1 h; kernel_rfl
  pre := ⟨[], rfl⟩
  nd := by decide
  ndf := by
    have h : ((cx c).cd 1).fv = (["words", "at"] : List Str) := by kernel_rfl
    rw [h]; decide
  loc := by kernel_rfl
  cell := by kernel_rfl
  co := by kernel_rfl
  gen := by kernel_rfl
  kind := by kernel_rfl
theorem ok_k1 (c : Base) : CloOk (cx c) 1 1 F_k1 := clo_okK (fk_k1 c) (S_k1 c)
noncomputable def cloT : Nat → Option CloG := fun n => ([(0, F_k0), (1, F_k1)] : List (Nat × CloG)).lookup n
theorem clo_ok (c : Base) : CloTab (cx c) 1 cloT := (clo_cons (ok_k0 c) (clo_cons (ok_k1 c) clo_nil))
noncomputable def cloD : Nat → Option FnG := tabOf []
theorem ln_401_5 (c : Base) : LocName (sc_401 c) 5 "begin" := ⟨rfl, by kernel_rfl, by kernel_rfl⟩
noncomputable def B_substitute : SS := (seqS (asgS (asgL 6) (listE esN))
  (seqS (asgS (asgL 7) (cE (.int 0)))
  (seqS (asgS (asgL 8) (cE (.int 0)))
  (seqS (asgS (asgL 9) (listE (esC (cE (.int 0)) esN)))
  (seqS (asgS (asgL 10) (callE F_next_match (esC (lE 0) (esC (lE 1) (esC (cE (.int 0)) (esC (cE (.bool false)) (esC (lE 4) (esC (lE 5) (esC (lE 9) esN)))))))))
  (seqS (whileS (tE (bE isNotV (lE 10) (cE .none)))
  (seqS (asgS (asgT [11, 12]) (subE (lE 10) (cE (.int 0))))
  (seqS (augL 8 iaddV (cE (.int 1)))
  (seqS (exprS (appendE (lE 6) (sliE (lE 1) (partE (lE 7)) (partE (lE 11)))))
  (seqS (exprS (appendE (lE 6) (dyn2E cloD cloT (lE 2) (esC (lE 10) esN))))
  (seqS (asgS (asgL 7) (lE 12))
  (seqS (ifS (tN (tE (lE 3)))
  noS
  nilS)
  (seqS (asgS (asgL 10) (callE F_next_match (esC (lE 0) (esC (lE 1) (esC (lE 12) (esC (bE eqV (lE 11) (lE 12)) (esC (lE 4) (esC (cE .none) (esC (lE 9) esN)))))))))
  nilS))))))) 1000)
  (seqS (retS (tupE (esC (bE addV (joinE (cE (.str [])) (lE 6)) (sliE (lE 1) (partE (lE 7)) partN)) (esC (lE 8) esN))))
  nilS)))))))
theorem S_substitute (c : Base) : SoundB (cx c) 9 (sc_401 c) (stOf (cx c).K 401) B_substitute := (sb_cons (s_asg (u_name (ln_401_6 c)) (b_list es_nil) (fun _ => rfl) (fun _ => rfl) (fun _ => rfl))
  (sb_cons (s_asg (u_name (ln_401_7 c)) c_int (fun _ => rfl) (fun _ => rfl) (fun _ => rfl))
  (sb_cons (s_asg (u_name (ln_401_8 c)) c_int (fun _ => rfl) (fun _ => rfl) (fun _ => rfl))
  (sb_cons (s_asg (u_name (ln_401_9 c)) (b_list (es_cons c_int es_nil (fun _ => rfl))) (fun _ => rfl) (fun _ => rfl) (fun _ => rfl))
  (sb_cons (s_asg (u_name (ln_401_10 c)) (b_call (fn_401_next_match c) ((ok_next_match c).up rfl) (es_cons (l_name (ln_401_0 c)) (es_cons (l_name (ln_401_1 c)) (es_cons c_int (es_cons c_bool (es_cons (l_name (ln_401_4 c)) (es_cons (l_name (ln_401_5 c)) (es_cons (l_name (ln_401_9 c)) es_nil (fun _ => rfl)) (fun _ => rfl)) (fun _ => rfl)) (fun _ => rfl)) (fun _ => rfl)) (fun _ => rfl)) (fun _ => rfl)) (fun _ => ⟨rfl, rfl⟩) nilOk_cons (fun _ => rfl)) (fun _ => rfl) (fun _ => rfl) (fun _ => rfl))
  (sb_cons (s_while 1000 (t_cmp (l_name (ln_401_10 c)) c_none bin_isNot rfl)
  (sb_cons (s_asg (u_tup (.cons (ln_401_11 c) (.cons (ln_401_12 c) .nil))) (b_sub (l_name (ln_401_10 c)) c_int (fun _ _ => rfl)) (fun _ => rfl) (fun _ => rfl) (fun _ => rfl))
  (sb_cons (s_augL (ln_401_8 c) c_int bin_iadd)
  (sb_cons (s_expr (b_append (l_name (ln_401_6 c)) (b_slice (l_name (ln_401_1 c)) (p_some (l_name (ln_401_7 c))) (p_some (l_name (ln_401_11 c))) (fun _ _ => rfl) (fun _ _ => rfl)) (fun _ => ⟨rfl, rfl⟩) (fun _ => rfl)) (fun _ => rfl))
  (sb_cons (s_expr (b_append (l_name (ln_401_6 c)) (b_dyn2 (l_name (ln_401_2 c)) tab_nil ((clo_ok c).up rfl) (es_cons (l_name (ln_401_10 c)) es_nil (fun _ => rfl)) (fun _ => ⟨rfl, rfl⟩) nilOk_cons (fun _ => rfl)) (fun _ => ⟨rfl, rfl⟩) (fun _ => rfl)) (fun _ => rfl))
  (sb_cons (s_asg (u_name (ln_401_7 c)) (l_name (ln_401_12 c)) (fun _ => rfl) (fun _ => rfl) (fun _ => rfl))
  (sb_cons (s_if (t_not (t_val (l_name (ln_401_3 c)) (fun _ _ => rfl)))
  no_b
  sb_nil)
  (sb_cons (s_asg (u_name (ln_401_10 c)) (b_call (fn_401_next_match c) ((ok_next_match c).up rfl) (es_cons (l_name (ln_401_0 c)) (es_cons (l_name (ln_401_1 c)) (es_cons (l_name (ln_401_12 c)) (es_cons (b_cmp (l_name (ln_401_11 c)) (l_name (ln_401_12 c)) bin_eq rfl) (es_cons (l_name (ln_401_4 c)) (es_cons c_none (es_cons (l_name (ln_401_9 c)) es_nil (fun _ => rfl)) (fun _ => rfl)) (fun _ => rfl)) (fun _ => rfl)) (fun _ => rfl)) (fun _ => rfl)) (fun _ => rfl)) (fun _ => ⟨rfl, rfl⟩) nilOk_cons (fun _ => rfl)) (fun _ => rfl) (fun _ => rfl) (fun _ => rfl))
  sb_nil))))))))
  (sb_cons (s_ret (b_tup (es_cons (b_op (b_join (c_str (by kernel_rfl)) (l_name (ln_401_6 c)) (fun _ => ⟨rfl, rfl⟩) (fun _ => rfl)) (b_slice (l_name (ln_401_1 c)) (p_some (l_name (ln_401_7 c))) p_none (fun _ _ => rfl) (fun _ _ => rfl)) bin_add) (es_cons (l_name (ln_401_8 c)) es_nil (fun _ => rfl)) (fun _ => rfl))))
  sb_nil)))))))
noncomputable def F_substitute : FnG := gcG (runB [5] 6 13 [.none] B_substitute)
theorem ok_substitute (c : Base) : CallOk (cx c) 10 (.ref ((cx c).ga 401)) F_substitute := gc_ok (fn_okK (fk_401 c) (S_substitute c))
theorem kp_401 (c : Base) : keepIn (cx c).K (.ref ((cx c).ga 401)) = true := by kernel_rfl
theorem gv_substitute (c : Base) : nsIn (cx c).K mainGlobals "substitute" = some (some (.ref 401)) := by kernel_rfl
theorem gn_880_substitute (c : Base) : GloName (cx c) (sc_880 c) "substitute" (.ref 401) := ⟨gv_substitute c, by kernel_rfl, by kernel_rfl⟩
theorem fn_880_substitute (c : Base) : FnName (cx c) (sc_880 c) "substitute" 401 := ⟨gn_880_substitute c, kp_401 c⟩
theorem bn_880_range (c : Base) : BltName (cx c) (sc_880 c) "range" (.type "range") := ⟨gz_range c, by kernel_rfl, by decide, by kernel_rfl, by kernel_rfl⟩
theorem ln_880_2 (c : Base) : LocName (sc_880 c) 2 "goes" := ⟨rfl, by kernel_rfl, by kernel_rfl⟩
theorem co_880_0 (c : Base) : CelOwn (sc_880 c) 0 "found" := ⟨rfl, by kernel_rfl⟩
theorem ln_880_1 (c : Base) : LocName (sc_880 c) 1 "begun" := ⟨rfl, by kernel_rfl, by kernel_rfl⟩
noncomputable def B__law_grown : SS := (seqS (defS 0 0 [1, 0] (asgL 3))
  (seqS (asgS (asgC 0) (listE (esC (lE 1) esN)))
  (seqS (forRS (cE (.int 0)) (lE 2) (asgL 4)
  (seqS (gcS (exprS (appendE (ceE 0) (subE (callE F_substitute (esC (lE 0) (esC (subE (ceE 0) (cE (.int (-1)))) (esC (lE 3) (esC (cE (.bool true)) (esC (clsE 419 5 F_Limits___init__ esN) esN)))))) (cE (.int 0))))))
  nilS) 1000)
  (seqS (retS (ceE 0))
  nilS))))
theorem S__law_grown (c : Base) : SoundB (cx c) 10 (sc_880 c) (stOf (cx c).K 880) B__law_grown := (sb_cons (s_def (ln_880_3 c) (fun _ h => h) (by kernel_rfl) (by kernel_rfl) rfl rfl (fun _ => rfl))
  (sb_cons (s_asg (u_cell (co_880_0 c)) (b_list (es_cons (l_name (ln_880_1 c)) es_nil (fun _ => rfl))) (fun _ => rfl) (fun _ => rfl) (fun _ => rfl))
  (sb_cons (s_for1 1000 (bn_880_range c) (l_name (ln_880_2 c)) (u_name (ln_880_4 c))
  (sb_cons (gc_s (s_expr (b_append (ce_name (cn_880_0 c)) (b_sub (b_call (fn_880_substitute c) ((ok_substitute c).up rfl) (es_cons (l_name (ln_880_0 c)) (es_cons (b_sub (ce_name (cn_880_0 c)) b_neg (fun _ _ => rfl)) (es_cons (l_name (ln_880_3 c)) (es_cons c_bool (es_cons (b_cls (fn_880_Limits c) (mk_419 c) rfl ((ok_Limits___init__ c).up rfl) es_nil (fun _ => ⟨rfl, trivial⟩) nilOk_nil (fun _ => rfl)) es_nil (fun _ => rfl)) (fun _ => rfl)) (fun _ => rfl)) (fun _ => rfl)) (fun _ => rfl)) (fun _ => ⟨rfl, rfl⟩) nilOk_cons (fun _ => rfl)) c_int (fun _ _ => rfl)) (fun _ => ⟨rfl, rfl⟩) (fun _ => rfl)) (fun _ => rfl)))
  sb_nil) (.inl (fun _ _ => rfl)) (fun _ _ => rfl) (fun _ => ⟨rfl, rfl⟩) (fun _ => rfl))
  (sb_cons (s_ret (ce_name (cn_880_0 c)))
  sb_nil))))
theorem fk_880 (c : Base) : FnKC (cx c) 880 ["letter", "word", "begun", "goes"] ["letter", "begun", "goes", "other", "turn"] ["found", "word"] [some 0, some 2, some 3, none, none] [none, some 1] where
  at_ := by kernel_rfl
  isF := ⟨by kernel_rfl, by kernel_rfl, by kernel_rfl, by kernel_rfl⟩
  code := by kernel_rfl
  bind := (one_ar (fun S ws h => by obtain ⟨w0, w1, w2, w3, rfl⟩ := len4 h; kernel_rfl))
  nd := by decide
  ndp := by decide
  ndc := by decide
  loc := by kernel_rfl
  nsl := by kernel_rfl
  cnl := by kernel_rfl
  cel := by kernel_rfl
  ls := by decide
  cs := by decide
  co := by kernel_rfl
  gen := by kernel_rfl
  kind := by kernel_rfl
noncomputable def F__law_grown : FnG := runC 4 [some 0, some 2, some 3, none, none] [none, some 1] B__law_grown
theorem ok__law_grown (c : Base) : CallOk (cx c) 11 (.ref ((cx c).ga 880)) F__law_grown := fn_okC (fk_880 c) (S__law_grown c) (fun L => ⟨L, 880, cellsFrom (L + 1) (fdOf (cx c).K 880).scope.names [], by kernel_rfl⟩)
theorem kp_880 (c : Base) : keepIn (cx c).K (.ref ((cx c).ga 880)) = true := by kernel_rfl
theorem gv__law_grown (c : Base) : nsIn (cx c).K mainGlobals "_law_grown" = some (some (.ref 880)) := by kernel_rfl
theorem gn_899__law_grown (c : Base) : GloName (cx c) (sc_899 c) "_law_grown" (.ref 880) := ⟨gv__law_grown c, by kernel_rfl, by kernel_rfl⟩
theorem fn_899__law_grown (c : Base) : FnName (cx c) (sc_899 c) "_law_grown" 880 := ⟨gn_899__law_grown c, kp_880 c⟩
noncomputable def B_law_3 (xs : List Int) : SS := (asgS (asgC 0) (callE F__law_grown (esC (lE 4) (esC (cE (.str [98, 97])) (esC (lE 3) (esC (lE 1) esN))))))
theorem co_899_2 (c : Base) : CelOwn (sc_899 c) 2 "turned" := ⟨rfl, by kernel_rfl⟩
noncomputable def B_law_4 (xs : List Int) : SS := (asgS (asgC 2) (ifE (tE (bE eqV (lE 3) (cE (.str [98])))) (cE (.str [98, 97])) (cE (.str [97, 98]))))
theorem cn_899_0 (c : Base) : CelName (sc_899 c) 0 "words" := ⟨rfl, by kernel_rfl, by kernel_rfl, by kernel_rfl⟩
noncomputable abbrev cs_899m0 : Scope := { kind := .function, names := [(".0", .local), ("place", .local), ("int", .globalImplicit), ("_law_odd", .globalImplicit), ("turned", .free)], isGenerator := false, isCoroutine := false, more := [] }
noncomputable def sc_899m0 (c : Base) : Sc := ⟨relS cs_899m0 (sc_899 c).cs, ["place"], ["turned"], fun _ => True⟩
theorem cp_899m0 (c : Base) : CompOk (sc_899 c) (sc_899m0 c) cs_899m0 "place" [2] := ⟨rfl, rfl, by kernel_rfl, by kernel_rfl, by decide, fun _ => trivial, rfl, by kernel_rfl, by kernel_rfl, by kernel_rfl, by kernel_rfl⟩
theorem cn_899m0_0 (c : Base) : CelName (sc_899m0 c) 0 "turned" := ⟨rfl, by kernel_rfl, by kernel_rfl, by kernel_rfl⟩
theorem ln_899m0_0 (c : Base) : LocName (sc_899m0 c) 0 "place" := ⟨rfl, by kernel_rfl, by kernel_rfl⟩
noncomputable def sc_887 (c : Base) : Sc := ⟨(fdOf (cx c).K 887).scope, ["place", "ones"], [], fun _ => True⟩
theorem fk_887 (c : Base) : FnK (cx c) 887 ["place"] ["place", "ones"] [1] [] where
  at_ := by kernel_rfl
  isF := ⟨by kernel_rfl, by kernel_rfl, by kernel_rfl, by kernel_rfl⟩
  code := by kernel_rfl
  bind := bindD (ds := []) (fun _ _ => .nil) (one_ar (fun S ws h => by obtain ⟨w0, rfl⟩ := len1 h; kernel_rfl))
  ars := by decide
  pre := ⟨["ones"], rfl⟩
  nd := by decide
  loc := by kernel_rfl
  cell := by kernel_rfl
  co := by kernel_rfl
  gen := by kernel_rfl
  kind := by kernel_rfl
theorem ln_887_1 (c : Base) : LocName (sc_887 c) 1 "ones" := ⟨rfl, by kernel_rfl, by kernel_rfl⟩
theorem ln_887_0 (c : Base) : LocName (sc_887 c) 0 "place" := ⟨rfl, by kernel_rfl, by kernel_rfl⟩
noncomputable def B__law_odd : SS := (seqS (asgS (asgL 1) (cE (.int 0)))
  (seqS (whileS (tE (bE gtV (lE 0) (cE (.int 0))))
  (seqS (swapS [1, 0] (esC (bE addV (lE 1) (bE modV (lE 0) (cE (.int 2)))) (esC (bE divV (lE 0) (cE (.int 2))) esN)))
  nilS) 1000)
  (seqS (retS (bE eqV (bE modV (lE 1) (cE (.int 2))) (cE (.int 1))))
  nilS)))
theorem S__law_odd (c : Base) : SoundB (cx c) 0 (sc_887 c) (stOf (cx c).K 887) B__law_odd := (sb_cons (s_asg (u_name (ln_887_1 c)) c_int (fun _ => rfl) (fun _ => rfl) (fun _ => rfl))
  (sb_cons (s_while 1000 (t_cmp (l_name (ln_887_0 c)) c_int bin_gt rfl)
  (sb_cons (s_swap (.cons (ln_887_1 c) (.cons (ln_887_0 c) .nil)) (es_cons (b_op (l_name (ln_887_1 c)) (b_op (l_name (ln_887_0 c)) c_int bin_mod) bin_add) (es_cons (b_op (l_name (ln_887_0 c)) c_int bin_div) es_nil (fun _ => rfl)) (fun _ => rfl)) (fun _ => rfl) (fun _ => by kernel_rfl))
  sb_nil))
  (sb_cons (s_ret (b_cmp (b_op (l_name (ln_887_1 c)) c_int bin_mod) c_int bin_eq rfl))
  sb_nil)))
noncomputable def F__law_odd : FnG := runB [1] 1 2 [] B__law_odd
theorem ok__law_odd (c : Base) : CallOk (cx c) 1 (.ref ((cx c).ga 887)) F__law_odd := fn_okK (fk_887 c) (S__law_odd c)
theorem kp_887 (c : Base) : keepIn (cx c).K (.ref ((cx c).ga 887)) = true := by kernel_rfl
theorem gv__law_odd (c : Base) : nsIn (cx c).K mainGlobals "_law_odd" = some (some (.ref 887)) := by kernel_rfl
theorem gn_899m0__law_odd (c : Base) : GloName (cx c) (sc_899m0 c) "_law_odd" (.ref 887) := ⟨gv__law_odd c, by kernel_rfl, by kernel_rfl⟩
theorem fn_899m0__law_odd (c : Base) : FnName (cx c) (sc_899m0 c) "_law_odd" 887 := ⟨gn_899m0__law_odd c, kp_887 c⟩
theorem gz_int (c : Base) : nsIn (cx c).K mainGlobals "int" = some none := by kernel_rfl
theorem bn_899m0_int (c : Base) : BltName (cx c) (sc_899m0 c) "int" (.type "int") := ⟨gz_int c, by kernel_rfl, by decide, by kernel_rfl, by kernel_rfl⟩
theorem bn_899_range (c : Base) : BltName (cx c) (sc_899 c) "range" (.type "range") := ⟨gz_range c, by kernel_rfl, by decide, by kernel_rfl, by kernel_rfl⟩
noncomputable def B_law_5 (xs : List Int) : SS := (junkS [4] (gcS (ifS (tE (bE neV (subE (ceE 0) (cE (.int (-1)))) (joinE (cE (.str [])) (compR (cE (.int 0)) (bE powV (cE (.int 2)) (lE 1)) tTrue (subE (ceE 0) (bltE intG (esC (callE F__law_odd (esC (lE 0) esN)) esN))) [2] 1000))))
  noS
  nilS)))
theorem ln_899_6 (c : Base) : LocName (sc_899 c) 6 "other" := ⟨rfl, by kernel_rfl, by kernel_rfl⟩
noncomputable def B_law_6 (xs : List Int) : SS := (defS 1 1 [0, 1] (asgL 6))
theorem co_899_1 (c : Base) : CelOwn (sc_899 c) 1 "at" := ⟨rfl, by kernel_rfl⟩
theorem cn_899_1 (c : Base) : CelName (sc_899 c) 1 "at" := ⟨rfl, by kernel_rfl, by kernel_rfl, by kernel_rfl⟩
theorem gn_899_Limits (c : Base) : GloName (cx c) (sc_899 c) "Limits" (.ref 419) := ⟨gv_Limits c, by kernel_rfl, by kernel_rfl⟩
theorem fn_899_Limits (c : Base) : FnName (cx c) (sc_899 c) "Limits" 419 := ⟨gn_899_Limits c, kp_419 c⟩
theorem gn_899_substitute (c : Base) : GloName (cx c) (sc_899 c) "substitute" (.ref 401) := ⟨gv_substitute c, by kernel_rfl, by kernel_rfl⟩
theorem fn_899_substitute (c : Base) : FnName (cx c) (sc_899 c) "substitute" 401 := ⟨gn_899_substitute c, kp_401 c⟩
noncomputable def B_law_f7_0 (xs : List Int) : SS := (gcS (ifS (tE (bE neV (subE (ceE 0) (bE addV (ceE 1) (cE (.int 1)))) (bE addV (subE (ceE 0) (ceE 1)) (subE (callE F_substitute (esC (lE 4) (esC (subE (ceE 0) (ceE 1)) (esC (lE 6) (esC (cE (.bool true)) (esC (clsE 419 5 F_Limits___init__ esN) esN)))))) (cE (.int 0))))))
  noS
  nilS))
noncomputable def B_law_f7 (xs : List Int) : SS := (seqS (B_law_f7_0 xs) nilS)
noncomputable def B_law_7 (xs : List Int) : SS := (dropS [1] (junkS [3] (forRS (cE (.int 0)) (lE 1) (asgC 1)
  (B_law_f7 xs) 1000)))
theorem gn_899_search_pattern (c : Base) : GloName (cx c) (sc_899 c) "search_pattern" (.ref 385) := ⟨gv_search_pattern c, by kernel_rfl, by kernel_rfl⟩
theorem fn_899_search_pattern (c : Base) : FnName (cx c) (sc_899 c) "search_pattern" 385 := ⟨gn_899_search_pattern c, kp_385 c⟩
noncomputable def B_law_8 (xs : List Int) : SS := (junkS [40] (gcS (ifS (tE (bE isNotV (callE F_search_pattern (esC (lE 5) (esC (subE (ceE 0) (cE (.int (-1)))) (esC (cE (.int 0)) (esC (clsE 419 5 F_Limits___init__ esN) (esC (cE (.int 0)) esN)))))) (cE .none)))
  noS
  nilS)))
noncomputable def B_law_9 (xs : List Int) : SS := (dropS [2] (asgS (asgC 0) (callE F__law_grown (esC (lE 4) (esC (cE (.str [97])) (esC (lE 3) (esC (lE 2) esN)))))))
noncomputable abbrev cs_899m1 : Scope := { kind := .function, names := [(".0", .local), ("at", .local), ("words", .free)], isGenerator := false, isCoroutine := false, more := [] }
noncomputable def sc_899m1 (c : Base) : Sc := ⟨relS cs_899m1 (sc_899 c).cs, ["at"], ["words"], fun _ => True⟩
theorem cp_899m1 (c : Base) : CompOk (sc_899 c) (sc_899m1 c) cs_899m1 "at" [0] := ⟨rfl, rfl, by kernel_rfl, by kernel_rfl, by decide, fun _ => trivial, rfl, by kernel_rfl, by kernel_rfl, by kernel_rfl, by kernel_rfl⟩
theorem cn_899m1_0 (c : Base) : CelName (sc_899m1 c) 0 "words" := ⟨rfl, by kernel_rfl, by kernel_rfl, by kernel_rfl⟩
theorem ln_899m1_0 (c : Base) : LocName (sc_899m1 c) 0 "at" := ⟨rfl, by kernel_rfl, by kernel_rfl⟩
theorem bn_899_len (c : Base) : BltName (cx c) (sc_899 c) "len" (.builtin "len") := ⟨gz_len c, by kernel_rfl, by decide, by kernel_rfl, by kernel_rfl⟩
noncomputable def B_law_10 (xs : List Int) : SS := (dropS [3] (gcS (ifS (tOr (tE (hE neL (compR (cE (.int 2)) (bltE lenG (esC (ceE 0) esN)) (tE (bE neV (subE (ceE 0) (lE 0)) (bE addV (subE (ceE 0) (bE subV (lE 0) (cE (.int 1)))) (subE (ceE 0) (bE subV (lE 0) (cE (.int 2))))))) noE [0] 1000) (listE esN))) (tOr (tE (bE neV (subE (ceE 0) (cE (.int 0))) (lE 3))) (tB false)))
  noS
  nilS)))
noncomputable def B_law_11 (xs : List Int) : SS := (dropS [4, 6] (junkS [2, 37, 38, 39, 41, 42, 43, 44, 45] (gcS (ifS (tE (bE isNotV (callE F_search_pattern (esC (callE F_compile_pattern (esC (cE (.str [98, 98, 124, 97, 97, 97])) (esC (cE (.str [])) esN))) (esC (subE (ceE 0) (cE (.int (-1)))) (esC (cE (.int 0)) (esC (clsE 419 5 F_Limits___init__ esN) (esC (cE (.int 0)) esN)))))) (cE .none)))
  noS
  nilS))))
theorem ln_899_7 (c : Base) : LocName (sc_899 c) 7 "word" := ⟨rfl, by kernel_rfl, by kernel_rfl⟩
noncomputable abbrev cs_899m2 : Scope := { kind := .function, names := [(".0", .local), ("turn", .local), ("_law_shake", .globalImplicit), ("tree", .free)], isGenerator := false, isCoroutine := false, more := [] }
noncomputable def sc_899m2 (c : Base) : Sc := ⟨relS cs_899m2 (sc_899 c).cs, ["turn"], ["tree"], fun _ => True⟩
theorem cp_899m2 (c : Base) : CompOk (sc_899 c) (sc_899m2 c) cs_899m2 "turn" [3] := ⟨rfl, rfl, by kernel_rfl, by kernel_rfl, by decide, fun _ => trivial, rfl, by kernel_rfl, by kernel_rfl, by kernel_rfl, by kernel_rfl⟩
theorem cn_899m2_0 (c : Base) : CelName (sc_899m2 c) 0 "tree" := ⟨rfl, by kernel_rfl, by kernel_rfl, by kernel_rfl⟩
theorem gn_899m2__law_shake (c : Base) : GloName (cx c) (sc_899m2 c) "_law_shake" (.ref 873) := ⟨gv__law_shake c, by kernel_rfl, by kernel_rfl⟩
theorem fn_899m2__law_shake (c : Base) : FnName (cx c) (sc_899m2 c) "_law_shake" 873 := ⟨gn_899m2__law_shake c, kp_873 c⟩
noncomputable def B_law_12 (xs : List Int) : SS := (junkS [46] (asgS (asgL 7) (joinE (cE (.str [])) (compR (cE (.int 0)) (callE F__law_shake (esC (ceE 3) (esC (cE (.int 7)) esN))) tTrue (subE (cE (.str [97, 98])) (callE F__law_shake (esC (ceE 0) (esC (cE (.int 2)) esN)))) [3] 1000))))
noncomputable def sc_894 (c : Base) : Sc := ⟨(fdOf (cx c).K 894).scope, ["word", "begin", "size", "part"], [], fun _ => True⟩
theorem fk_894 (c : Base) : FnK (cx c) 894 ["word"] ["word", "begin", "size", "part"] [1] [] where
  at_ := by kernel_rfl
  isF := ⟨by kernel_rfl, by kernel_rfl, by kernel_rfl, by kernel_rfl⟩
  code := by kernel_rfl
  bind := bindD (ds := []) (fun _ _ => .nil) (one_ar (fun S ws h => by obtain ⟨w0, rfl⟩ := len1 h; kernel_rfl))
  ars := by decide
  pre := ⟨["begin", "size", "part"], rfl⟩
  nd := by decide
  loc := by kernel_rfl
  cell := by kernel_rfl
  co := by kernel_rfl
  gen := by kernel_rfl
  kind := by kernel_rfl
theorem ln_894_1 (c : Base) : LocName (sc_894 c) 1 "begin" := ⟨rfl, by kernel_rfl, by kernel_rfl⟩
theorem ln_894_2 (c : Base) : LocName (sc_894 c) 2 "size" := ⟨rfl, by kernel_rfl, by kernel_rfl⟩
theorem ln_894_0 (c : Base) : LocName (sc_894 c) 0 "word" := ⟨rfl, by kernel_rfl, by kernel_rfl⟩
theorem bn_894_len (c : Base) : BltName (cx c) (sc_894 c) "len" (.builtin "len") := ⟨gz_len c, by kernel_rfl, by decide, by kernel_rfl, by kernel_rfl⟩
theorem ln_894_3 (c : Base) : LocName (sc_894 c) 3 "part" := ⟨rfl, by kernel_rfl, by kernel_rfl⟩
theorem bn_894_range (c : Base) : BltName (cx c) (sc_894 c) "range" (.type "range") := ⟨gz_range c, by kernel_rfl, by decide, by kernel_rfl, by kernel_rfl⟩
noncomputable def B__law_has_thrice : SS := (seqS (forRS (cE (.int 0)) (bltE lenG (esC (lE 0) esN)) (asgL 1)
  (seqS (forRS (cE (.int 1)) (bE addV (bE divV (bltE lenG (esC (lE 0) esN)) (cE (.int 3))) (cE (.int 1))) (asgL 2)
  (seqS (asgS (asgL 3) (sliE (lE 0) (partE (lE 1)) (partE (bE addV (lE 1) (lE 2)))))
  (seqS (ifS (tAnd (tE (bE eqV (sliE (lE 0) (partE (lE 1)) (partE (bE addV (lE 1) (bE mulV (cE (.int 3)) (lE 2))))) (bE mulV (lE 3) (cE (.int 3))))) (tAnd (tE (bE leV (bE addV (lE 1) (bE mulV (cE (.int 3)) (lE 2))) (bltE lenG (esC (lE 0) esN)))) (tB true)))
  (seqS (retS (cE (.bool true)))
  nilS)
  nilS)
  nilS)) 1000)
  nilS) 1000)
  (seqS (retS (cE (.bool false)))
  nilS))
theorem S__law_has_thrice (c : Base) : SoundB (cx c) 0 (sc_894 c) (stOf (cx c).K 894) B__law_has_thrice := (sb_cons (s_for1 1000 (bn_894_range c) (b_blt (bn_894_len c) f_len (es_cons (l_name (ln_894_0 c)) es_nil (fun _ => rfl)) (fun _ => ⟨rfl, rfl⟩) (fun _ => ⟨rfl, trivial⟩) (fun _ => rfl)) (u_name (ln_894_1 c))
  (sb_cons (s_for2 1000 (bn_894_range c) c_int (b_op (b_op (b_blt (bn_894_len c) f_len (es_cons (l_name (ln_894_0 c)) es_nil (fun _ => rfl)) (fun _ => ⟨rfl, rfl⟩) (fun _ => ⟨rfl, trivial⟩) (fun _ => rfl)) c_int bin_div) c_int bin_add) (u_name (ln_894_2 c))
  (sb_cons (s_asg (u_name (ln_894_3 c)) (b_slice (l_name (ln_894_0 c)) (p_some (l_name (ln_894_1 c))) (p_some (b_op (l_name (ln_894_1 c)) (l_name (ln_894_2 c)) bin_add)) (fun _ _ => rfl) (fun _ _ => rfl)) (fun _ => rfl) (fun _ => rfl) (fun _ => rfl))
  (sb_cons (s_if (t_bool (a_and (t_cmp (b_slice (l_name (ln_894_0 c)) (p_some (l_name (ln_894_1 c))) (p_some (b_op (l_name (ln_894_1 c)) (b_op c_int (l_name (ln_894_2 c)) bin_mul) bin_add)) (fun _ _ => rfl) (fun _ _ => rfl)) (b_op (l_name (ln_894_3 c)) c_int bin_mul) bin_eq rfl) (a_and (t_cmp (b_op (l_name (ln_894_1 c)) (b_op c_int (l_name (ln_894_2 c)) bin_mul) bin_add) (b_blt (bn_894_len c) f_len (es_cons (l_name (ln_894_0 c)) es_nil (fun _ => rfl)) (fun _ => ⟨rfl, rfl⟩) (fun _ => ⟨rfl, trivial⟩) (fun _ => rfl)) bin_le rfl) a_andNil)))
  (sb_cons (s_ret c_bool)
  sb_nil)
  sb_nil)
  sb_nil)) (.inl (fun _ _ => rfl)) (fun _ _ => rfl) (fun _ => ⟨rfl, rfl⟩) (fun _ => ⟨rfl, rfl⟩) (fun _ => rfl))
  sb_nil) (.inl (fun _ _ => rfl)) (fun _ _ => rfl) (fun _ => ⟨rfl, rfl⟩) (fun _ => rfl))
  (sb_cons (s_ret c_bool)
  sb_nil))
noncomputable def F__law_has_thrice : FnG := runB [1] 1 4 [] B__law_has_thrice
theorem ok__law_has_thrice (c : Base) : CallOk (cx c) 1 (.ref ((cx c).ga 894)) F__law_has_thrice := fn_okK (fk_894 c) (S__law_has_thrice c)
theorem kp_894 (c : Base) : keepIn (cx c).K (.ref ((cx c).ga 894)) = true := by kernel_rfl
theorem gv__law_has_thrice (c : Base) : nsIn (cx c).K mainGlobals "_law_has_thrice" = some (some (.ref 894)) := by kernel_rfl
theorem gn_899__law_has_thrice (c : Base) : GloName (cx c) (sc_899 c) "_law_has_thrice" (.ref 894) := ⟨gv__law_has_thrice c, by kernel_rfl, by kernel_rfl⟩
theorem fn_899__law_has_thrice (c : Base) : FnName (cx c) (sc_899 c) "_law_has_thrice" 894 := ⟨gn_899__law_has_thrice c, kp_894 c⟩
noncomputable def B_law_13 (xs : List Int) : SS := (retS (bE eqV (bE isNotV (callE F_search_pattern (esC (lE 5) (esC (lE 7) (esC (cE (.int 0)) (esC (clsE 419 5 F_Limits___init__ esN) (esC (cE (.int 0)) esN)))))) (cE .none)) (callE F__law_has_thrice (esC (lE 7) esN))))
noncomputable def B_law (xs : List Int) : SS := (seqS (B_law_0 xs) (seqS (B_law_1 xs) (seqS (B_law_2 xs) (seqS (B_law_3 xs) (seqS (B_law_4 xs) (seqS (B_law_5 xs) (seqS (B_law_6 xs) (seqS (B_law_7 xs) (seqS (B_law_8 xs) (seqS (B_law_9 xs) (seqS (B_law_10 xs) (seqS (B_law_11 xs) (seqS (B_law_12 xs) (seqS (B_law_13 xs) nilS))))))))))))))
theorem S_law (c : Base) {xs : List Int} (hx : ScrOk (cx c) 5000000 10 (xs.map .int)) : SoundB (cx c) 18 (sc_899 c) (stOf (cx c).K 899) (B_law xs) := (sb_cons (s_asg (u_cell (co_899_3 c)) (b_list (es_cons (b_scrI hx (l_name (ln_899_0 c)) p_none (p_some c_int) (fun _ _ => rfl)) (es_cons c_int es_nil (fun _ => rfl)) (fun _ => rfl))) (fun _ => rfl) (fun _ => rfl) (fun _ => rfl))
  (sb_cons (s_swap (.cons (ln_899_1 c) (.cons (ln_899_2 c) (.cons (ln_899_3 c) .nil))) (es_cons (b_call (fn_899__law_shake c) ((ok__law_shake c).up rfl) (es_cons (ce_name (cn_899_3 c)) (es_cons c_int es_nil (fun _ => rfl)) (fun _ => rfl)) (fun _ => ⟨rfl, rfl⟩) nilOk_cons (fun _ => rfl)) (es_cons (b_call (fn_899__law_shake c) ((ok__law_shake c).up rfl) (es_cons (ce_name (cn_899_3 c)) (es_cons c_int es_nil (fun _ => rfl)) (fun _ => rfl)) (fun _ => ⟨rfl, rfl⟩) nilOk_cons (fun _ => rfl)) (es_cons (b_sub (c_str (by kernel_rfl)) (b_call (fn_899__law_shake c) ((ok__law_shake c).up rfl) (es_cons (ce_name (cn_899_3 c)) (es_cons c_int es_nil (fun _ => rfl)) (fun _ => rfl)) (fun _ => ⟨rfl, rfl⟩) nilOk_cons (fun _ => rfl)) (fun _ _ => rfl)) es_nil (fun _ => rfl)) (fun _ => rfl)) (fun _ => rfl)) (fun _ => rfl) (fun _ => by kernel_rfl))
  (sb_cons (s_swap (.cons (ln_899_4 c) (.cons (ln_899_5 c) .nil)) (es_cons (b_call (fn_899_compile_pattern c) ((ok_compile_pattern c).up rfl) (es_cons (c_str (by kernel_rfl)) (es_cons (c_str (by kernel_rfl)) es_nil (fun _ => rfl)) (fun _ => rfl)) (fun _ => ⟨rfl, rfl⟩) nilOk_cons (fun _ => rfl)) (es_cons (b_call (fn_899_compile_pattern c) ((ok_compile_pattern c).up rfl) (es_cons (c_str (by kernel_rfl)) (es_cons (c_str (by kernel_rfl)) es_nil (fun _ => rfl)) (fun _ => rfl)) (fun _ => ⟨rfl, rfl⟩) nilOk_cons (fun _ => rfl)) es_nil (fun _ => rfl)) (fun _ => rfl)) (fun _ => rfl) (fun _ => by kernel_rfl))
  (sb_cons (s_asg (u_cell (co_899_0 c)) (b_call (fn_899__law_grown c) ((ok__law_grown c).up rfl) (es_cons (l_name (ln_899_4 c)) (es_cons (c_str (by kernel_rfl)) (es_cons (l_name (ln_899_3 c)) (es_cons (l_name (ln_899_1 c)) es_nil (fun _ => rfl)) (fun _ => rfl)) (fun _ => rfl)) (fun _ => rfl)) (fun _ => ⟨rfl, rfl⟩) nilOk_cons (fun _ => rfl)) (fun _ => rfl) (fun _ => rfl) (fun _ => rfl))
  (sb_cons (s_asg (u_cell (co_899_2 c)) (b_if (t_cmp (l_name (ln_899_3 c)) (c_str (by kernel_rfl)) bin_eq rfl) (c_str (by kernel_rfl)) (c_str (by kernel_rfl))) (fun _ => rfl) (fun _ => rfl) (fun _ => rfl))
  (sb_cons (junk_s (gc_s (s_if (t_cmp (b_sub (ce_name (cn_899_0 c)) b_neg (fun _ _ => rfl)) (b_join (c_str (by kernel_rfl)) (b_compR1 1000 (bn_899_range c) (b_op c_int (l_name (ln_899_1 c)) bin_pow) i_nil (b_sub (ce_name (cn_899m0_0 c)) (b_bltT (bn_899m0_int c) f_int (es_cons (b_call (fn_899m0__law_odd c) ((ok__law_odd c).up rfl) (es_cons (l_name (ln_899m0_0 c)) es_nil (fun _ => rfl)) (fun _ => ⟨rfl, rfl⟩) nilOk_cons (fun _ => rfl)) es_nil (fun _ => rfl)) (fun _ => ⟨rfl, rfl⟩) (fun _ => ⟨rfl, trivial⟩) (fun _ => rfl)) (fun _ _ => rfl)) (cp_899m0 c) (by decide) (fun _ _ => rfl) (fun _ => ⟨rfl, rfl⟩) (fun _ => rfl)) (fun _ => ⟨rfl, rfl⟩) (fun _ => rfl)) bin_ne rfl)
  no_b
  sb_nil)))
  (sb_cons (s_def (ln_899_6 c) (fun _ h => h) (by kernel_rfl) (by kernel_rfl) rfl rfl (fun _ => rfl))
  (sb_cons (drop_s (junk_s (s_for1 1000 (bn_899_range c) (l_name (ln_899_1 c)) (u_cell (co_899_1 c))
  (sb_cons (gc_s (s_if (t_cmp (b_sub (ce_name (cn_899_0 c)) (b_op (ce_name (cn_899_1 c)) c_int bin_add) (fun _ _ => rfl)) (b_op (b_sub (ce_name (cn_899_0 c)) (ce_name (cn_899_1 c)) (fun _ _ => rfl)) (b_sub (b_call (fn_899_substitute c) ((ok_substitute c).up rfl) (es_cons (l_name (ln_899_4 c)) (es_cons (b_sub (ce_name (cn_899_0 c)) (ce_name (cn_899_1 c)) (fun _ _ => rfl)) (es_cons (l_name (ln_899_6 c)) (es_cons c_bool (es_cons (b_cls (fn_899_Limits c) (mk_419 c) rfl ((ok_Limits___init__ c).up rfl) es_nil (fun _ => ⟨rfl, trivial⟩) nilOk_nil (fun _ => rfl)) es_nil (fun _ => rfl)) (fun _ => rfl)) (fun _ => rfl)) (fun _ => rfl)) (fun _ => rfl)) (fun _ => ⟨rfl, rfl⟩) nilOk_cons (fun _ => rfl)) c_int (fun _ _ => rfl)) bin_add) bin_ne rfl)
  no_b
  sb_nil))
  sb_nil) (.inl (fun _ _ => rfl)) (fun _ _ => rfl) (fun _ => ⟨rfl, rfl⟩) (fun _ => rfl))))
  (sb_cons (junk_s (gc_s (s_if (t_cmp (b_call (fn_899_search_pattern c) ((ok_search_pattern c).up rfl) (es_cons (l_name (ln_899_5 c)) (es_cons (b_sub (ce_name (cn_899_0 c)) b_neg (fun _ _ => rfl)) (es_cons c_int (es_cons (b_cls (fn_899_Limits c) (mk_419 c) rfl ((ok_Limits___init__ c).up rfl) es_nil (fun _ => ⟨rfl, trivial⟩) nilOk_nil (fun _ => rfl)) (es_cons c_int es_nil (fun _ => rfl)) (fun _ => rfl)) (fun _ => rfl)) (fun _ => rfl)) (fun _ => rfl)) (fun _ => ⟨rfl, rfl⟩) nilOk_cons (fun _ => rfl)) c_none bin_isNot rfl)
  no_b
  sb_nil)))
  (sb_cons (drop_s (s_asg (u_cell (co_899_0 c)) (b_call (fn_899__law_grown c) ((ok__law_grown c).up rfl) (es_cons (l_name (ln_899_4 c)) (es_cons (c_str (by kernel_rfl)) (es_cons (l_name (ln_899_3 c)) (es_cons (l_name (ln_899_2 c)) es_nil (fun _ => rfl)) (fun _ => rfl)) (fun _ => rfl)) (fun _ => rfl)) (fun _ => ⟨rfl, rfl⟩) nilOk_cons (fun _ => rfl)) (fun _ => rfl) (fun _ => rfl) (fun _ => rfl)))
  (sb_cons (drop_s (gc_s (s_if (t_bool (a_or (ht_cmp (b_compR2 1000 (bn_899_range c) c_int (b_blt (bn_899_len c) f_len (es_cons (ce_name (cn_899_0 c)) es_nil (fun _ => rfl)) (fun _ => ⟨rfl, rfl⟩) (fun _ => ⟨rfl, trivial⟩) (fun _ => rfl)) (i_one (t_cmp (b_sub (ce_name (cn_899m1_0 c)) (l_name (ln_899m1_0 c)) (fun _ _ => rfl)) (b_op (b_sub (ce_name (cn_899m1_0 c)) (b_op (l_name (ln_899m1_0 c)) c_int bin_sub) (fun _ _ => rfl)) (b_sub (ce_name (cn_899m1_0 c)) (b_op (l_name (ln_899m1_0 c)) c_int bin_sub) (fun _ _ => rfl)) bin_add) bin_ne rfl)) no_e (cp_899m1 c) (by decide) (fun _ _ => rfl) (fun _ => ⟨rfl, rfl⟩) (fun _ => ⟨rfl, rfl⟩) (fun _ => rfl)) (b_list es_nil) binh_ne rfl) (a_or (t_cmp (b_sub (ce_name (cn_899_0 c)) c_int (fun _ _ => rfl)) (l_name (ln_899_3 c)) bin_ne rfl) a_orNil)))
  no_b
  sb_nil)))
  (sb_cons (drop_s (junk_s (gc_s (s_if (t_cmp (b_call (fn_899_search_pattern c) ((ok_search_pattern c).up rfl) (es_cons (b_call (fn_899_compile_pattern c) ((ok_compile_pattern c).up rfl) (es_cons (c_str (by kernel_rfl)) (es_cons (c_str (by kernel_rfl)) es_nil (fun _ => rfl)) (fun _ => rfl)) (fun _ => ⟨rfl, rfl⟩) nilOk_cons (fun _ => rfl)) (es_cons (b_sub (ce_name (cn_899_0 c)) b_neg (fun _ _ => rfl)) (es_cons c_int (es_cons (b_cls (fn_899_Limits c) (mk_419 c) rfl ((ok_Limits___init__ c).up rfl) es_nil (fun _ => ⟨rfl, trivial⟩) nilOk_nil (fun _ => rfl)) (es_cons c_int es_nil (fun _ => rfl)) (fun _ => rfl)) (fun _ => rfl)) (fun _ => rfl)) (fun _ => rfl)) (fun _ => ⟨rfl, rfl⟩) nilOk_cons (fun _ => rfl)) c_none bin_isNot rfl)
  no_b
  sb_nil))))
  (sb_cons (junk_s (s_asg (u_name (ln_899_7 c)) (b_join (c_str (by kernel_rfl)) (b_compR1 1000 (bn_899_range c) (b_call (fn_899__law_shake c) ((ok__law_shake c).up rfl) (es_cons (ce_name (cn_899_3 c)) (es_cons c_int es_nil (fun _ => rfl)) (fun _ => rfl)) (fun _ => ⟨rfl, rfl⟩) nilOk_cons (fun _ => rfl)) i_nil (b_sub (c_str (by kernel_rfl)) (b_call (fn_899m2__law_shake c) ((ok__law_shake c).up rfl) (es_cons (ce_name (cn_899m2_0 c)) (es_cons c_int es_nil (fun _ => rfl)) (fun _ => rfl)) (fun _ => ⟨rfl, rfl⟩) nilOk_cons (fun _ => rfl)) (fun _ _ => rfl)) (cp_899m2 c) (by decide) (fun _ _ => rfl) (fun _ => ⟨rfl, rfl⟩) (fun _ => rfl)) (fun _ => ⟨rfl, rfl⟩) (fun _ => rfl)) (fun _ => rfl) (fun _ => rfl) (fun _ => rfl)))
  (sb_cons (s_ret (b_cmp (b_cmp (b_call (fn_899_search_pattern c) ((ok_search_pattern c).up rfl) (es_cons (l_name (ln_899_5 c)) (es_cons (l_name (ln_899_7 c)) (es_cons c_int (es_cons (b_cls (fn_899_Limits c) (mk_419 c) rfl ((ok_Limits___init__ c).up rfl) es_nil (fun _ => ⟨rfl, trivial⟩) nilOk_nil (fun _ => rfl)) (es_cons c_int es_nil (fun _ => rfl)) (fun _ => rfl)) (fun _ => rfl)) (fun _ => rfl)) (fun _ => rfl)) (fun _ => ⟨rfl, rfl⟩) nilOk_cons (fun _ => rfl)) c_none bin_isNot rfl) (b_call (fn_899__law_has_thrice c) ((ok__law_has_thrice c).up rfl) (es_cons (l_name (ln_899_7 c)) es_nil (fun _ => rfl)) (fun _ => ⟨rfl, rfl⟩) nilOk_cons (fun _ => rfl)) bin_eq rfl))
  sb_nil))))))))))))))
end
end Mp
namespace Mp
/-! the run of law 3, by cases -/
noncomputable def okObs : List Ob := [.cell (.str []), .inst 561 [(.str [91, 97, 98, 93]), (.int 0), (.int 4), (.int 0), (.int 0), (.ref 10), (.ref 11)], .dict [], .list [], .list [], .list [(.tup [(.str [115, 101, 113]), (.ref 14)])], .list [(.tup [(.str [115, 101, 116]), (.ref 15), (.bool false), (.bool false)])], .list [(.tup [(.str [114, 97, 110, 103, 101]), (.int 97), (.int 97)]), (.tup [(.str [114, 97, 110, 103, 101]), (.int 98), (.int 98)])], .list [(.tup [(.str [114, 97, 110, 103, 101]), (.int 97), (.int 97)])], .list [(.tup [(.str [114, 97, 110, 103, 101]), (.int 98), (.int 98)])], .inst 476 [(.ref 19), (.int 0)], .list [(.tup [(.str [115, 101, 116]), (.ref 15), (.bool false), (.bool false)]), (.tup [(.str [101, 110, 100])])], .inst 441 [(.ref 19), (.int 0), (.int 0), (.ref 10)], .cell (.str []), .inst 561 [(.str [40, 46, 43, 41, 92, 49, 92, 49]), (.int 1), (.int 8), (.int 1), (.int 0), (.ref 23), (.ref 24)], .dict [], .list [(.tup [(.ref 30), (.int 4)]), (.tup [(.ref 31), (.int 6)])], .list [], .list [(.tup [(.str [115, 101, 113]), (.ref 27)])], .list [(.tup [(.str [103, 114, 111, 117, 112]), (.int 1), (.tup [(.str [115, 101, 113]), (.ref 29)])]), (.tup [(.str [98, 97, 99, 107]), (.ref 30), (.bool false)]), (.tup [(.str [98, 97, 99, 107]), (.ref 31), (.bool false)])], .list [(.tup [(.str [115, 101, 113]), (.ref 29)])], .list [(.tup [(.str [114, 101, 112]), (.tup [(.str [97, 110, 121]), (.bool false)]), (.int 1), (.int (-1)), (.str [103, 114, 101, 101, 100, 121])])], .list [(.int 1)], .list [(.int 1)], .list [], .list [], .inst 476 [(.ref 35), (.int 1)], .list [(.tup [(.str [111, 112, 101, 110]), (.int 0)]), (.tup [(.str [114, 117, 110]), (.tup [(.str [97, 110, 121]), (.bool false)]), (.int 1), (.int (-1)), (.bool false)]), (.tup [(.str [99, 108, 111, 115, 101]), (.int 1), (.int 0)]), (.tup [(.str [98, 97, 99, 107]), (.ref 30), (.bool false)]), (.tup [(.str [98, 97, 99, 107]), (.ref 31), (.bool false)]), (.tup [(.str [101, 110, 100])])], .inst 441 [(.ref 35), (.int 1), (.int 1), (.ref 23)]]
noncomputable abbrev U : V := .undef
noncomputable def jk9 : List Ob := [.junk, .junk, .junk, .junk, .junk, .junk, .junk, .junk, .junk]
noncomputable def T3 (t1 t2 : Bool) (w a tu : Ob) (is : List Int) (k : Nat) (r : List Ob) : List Ob := .tab 0 t1 :: .tab 1 t2 :: w :: a :: tu :: .cell (.ref 7) :: .nums is :: .list [.ref 6, .int (.ofNat k)] :: r
noncomputable def S0 : S := ⟨[.g 5000000, U, U, U, U, U, U, U], [2, 3, 4, 5], [.tab 0 false, .tab 1 false, .cell U, .cell U, .cell U, .cell U]⟩
noncomputable def S1 (is : List Int) : S := ⟨[.g 5000000, U, U, U, U, U, U, U], [2, 3, 4, 5], T3 false false (.cell U) (.cell U) (.cell U) is 0 []⟩
noncomputable def S1b (is : List Int) (g m : Int) (b : List Nat) : S := ⟨[.g 5000000, .int g, .int m, .str b, U, U, U, U], [2, 3, 4, 5], T3 false false (.cell U) (.cell U) (.cell U) is 3 []⟩
noncomputable def S2 (is : List Int) (g m : Int) (b : List Nat) : S := ⟨[.g 5000000, .int g, .int m, .str b, .ref 20, .ref 36, U, U], [2, 3, 4, 5], T3 false false (.cell U) (.cell U) (.cell U) is 3 okObs⟩
noncomputable def S8 (is : List Int) (m : Int) (b : List Nat) : S := ⟨[.g 5000000, U, .int m, .str b, .ref 20, .ref 36, .ref 41, U], [2, 3, 4, 5], T3 true true (.cell (.ref 40)) .junk .junk is 3 (okObs ++ [.cell (.ref 40), .cell (.str [98, 97]), .clo 0 [38, 37], .junk, .clo 1 [2, 3]])⟩
noncomputable def S11 (is : List Int) : S := ⟨[.g 5000000, U, U, U, U, .ref 36, U, U], [2, 3, 4, 5], T3 true true .junk .junk .junk is 3 (okObs ++ jk9)⟩
noncomputable def S12 (is : List Int) (k : Nat) (w : List Nat) : S := ⟨[.g 5000000, U, U, U, U, .ref 36, U, .str w], [2, 3, 4, 5], T3 true true .junk .junk .junk is k (okObs ++ jk9 ++ [.junk])⟩
noncomputable def rest3 : List Int := [3, 4, 0, 6, 1, 0, 1, 0, 1, 0]
noncomputable def dr (is : List Int) (k : Nat) : Int := if k < is.length then is.getD k 0 else rest3.getD k 0
noncomputable def ab (r : Int) : Nat := if r = 0 then 97 else 98
theorem callE_of {g : FnG} {a : SEs} {S : S} {vs st r} (h1 : a S = some (vs, st)) (h2 : g vs st = r) : callE g a S = r := by unfold callE; rw [h1]; exact h2
theorem esC_of {a : SE} {b : SEs} {S : S} {v st vs st'} (h1 : a S = some (v, st)) (h2 : b ⟨S.lo, S.ce, st⟩ = some (vs, st')) : esC a b S = some (v :: vs, st') := by unfold esC; rw [h1]; dsimp only; rw [h2]
theorem subE_of {a b : SE} {S : S} {x st y st' z} (h1 : a S = some (x, st)) (h2 : b ⟨S.lo, S.ce, st⟩ = some (y, st')) (h3 : getI x y st' = some z) : subE a b S = some (z, st') := by unfold subE; rw [h1]; dsimp only; rw [h2]; dsimp only; rw [h3]
theorem swap_of {is : List Nat} {g : SEs} {S : S} {vs st} (h1 : g S = some (vs, st)) (h2 : vs.length ≤ 1000) (h3 : vs.length = is.length) : swapS is g S = some (.next, ⟨setAll S.lo is.reverse vs.reverse, S.ce, st⟩) := by
  unfold swapS asgS tupE
  rw [h1]
  dsimp only
  rw [if_pos h2]
  dsimp only [asgR]
  rw [if_pos h3]
theorem letter_of (n : Int) (st : List Ob) : getI (.str [97, 98]) (.int (n % 2)) st = some (.str [ab (n % 2)]) := by
  rcases Int.emod_two_eq n with h | h <;> rw [h] <;> rfl
theorem shk_0 (t1 t2 : Bool) (w a tu : Ob) (r : List Ob) : ∀ (is : List Int), is.length ≤ 10 → F__law_shake [.ref 7, .int 4] (T3 t1 t2 w a tu is 0 r) = some (.int (dr is 0 % 4), T3 t1 t2 w a tu is 1 r)
  | [], _ => by kernel_rfl
  | [a0], _ => by kernel_rfl
  | [a0, a1], _ => by kernel_rfl
  | [a0, a1, a2], _ => by kernel_rfl
  | [a0, a1, a2, a3], _ => by kernel_rfl
  | [a0, a1, a2, a3, a4], _ => by kernel_rfl
  | [a0, a1, a2, a3, a4, a5], _ => by kernel_rfl
  | [a0, a1, a2, a3, a4, a5, a6], _ => by kernel_rfl
  | [a0, a1, a2, a3, a4, a5, a6, a7], _ => by kernel_rfl
  | [a0, a1, a2, a3, a4, a5, a6, a7, a8], _ => by kernel_rfl
  | [a0, a1, a2, a3, a4, a5, a6, a7, a8, a9], _ => by kernel_rfl
  | a0 :: a1 :: a2 :: a3 :: a4 :: a5 :: a6 :: a7 :: a8 :: a9 :: a10 :: t, h => absurd h (by simp)
theorem shk_1 (t1 t2 : Bool) (w a tu : Ob) (r : List Ob) : ∀ (is : List Int), is.length ≤ 10 → F__law_shake [.ref 7, .int 5] (T3 t1 t2 w a tu is 1 r) = some (.int (dr is 1 % 5), T3 t1 t2 w a tu is 2 r)
  | [], _ => by kernel_rfl
  | [a0], _ => by kernel_rfl
  | [a0, a1], _ => by kernel_rfl
  | [a0, a1, a2], _ => by kernel_rfl
  | [a0, a1, a2, a3], _ => by kernel_rfl
  | [a0, a1, a2, a3, a4], _ => by kernel_rfl
  | [a0, a1, a2, a3, a4, a5], _ => by kernel_rfl
  | [a0, a1, a2, a3, a4, a5, a6], _ => by kernel_rfl
  | [a0, a1, a2, a3, a4, a5, a6, a7], _ => by kernel_rfl
  | [a0, a1, a2, a3, a4, a5, a6, a7, a8], _ => by kernel_rfl
  | [a0, a1, a2, a3, a4, a5, a6, a7, a8, a9], _ => by kernel_rfl
  | a0 :: a1 :: a2 :: a3 :: a4 :: a5 :: a6 :: a7 :: a8 :: a9 :: a10 :: t, h => absurd h (by simp)
theorem shk_2 (t1 t2 : Bool) (w a tu : Ob) (r : List Ob) : ∀ (is : List Int), is.length ≤ 10 → F__law_shake [.ref 7, .int 2] (T3 t1 t2 w a tu is 2 r) = some (.int (dr is 2 % 2), T3 t1 t2 w a tu is 3 r)
  | [], _ => by kernel_rfl
  | [a0], _ => by kernel_rfl
  | [a0, a1], _ => by kernel_rfl
  | [a0, a1, a2], _ => by kernel_rfl
  | [a0, a1, a2, a3], _ => by kernel_rfl
  | [a0, a1, a2, a3, a4], _ => by kernel_rfl
  | [a0, a1, a2, a3, a4, a5], _ => by kernel_rfl
  | [a0, a1, a2, a3, a4, a5, a6], _ => by kernel_rfl
  | [a0, a1, a2, a3, a4, a5, a6, a7], _ => by kernel_rfl
  | [a0, a1, a2, a3, a4, a5, a6, a7, a8], _ => by kernel_rfl
  | [a0, a1, a2, a3, a4, a5, a6, a7, a8, a9], _ => by kernel_rfl
  | a0 :: a1 :: a2 :: a3 :: a4 :: a5 :: a6 :: a7 :: a8 :: a9 :: a10 :: t, h => absurd h (by simp)
theorem shk_3 (t1 t2 : Bool) (w a tu : Ob) (r : List Ob) : ∀ (is : List Int), is.length ≤ 10 → F__law_shake [.ref 7, .int 7] (T3 t1 t2 w a tu is 3 r) = some (.int (dr is 3 % 7), T3 t1 t2 w a tu is 4 r)
  | [], _ => by kernel_rfl
  | [a0], _ => by kernel_rfl
  | [a0, a1], _ => by kernel_rfl
  | [a0, a1, a2], _ => by kernel_rfl
  | [a0, a1, a2, a3], _ => by kernel_rfl
  | [a0, a1, a2, a3, a4], _ => by kernel_rfl
  | [a0, a1, a2, a3, a4, a5], _ => by kernel_rfl
  | [a0, a1, a2, a3, a4, a5, a6], _ => by kernel_rfl
  | [a0, a1, a2, a3, a4, a5, a6, a7], _ => by kernel_rfl
  | [a0, a1, a2, a3, a4, a5, a6, a7, a8], _ => by kernel_rfl
  | [a0, a1, a2, a3, a4, a5, a6, a7, a8, a9], _ => by kernel_rfl
  | a0 :: a1 :: a2 :: a3 :: a4 :: a5 :: a6 :: a7 :: a8 :: a9 :: a10 :: t, h => absurd h (by simp)
theorem shk_4 (t1 t2 : Bool) (w a tu : Ob) (r : List Ob) : ∀ (is : List Int), is.length ≤ 10 → F__law_shake [.ref 7, .int 2] (T3 t1 t2 w a tu is 4 r) = some (.int (dr is 4 % 2), T3 t1 t2 w a tu is 5 r)
  | [], _ => by kernel_rfl
  | [a0], _ => by kernel_rfl
  | [a0, a1], _ => by kernel_rfl
  | [a0, a1, a2], _ => by kernel_rfl
  | [a0, a1, a2, a3], _ => by kernel_rfl
  | [a0, a1, a2, a3, a4], _ => by kernel_rfl
  | [a0, a1, a2, a3, a4, a5], _ => by kernel_rfl
  | [a0, a1, a2, a3, a4, a5, a6], _ => by kernel_rfl
  | [a0, a1, a2, a3, a4, a5, a6, a7], _ => by kernel_rfl
  | [a0, a1, a2, a3, a4, a5, a6, a7, a8], _ => by kernel_rfl
  | [a0, a1, a2, a3, a4, a5, a6, a7, a8, a9], _ => by kernel_rfl
  | a0 :: a1 :: a2 :: a3 :: a4 :: a5 :: a6 :: a7 :: a8 :: a9 :: a10 :: t, h => absurd h (by simp)
theorem shk_5 (t1 t2 : Bool) (w a tu : Ob) (r : List Ob) : ∀ (is : List Int), is.length ≤ 10 → F__law_shake [.ref 7, .int 2] (T3 t1 t2 w a tu is 5 r) = some (.int (dr is 5 % 2), T3 t1 t2 w a tu is 6 r)
  | [], _ => by kernel_rfl
  | [a0], _ => by kernel_rfl
  | [a0, a1], _ => by kernel_rfl
  | [a0, a1, a2], _ => by kernel_rfl
  | [a0, a1, a2, a3], _ => by kernel_rfl
  | [a0, a1, a2, a3, a4], _ => by kernel_rfl
  | [a0, a1, a2, a3, a4, a5], _ => by kernel_rfl
  | [a0, a1, a2, a3, a4, a5, a6], _ => by kernel_rfl
  | [a0, a1, a2, a3, a4, a5, a6, a7], _ => by kernel_rfl
  | [a0, a1, a2, a3, a4, a5, a6, a7, a8], _ => by kernel_rfl
  | [a0, a1, a2, a3, a4, a5, a6, a7, a8, a9], _ => by kernel_rfl
  | a0 :: a1 :: a2 :: a3 :: a4 :: a5 :: a6 :: a7 :: a8 :: a9 :: a10 :: t, h => absurd h (by simp)
theorem shk_6 (t1 t2 : Bool) (w a tu : Ob) (r : List Ob) : ∀ (is : List Int), is.length ≤ 10 → F__law_shake [.ref 7, .int 2] (T3 t1 t2 w a tu is 6 r) = some (.int (dr is 6 % 2), T3 t1 t2 w a tu is 7 r)
  | [], _ => by kernel_rfl
  | [a0], _ => by kernel_rfl
  | [a0, a1], _ => by kernel_rfl
  | [a0, a1, a2], _ => by kernel_rfl
  | [a0, a1, a2, a3], _ => by kernel_rfl
  | [a0, a1, a2, a3, a4], _ => by kernel_rfl
  | [a0, a1, a2, a3, a4, a5], _ => by kernel_rfl
  | [a0, a1, a2, a3, a4, a5, a6], _ => by kernel_rfl
  | [a0, a1, a2, a3, a4, a5, a6, a7], _ => by kernel_rfl
  | [a0, a1, a2, a3, a4, a5, a6, a7, a8], _ => by kernel_rfl
  | [a0, a1, a2, a3, a4, a5, a6, a7, a8, a9], _ => by kernel_rfl
  | a0 :: a1 :: a2 :: a3 :: a4 :: a5 :: a6 :: a7 :: a8 :: a9 :: a10 :: t, h => absurd h (by simp)
theorem shk_7 (t1 t2 : Bool) (w a tu : Ob) (r : List Ob) : ∀ (is : List Int), is.length ≤ 10 → F__law_shake [.ref 7, .int 2] (T3 t1 t2 w a tu is 7 r) = some (.int (dr is 7 % 2), T3 t1 t2 w a tu is 8 r)
  | [], _ => by kernel_rfl
  | [a0], _ => by kernel_rfl
  | [a0, a1], _ => by kernel_rfl
  | [a0, a1, a2], _ => by kernel_rfl
  | [a0, a1, a2, a3], _ => by kernel_rfl
  | [a0, a1, a2, a3, a4], _ => by kernel_rfl
  | [a0, a1, a2, a3, a4, a5], _ => by kernel_rfl
  | [a0, a1, a2, a3, a4, a5, a6], _ => by kernel_rfl
  | [a0, a1, a2, a3, a4, a5, a6, a7], _ => by kernel_rfl
  | [a0, a1, a2, a3, a4, a5, a6, a7, a8], _ => by kernel_rfl
  | [a0, a1, a2, a3, a4, a5, a6, a7, a8, a9], _ => by kernel_rfl
  | a0 :: a1 :: a2 :: a3 :: a4 :: a5 :: a6 :: a7 :: a8 :: a9 :: a10 :: t, h => absurd h (by simp)
theorem shk_8 (t1 t2 : Bool) (w a tu : Ob) (r : List Ob) : ∀ (is : List Int), is.length ≤ 10 → F__law_shake [.ref 7, .int 2] (T3 t1 t2 w a tu is 8 r) = some (.int (dr is 8 % 2), T3 t1 t2 w a tu is 9 r)
  | [], _ => by kernel_rfl
  | [a0], _ => by kernel_rfl
  | [a0, a1], _ => by kernel_rfl
  | [a0, a1, a2], _ => by kernel_rfl
  | [a0, a1, a2, a3], _ => by kernel_rfl
  | [a0, a1, a2, a3, a4], _ => by kernel_rfl
  | [a0, a1, a2, a3, a4, a5], _ => by kernel_rfl
  | [a0, a1, a2, a3, a4, a5, a6], _ => by kernel_rfl
  | [a0, a1, a2, a3, a4, a5, a6, a7], _ => by kernel_rfl
  | [a0, a1, a2, a3, a4, a5, a6, a7, a8], _ => by kernel_rfl
  | [a0, a1, a2, a3, a4, a5, a6, a7, a8, a9], _ => by kernel_rfl
  | a0 :: a1 :: a2 :: a3 :: a4 :: a5 :: a6 :: a7 :: a8 :: a9 :: a10 :: t, h => absurd h (by simp)
theorem shk_9 (t1 t2 : Bool) (w a tu : Ob) (r : List Ob) : ∀ (is : List Int), is.length ≤ 10 → F__law_shake [.ref 7, .int 2] (T3 t1 t2 w a tu is 9 r) = some (.int (dr is 9 % 2), T3 t1 t2 w a tu is 10 r)
  | [], _ => by kernel_rfl
  | [a0], _ => by kernel_rfl
  | [a0, a1], _ => by kernel_rfl
  | [a0, a1, a2], _ => by kernel_rfl
  | [a0, a1, a2, a3], _ => by kernel_rfl
  | [a0, a1, a2, a3, a4], _ => by kernel_rfl
  | [a0, a1, a2, a3, a4, a5], _ => by kernel_rfl
  | [a0, a1, a2, a3, a4, a5, a6], _ => by kernel_rfl
  | [a0, a1, a2, a3, a4, a5, a6, a7], _ => by kernel_rfl
  | [a0, a1, a2, a3, a4, a5, a6, a7, a8], _ => by kernel_rfl
  | [a0, a1, a2, a3, a4, a5, a6, a7, a8, a9], _ => by kernel_rfl
  | a0 :: a1 :: a2 :: a3 :: a4 :: a5 :: a6 :: a7 :: a8 :: a9 :: a10 :: t, h => absurd h (by simp)
theorem e0 (is : List Int) : B_law_0 is S0 = some (.next, S1 is) := by kernel_rfl
theorem e1 (is : List Int) (h : is.length ≤ 10) : B_law_1 is (S1 is) = some (.next, S1b is (dr is 0 % 4) (dr is 1 % 5) [ab (dr is 2 % 2)]) :=
  swap_of (is := [1, 2, 3]) (S := S1 is) (vs := [.int (dr is 0 % 4), .int (dr is 1 % 5), .str [ab (dr is 2 % 2)]]) (esC_of (callE_of (by kernel_rfl) (shk_0 false false (.cell U) (.cell U) (.cell U) [] is h)) (esC_of (callE_of (by kernel_rfl) (shk_1 false false (.cell U) (.cell U) (.cell U) [] is h)) (esC_of (subE_of (st := T3 false false (.cell U) (.cell U) (.cell U) is 2 []) (by kernel_rfl) (callE_of (by kernel_rfl) (shk_2 false false (.cell U) (.cell U) (.cell U) [] is h)) (letter_of _ (T3 false false (.cell U) (.cell U) (.cell U) is 3 []))) rfl))) (Nat.le_of_ble_eq_true rfl) rfl
theorem e2 (is : List Int) (g m : Int) (b : List Nat) : B_law_2 is (S1b is g m b) = some (.next, S2 is g m b) := by kernel_rfl
noncomputable def runs : List SS → SS
  | [] => nilS
  | f :: r => seqS f (runs r)
theorem runs_app : ∀ {l1 l2 : List SS} {σ σ' : S} {r}, runs l1 σ = some (.next, σ') → runs l2 σ' = r → runs (l1 ++ l2) σ = r
  | [], _, _, _, _, h, k => by cases h; exact k
  | f :: l1, l2, σ, σ', r, h, k => by
    show seqS f (runs (l1 ++ l2)) σ = r
    replace h : seqS f (runs l1) σ = some (.next, σ') := h
    unfold seqS at h ⊢
    cases e : f σ with
    | none => rw [e] at h; cases h
    | some q =>
      obtain ⟨fl, τ⟩ := q
      rw [e] at h
      cases fl with
      | next => exact runs_app h k
      | _ => cases h
theorem A_0_a (is : List Int) (m : Int) : runs [B_law_3 is, B_law_4 is, B_law_5 is, B_law_6 is, B_law_7 is, B_law_8 is] (S2 is 0 m [97]) = some (.next, S8 is m [97]) := by kernel_rfl
theorem A_0_b (is : List Int) (m : Int) : runs [B_law_3 is, B_law_4 is, B_law_5 is, B_law_6 is, B_law_7 is, B_law_8 is] (S2 is 0 m [98]) = some (.next, S8 is m [98]) := by kernel_rfl
theorem A_1_a (is : List Int) (m : Int) : runs [B_law_3 is, B_law_4 is, B_law_5 is, B_law_6 is, B_law_7 is, B_law_8 is] (S2 is 1 m [97]) = some (.next, S8 is m [97]) := by kernel_rfl
theorem A_1_b (is : List Int) (m : Int) : runs [B_law_3 is, B_law_4 is, B_law_5 is, B_law_6 is, B_law_7 is, B_law_8 is] (S2 is 1 m [98]) = some (.next, S8 is m [98]) := by kernel_rfl
theorem A_2_a (is : List Int) (m : Int) : runs [B_law_3 is, B_law_4 is, B_law_5 is, B_law_6 is, B_law_7 is, B_law_8 is] (S2 is 2 m [97]) = some (.next, S8 is m [97]) := by kernel_rfl
theorem A_2_b (is : List Int) (m : Int) : runs [B_law_3 is, B_law_4 is, B_law_5 is, B_law_6 is, B_law_7 is, B_law_8 is] (S2 is 2 m [98]) = some (.next, S8 is m [98]) := by kernel_rfl
theorem A_3_a (is : List Int) (m : Int) : runs [B_law_3 is, B_law_4 is, B_law_5 is, B_law_6 is, B_law_7 is, B_law_8 is] (S2 is 3 m [97]) = some (.next, S8 is m [97]) := by kernel_rfl
theorem A_3_b (is : List Int) (m : Int) : runs [B_law_3 is, B_law_4 is, B_law_5 is, B_law_6 is, B_law_7 is, B_law_8 is] (S2 is 3 m [98]) = some (.next, S8 is m [98]) := by kernel_rfl
theorem B_0_a (is : List Int) : runs [B_law_9 is, B_law_10 is, B_law_11 is] (S8 is 0 [97]) = some (.next, S11 is) := by kernel_rfl
theorem B_0_b (is : List Int) : runs [B_law_9 is, B_law_10 is, B_law_11 is] (S8 is 0 [98]) = some (.next, S11 is) := by kernel_rfl
theorem B_1_a (is : List Int) : runs [B_law_9 is, B_law_10 is, B_law_11 is] (S8 is 1 [97]) = some (.next, S11 is) := by kernel_rfl
theorem B_1_b (is : List Int) : runs [B_law_9 is, B_law_10 is, B_law_11 is] (S8 is 1 [98]) = some (.next, S11 is) := by kernel_rfl
theorem B_2_a (is : List Int) : runs [B_law_9 is, B_law_10 is, B_law_11 is] (S8 is 2 [97]) = some (.next, S11 is) := by kernel_rfl
theorem B_2_b (is : List Int) : runs [B_law_9 is, B_law_10 is, B_law_11 is] (S8 is 2 [98]) = some (.next, S11 is) := by kernel_rfl
theorem B_3_a (is : List Int) : runs [B_law_9 is, B_law_10 is, B_law_11 is] (S8 is 3 [97]) = some (.next, S11 is) := by kernel_rfl
theorem B_3_b (is : List Int) : runs [B_law_9 is, B_law_10 is, B_law_11 is] (S8 is 3 [98]) = some (.next, S11 is) := by kernel_rfl
theorem B_4_a (is : List Int) : runs [B_law_9 is, B_law_10 is, B_law_11 is] (S8 is 4 [97]) = some (.next, S11 is) := by kernel_rfl
theorem B_4_b (is : List Int) : runs [B_law_9 is, B_law_10 is, B_law_11 is] (S8 is 4 [98]) = some (.next, S11 is) := by kernel_rfl
theorem shk_l (is : List Int) (h : is.length ≤ 10) (t1 t2 : Bool) (w a tu : Ob) (r : List Ob) : ∀ i, i < 6 → F__law_shake [.ref 7, .int 2] (T3 t1 t2 w a tu is (4 + i) r) = some (.int (dr is (4 + i) % 2), T3 t1 t2 w a tu is (4 + i + 1) r)
  | 0, _ => shk_4 t1 t2 w a tu r is h
  | 1, _ => shk_5 t1 t2 w a tu r is h
  | 2, _ => shk_6 t1 t2 w a tu r is h
  | 3, _ => shk_7 t1 t2 w a tu r is h
  | 4, _ => shk_8 t1 t2 w a tu r is h
  | 5, _ => shk_9 t1 t2 w a tu r is h
  | n + 6, hi => absurd hi (by omega)
noncomputable def el : SE := subE (cE (.str [97, 98])) (callE F__law_shake (esC (ceE 0) (esC (cE (.int 2)) esN)))
noncomputable abbrev T11 (is : List Int) (k : Nat) : List Ob := T3 true true .junk .junk .junk is k (okObs ++ jk9)
theorem el_of (is : List Int) (h : is.length ≤ 10) (v : V) (i : Nat) (hi : i < 6) : el ⟨[v], [5], T11 is (4 + i)⟩ = some (.str [ab (dr is (4 + i) % 2)], T11 is (4 + i + 1)) :=
  subE_of (x := .str [97, 98]) (st := T11 is (4 + i)) (by kernel_rfl) (callE_of (vs := [.ref 7, .int 2]) (st := T11 is (4 + i)) (by kernel_rfl) (shk_l is h true true .junk .junk .junk (okObs ++ jk9) i hi)) (letter_of _ _)
noncomputable def letters (is : List Int) : Nat → Nat → List V
  | _, 0 => []
  | i, j + 1 => .str [ab (dr is (4 + i) % 2)] :: letters is (i + 1) j
theorem comp_go (is : List Int) (h : is.length ≤ 10) : ∀ (j i : Nat) (acc : List V) (fuel : Nat), i + j ≤ 6 → j < fuel → compS (itemR 0 (.ofNat (i + j))) tTrue el [5] fuel i acc (T11 is (4 + i)) = some (acc ++ letters is i j, T11 is (4 + (i + j)))
  | 0, i, acc, 0, _, hf => absurd hf (by omega)
  | 0, i, acc, f + 1, _, _ => by
    unfold compS itemR
    rw [if_neg (show ¬ ((0 : Int) + (i : Int) < Int.ofNat (i + 0)) by rw [Int.zero_add]; exact Int.lt_irrefl _)]
    show some (acc, T11 is (4 + i)) = some (acc ++ [], T11 is (4 + (i + 0)))
    rw [List.append_nil, Nat.add_zero]
  | j + 1, i, acc, 0, _, hf => absurd hf (by omega)
  | j + 1, i, acc, f + 1, hl, hf => by
    unfold compS
    have hit : itemR 0 (.ofNat (i + (j + 1))) i (T11 is (4 + i)) = some (some (.int (0 + (i : Int)))) := by
      unfold itemR
      rw [if_pos (show ((0 : Int) + (i : Int) < Int.ofNat (i + (j + 1))) by rw [Int.zero_add]; exact Int.ofNat_lt.mpr (by omega))]
    rw [hit]
    dsimp only [tTrue]
    rw [el_of is h _ i (by omega)]
    dsimp only
    have := comp_go is h j (i + 1) (acc ++ [.str [ab (dr is (4 + i) % 2)]]) f (by omega) (by omega)
    rw [show i + 1 + j = i + (j + 1) by omega] at this
    rw [show 4 + i + 1 = 4 + (i + 1) by omega, this]
    simp [letters]
theorem comp12 (is : List Int) (h : is.length ≤ 10) (L : Nat) (hL : L ≤ 6) (h3 : dr is 3 % 7 = .ofNat L) :
    compR (cE (.int 0)) (callE F__law_shake (esC (ceE 3) (esC (cE (.int 7)) esN))) tTrue el [3] 1000 (S11 is) = some (.ref (ln (T11 is (4 + L))), ad (T11 is (4 + L)) (.list (letters is 0 L))) := by
  have hs : callE F__law_shake (esC (ceE 3) (esC (cE (.int 7)) esN)) (S11 is) = some (.int (.ofNat L), T11 is 4) := by
    rw [← h3]
    exact callE_of (vs := [.ref 7, .int 7]) (st := T11 is 3) (by kernel_rfl) (shk_3 true true .junk .junk .junk (okObs ++ jk9) is h)
  have hg := comp_go is h L 0 [] 1000 (by omega) (by omega)
  rw [Nat.zero_add, List.nil_append] at hg
  unfold compR
  show (match (some [5] : Option (List Nat)) with
    | some ce => (match callE F__law_shake (esC (ceE 3) (esC (cE (.int 7)) esN)) (S11 is) with
      | some (.int j, st) => if (0 : Int).natAbs ≤ 1000000 ∧ j.natAbs ≤ 1000000 then (match compS (itemR 0 j) tTrue el ce 1000 0 [] st with
        | some (ys, st) => (some (V.ref (ln st), ad st (Ob.list ys)) : Option (V × List Ob))
        | none => none) else none
      | _ => none)
    | none => none) = _
  rw [hs]
  dsimp only
  rw [if_pos ⟨by decide, show L ≤ 1000000 by omega⟩, hg]
theorem joinE_of {o a : SE} {S : S} {st r st' vs ys} (h1 : o S = some (.str [], st)) (h2 : a ⟨S.lo, S.ce, st⟩ = some (.ref r, st')) (h3 : gt st' r = some (.list vs)) (h4 : strsOf vs = some ys) (h5 : (ys.map List.length).sum ≤ 100000) : joinE o a S = some (.str ys.flatten, st') := by
  unfold joinE
  rw [h1]
  dsimp only
  rw [h2]
  dsimp only
  rw [h3]
  dsimp only
  rw [h4]
  dsimp only
  rw [if_pos h5]
theorem asgL_of {i : Nat} {g : SE} {S : S} {v st} (h : g S = some (v, st)) : asgS (asgL i) g S = some (.next, ⟨pt S.lo i v, S.ce, st⟩) := by
  unfold asgS
  rw [h]
  rfl
theorem junk_of {is : List Nat} {g : SS} {σ σ' : S} {fl} (h : g σ = some (fl, σ')) : junkS is g σ = some (fl, ⟨σ'.lo, σ'.ce, junkL is σ'.st⟩) := by
  unfold junkS
  rw [h]
theorem e12 (is : List Int) (h : is.length ≤ 10) (L : Nat) (hL : L ≤ 6) (h3 : dr is 3 % 7 = .ofNat L) {ys : List (List Nat)} (h4 : strsOf (letters is 0 L) = some ys) (h5 : (ys.map List.length).sum ≤ 100000) : B_law_12 is (S11 is) = some (.next, S12 is (4 + L) ys.flatten) := by
  have h2 := comp12 is h L hL h3
  exact (junk_of (asgL_of (joinE_of (S := S11 is) (o := cE (.str [])) (st := T11 is 3) (r := ln (T11 is (4 + L))) (vs := letters is 0 L) (by kernel_rfl) h2 (by kernel_rfl) h4 h5))).trans (by kernel_rfl)
noncomputable def okR : Option (Fl × S) → Bool
  | some (.ret (.bool true), S') => (match S'.st[0]?, S'.st[1]? with
    | some (Ob.tab 0 true), some (Ob.tab 1 true) => true
    | _, _ => false)
  | _ => false
noncomputable def words : Nat → List (List Nat)
  | 0 => [[]]
  | n + 1 => (words n).flatMap fun w => [97 :: w, 98 :: w]
theorem w13_0 (is : List Int) (k : Nat) : ((words 0).all fun w => okR (B_law_13 is (S12 is k w))) = true := by kernel_rfl
theorem w13_1 (is : List Int) (k : Nat) : ((words 1).all fun w => okR (B_law_13 is (S12 is k w))) = true := by kernel_rfl
theorem w13_2 (is : List Int) (k : Nat) : ((words 2).all fun w => okR (B_law_13 is (S12 is k w))) = true := by kernel_rfl
theorem w13_3 (is : List Int) (k : Nat) : ((words 3).all fun w => okR (B_law_13 is (S12 is k w))) = true := by kernel_rfl
theorem w13_4 (is : List Int) (k : Nat) : ((words 4).all fun w => okR (B_law_13 is (S12 is k w))) = true := by kernel_rfl
theorem w13_a (is : List Int) (k : Nat) : ((words 4).all fun w => okR (B_law_13 is (S12 is k (97 :: w)))) = true := by kernel_rfl
theorem w13_b (is : List Int) (k : Nat) : ((words 4).all fun w => okR (B_law_13 is (S12 is k (98 :: w)))) = true := by kernel_rfl
theorem w13_aa (is : List Int) (k : Nat) : ((words 4).all fun w => okR (B_law_13 is (S12 is k (97 :: 97 :: w)))) = true := by kernel_rfl
theorem w13_ab (is : List Int) (k : Nat) : ((words 4).all fun w => okR (B_law_13 is (S12 is k (97 :: 98 :: w)))) = true := by kernel_rfl
theorem w13_ba (is : List Int) (k : Nat) : ((words 4).all fun w => okR (B_law_13 is (S12 is k (98 :: 97 :: w)))) = true := by kernel_rfl
theorem w13_bb (is : List Int) (k : Nat) : ((words 4).all fun w => okR (B_law_13 is (S12 is k (98 :: 98 :: w)))) = true := by kernel_rfl
noncomputable def Ends (f : SS) (σ : S) : Prop := ∃ S', f σ = some (.ret (.bool true), S') ∧ S'.st[0]? = some (.tab 0 true) ∧ S'.st[1]? = some (.tab 1 true)
theorem okR_ends {f : SS} {σ : S} (h : okR (f σ) = true) : Ends f σ := by
  unfold okR at h
  split at h
  · rename_i S' e
    split at h
    · rename_i h0 h1
      exact ⟨S', e, h0, h1⟩
    · cases h
  · cases h
theorem ab_mem {r : Int} : ab r = 97 ∨ ab r = 98 := by unfold ab; split <;> simp
theorem words_cons {n c : Nat} {w : List Nat} (hc : c = 97 ∨ c = 98) (hw : w ∈ words n) : c :: w ∈ words (n + 1) := by
  unfold words
  exact List.mem_flatMap.mpr ⟨w, hw, by rcases hc with rfl | rfl <;> simp⟩
theorem words_nil : [] ∈ words 0 := by simp [words]
theorem w_use {L : Nat} {is : List Int} {k : Nat} {w : List Nat} (h : ((words L).all fun w => okR (B_law_13 is (S12 is k w))) = true) (hw : w ∈ words L) : okR (B_law_13 is (S12 is k w)) = true := List.all_eq_true.mp h w hw
theorem w_use5 {c : Nat} {is : List Int} {k : Nat} {w : List Nat} (h : ((words 4).all fun w => okR (B_law_13 is (S12 is k (c :: w)))) = true) (hw : w ∈ words 4) : okR (B_law_13 is (S12 is k (c :: w))) = true := List.all_eq_true.mp h w hw
theorem w_use6 {c e : Nat} {is : List Int} {k : Nat} {w : List Nat} (h : ((words 4).all fun w => okR (B_law_13 is (S12 is k (c :: e :: w)))) = true) (hw : w ∈ words 4) : okR (B_law_13 is (S12 is k (c :: e :: w))) = true := List.all_eq_true.mp h w hw
theorem w5 {is : List Int} {k c : Nat} {w : List Nat} (hc : c = 97 ∨ c = 98) (hw : w ∈ words 4) : okR (B_law_13 is (S12 is k (c :: w))) = true := by
  rcases hc with rfl | rfl
  · exact w_use5 (w13_a is k) hw
  · exact w_use5 (w13_b is k) hw
theorem w6 {is : List Int} {k c e : Nat} {w : List Nat} (hc : c = 97 ∨ c = 98) (he : e = 97 ∨ e = 98) (hw : w ∈ words 4) : okR (B_law_13 is (S12 is k (c :: e :: w))) = true := by
  rcases hc with rfl | rfl <;> rcases he with rfl | rfl
  · exact w_use6 (w13_aa is k) hw
  · exact w_use6 (w13_ab is k) hw
  · exact w_use6 (w13_ba is k) hw
  · exact w_use6 (w13_bb is k) hw
theorem run13_key (is : List Int) (h : is.length ≤ 10) (L : Nat) (hL : L ≤ 6) {ys : List (List Nat)} {w : List Nat} (h4 : strsOf (letters is 0 L) = some ys) (h5 : (ys.map List.length).sum ≤ 100000) (hf : ys.flatten = w) (h6 : okR (B_law_13 is (S12 is (4 + L) w)) = true) (h3 : dr is 3 % 7 = .ofNat L) :
    Ends (runs [B_law_12 is, B_law_13 is]) (S11 is) := by
  subst hf
  obtain ⟨S', q1, q2, q3⟩ := okR_ends (f := B_law_13 is) h6
  refine ⟨S', ?_, q2, q3⟩
  show seqS (B_law_12 is) (seqS (B_law_13 is) nilS) (S11 is) = _
  unfold seqS
  rw [e12 is h L hL h3 h4 h5]
  dsimp only
  rw [q1]
theorem run13_0 (is : List Int) (h : is.length ≤ 10) (h3 : dr is 3 % 7 = .ofNat 0) : Ends (runs [B_law_12 is, B_law_13 is]) (S11 is) := run13_key is h 0 (by decide) (ys := []) (w := []) (by kernel_rfl) (Nat.le_of_ble_eq_true (by kernel_rfl)) (by kernel_rfl) (w_use (w13_0 is (4 + 0)) words_nil) h3
theorem run13_1 (is : List Int) (h : is.length ≤ 10) (h3 : dr is 3 % 7 = .ofNat 1) : Ends (runs [B_law_12 is, B_law_13 is]) (S11 is) := run13_key is h 1 (by decide) (ys := [[ab (dr is (4 + 0) % 2)]]) (w := [ab (dr is (4 + 0) % 2)]) (by kernel_rfl) (Nat.le_of_ble_eq_true (by kernel_rfl)) (by kernel_rfl) (w_use (w13_1 is (4 + 1)) (words_cons ab_mem words_nil)) h3
theorem run13_2 (is : List Int) (h : is.length ≤ 10) (h3 : dr is 3 % 7 = .ofNat 2) : Ends (runs [B_law_12 is, B_law_13 is]) (S11 is) := run13_key is h 2 (by decide) (ys := [[ab (dr is (4 + 0) % 2)], [ab (dr is (4 + 1) % 2)]]) (w := [ab (dr is (4 + 0) % 2), ab (dr is (4 + 1) % 2)]) (by kernel_rfl) (Nat.le_of_ble_eq_true (by kernel_rfl)) (by kernel_rfl) (w_use (w13_2 is (4 + 2)) (words_cons ab_mem (words_cons ab_mem words_nil))) h3
theorem run13_3 (is : List Int) (h : is.length ≤ 10) (h3 : dr is 3 % 7 = .ofNat 3) : Ends (runs [B_law_12 is, B_law_13 is]) (S11 is) := run13_key is h 3 (by decide) (ys := [[ab (dr is (4 + 0) % 2)], [ab (dr is (4 + 1) % 2)], [ab (dr is (4 + 2) % 2)]]) (w := [ab (dr is (4 + 0) % 2), ab (dr is (4 + 1) % 2), ab (dr is (4 + 2) % 2)]) (by kernel_rfl) (Nat.le_of_ble_eq_true (by kernel_rfl)) (by kernel_rfl) (w_use (w13_3 is (4 + 3)) (words_cons ab_mem (words_cons ab_mem (words_cons ab_mem words_nil)))) h3
theorem run13_4 (is : List Int) (h : is.length ≤ 10) (h3 : dr is 3 % 7 = .ofNat 4) : Ends (runs [B_law_12 is, B_law_13 is]) (S11 is) := run13_key is h 4 (by decide) (ys := [[ab (dr is (4 + 0) % 2)], [ab (dr is (4 + 1) % 2)], [ab (dr is (4 + 2) % 2)], [ab (dr is (4 + 3) % 2)]]) (w := [ab (dr is (4 + 0) % 2), ab (dr is (4 + 1) % 2), ab (dr is (4 + 2) % 2), ab (dr is (4 + 3) % 2)]) (by kernel_rfl) (Nat.le_of_ble_eq_true (by kernel_rfl)) (by kernel_rfl) (w_use (w13_4 is (4 + 4)) (words_cons ab_mem (words_cons ab_mem (words_cons ab_mem (words_cons ab_mem words_nil))))) h3
theorem run13_5 (is : List Int) (h : is.length ≤ 10) (h3 : dr is 3 % 7 = .ofNat 5) : Ends (runs [B_law_12 is, B_law_13 is]) (S11 is) := run13_key is h 5 (by decide) (ys := [[ab (dr is (4 + 0) % 2)], [ab (dr is (4 + 1) % 2)], [ab (dr is (4 + 2) % 2)], [ab (dr is (4 + 3) % 2)], [ab (dr is (4 + 4) % 2)]]) (w := [ab (dr is (4 + 0) % 2), ab (dr is (4 + 1) % 2), ab (dr is (4 + 2) % 2), ab (dr is (4 + 3) % 2), ab (dr is (4 + 4) % 2)]) (by kernel_rfl) (Nat.le_of_ble_eq_true (by kernel_rfl)) (by kernel_rfl) (w5 ab_mem (words_cons ab_mem (words_cons ab_mem (words_cons ab_mem (words_cons ab_mem words_nil))))) h3
theorem run13_6 (is : List Int) (h : is.length ≤ 10) (h3 : dr is 3 % 7 = .ofNat 6) : Ends (runs [B_law_12 is, B_law_13 is]) (S11 is) := run13_key is h 6 (by decide) (ys := [[ab (dr is (4 + 0) % 2)], [ab (dr is (4 + 1) % 2)], [ab (dr is (4 + 2) % 2)], [ab (dr is (4 + 3) % 2)], [ab (dr is (4 + 4) % 2)], [ab (dr is (4 + 5) % 2)]]) (w := [ab (dr is (4 + 0) % 2), ab (dr is (4 + 1) % 2), ab (dr is (4 + 2) % 2), ab (dr is (4 + 3) % 2), ab (dr is (4 + 4) % 2), ab (dr is (4 + 5) % 2)]) (by kernel_rfl) (Nat.le_of_ble_eq_true (by kernel_rfl)) (by kernel_rfl) (w6 ab_mem ab_mem (words_cons ab_mem (words_cons ab_mem (words_cons ab_mem (words_cons ab_mem words_nil))))) h3
theorem run13 (is : List Int) (h : is.length ≤ 10) : Ends (runs [B_law_12 is, B_law_13 is]) (S11 is) := by
  have hL : dr is 3 % 7 = 0 ∨ dr is 3 % 7 = 1 ∨ dr is 3 % 7 = 2 ∨ dr is 3 % 7 = 3 ∨ dr is 3 % 7 = 4 ∨ dr is 3 % 7 = 5 ∨ dr is 3 % 7 = 6 := by omega
  rcases hL with h3 | h3 | h3 | h3 | h3 | h3 | h3
  · exact run13_0 is h h3
  · exact run13_1 is h h3
  · exact run13_2 is h h3
  · exact run13_3 is h h3
  · exact run13_4 is h h3
  · exact run13_5 is h h3
  · exact run13_6 is h h3
theorem runA (is : List Int) (a b c : Int) : runs [B_law_3 is, B_law_4 is, B_law_5 is, B_law_6 is, B_law_7 is, B_law_8 is] (S2 is (a % 4) b [ab (c % 2)]) = some (.next, S8 is b [ab (c % 2)]) := by
  have ha : a % 4 = 0 ∨ a % 4 = 1 ∨ a % 4 = 2 ∨ a % 4 = 3 := by omega
  rcases ha with h | h | h | h <;> rcases (ab_mem : ab (c % 2) = 97 ∨ _) with h0 | h0 <;> rw [h, h0]
  · exact A_0_a is b
  · exact A_0_b is b
  · exact A_1_a is b
  · exact A_1_b is b
  · exact A_2_a is b
  · exact A_2_b is b
  · exact A_3_a is b
  · exact A_3_b is b
theorem runB_ (is : List Int) (a c : Int) : runs [B_law_9 is, B_law_10 is, B_law_11 is] (S8 is (a % 5) [ab (c % 2)]) = some (.next, S11 is) := by
  have ha : a % 5 = 0 ∨ a % 5 = 1 ∨ a % 5 = 2 ∨ a % 5 = 3 ∨ a % 5 = 4 := by omega
  rcases ha with h | h | h | h | h <;> rcases (ab_mem : ab (c % 2) = 97 ∨ _) with h0 | h0 <;> rw [h, h0]
  · exact B_0_a is
  · exact B_0_b is
  · exact B_1_a is
  · exact B_1_b is
  · exact B_2_a is
  · exact B_2_b is
  · exact B_3_a is
  · exact B_3_b is
  · exact B_4_a is
  · exact B_4_b is
theorem law_all (is : List Int) (h : is.length ≤ 10) : Ends (B_law is) S0 := by
  obtain ⟨S', q1, q2⟩ := run13 is h
  refine ⟨S', ?_, q2⟩
  have r0 : runs [B_law_0 is, B_law_1 is, B_law_2 is] S0 = some (.next, S2 is (dr is 0 % 4) (dr is 1 % 5) [ab (dr is 2 % 2)]) := by
    show seqS (B_law_0 is) (seqS (B_law_1 is) (seqS (B_law_2 is) nilS)) S0 = _
    unfold seqS
    rw [e0]
    dsimp only
    rw [e1 is h]
    dsimp only
    rw [e2]
    rfl
  exact runs_app r0 (runs_app (runA is _ _ _) (runs_app (runB_ is _ _) q1))
end Mp
namespace Mp
theorem take10 (xs : List V) : sliceL xs none (some 10) = xs.take 10 := by
  unfold sliceL clipAt
  simp only [Option.elim]
  rw [if_neg (by omega)]
  simp
  omega
theorem ints_vrs {cx : Cx} {led ρ} : ∀ {vs : List Value} {is : List Int}, IntsAre vs is → VRs cx led ρ (is.map .int) vs
  | _, _, .nil => .nil
  | _, _, .cons _ _ r => .cons (.int _ _) (ints_vrs r)
noncomputable abbrev tbs : List (Addr × Addr) := [(879, 875), (898, 896)]
theorem glue3 {mean : ExcName → Option Value} {mg mb : Str → Option Value} {loose : List Str} {prog : Program} {w : World} {s₁ : Shared} {fa w3 : Addr} {h₁ : Heap} {tk : Nat} {c1 c2 c3 c4 : Obj} {m1 m2 m3 m4 : Option Value} {m : Str → Option Value} {vs : List Value} {is : List Int} {name : Str} {scope : Scope} {body : List Stmt}
    {Q : Flow → Shared → Prop} {E : Value → Shared → Prop}
    (X : (K w.params).In (ghostOf s₁.heap tbs)) (T : Top topProg loose mean mg mb (ghostOf s₁.heap tbs)) (B : Below callerA (ghostOf s₁.heap tbs) [] (ghostOf s₁.heap tbs))
    (F : Fr (ghostOf s₁.heap tbs) s₁.heap.objs.size h₁ m) (N : News (ghostOf s₁.heap tbs) s₁.heap.objs.size h₁ [(s₁.heap.objs.size + 1 + 1 + 1 + 1, c4), (s₁.heap.objs.size + 1 + 1 + 1, c3), (s₁.heap.objs.size + 1 + 1, c2), (s₁.heap.objs.size + 1, c1), (875, tabObj #[]), (896, tabObj #[])])
    (hc4 : c4.data = .cell m4) (hc3 : c3.data = .cell m3) (hc2 : c2.data = .cell m2) (hc1 : c1.data = .cell m1) (hl : (ghostOf s₁.heap tbs).IsList w3 vs.toArray) (hI : IntsAre vs is) (hlen : ¬ ((63 : Nat) : Int) < (is.length : Nat)) (l0 : 875 < s₁.heap.objs.size ∧ 896 < s₁.heap.objs.size)
    (hm : m "script" = some (.ref w3)) (hname : name = (fdOf (K w.params) 899).qualname) (hscope : scope = (fdOf (K w.params) 899).scope) (hbody : body = stOf (K w.params) 899)
    (hQ : ∀ h' tk', (∀ b o, (ghostOf s₁.heap tbs).get? b = some o → h'.get? b = some o) → GrownAt 875 h' → GrownAt 896 h' → Q (.ret (.bool true)) { heap := h', gens := s₁.gens, drawn := s₁.drawn, toks := tk', os := s₁.os }) :
    wpAny (model prog w) (callerA.deeper (envOfC name scope s₁.heap.objs.size fa (.ref 898))) (execs body (envOfC name scope s₁.heap.objs.size fa (.ref 898))) Q E { heap := h₁, gens := s₁.gens, drawn := s₁.drawn, toks := tk, os := s₁.os } := by
  obtain ⟨so, so1, so2, k, so3⟩ := hl
  let c : Base := ⟨prog, w, topProg, loose, mean, mg, mb, w3, so⟩
  have X' : (cx c).K.In (ghostOf s₁.heap tbs) := K_more X so1
  have hat : (cx c).K.lookup ((cx c).ga 5000000) = some so := K_more_at X so1
  have hx : ScrOk (cx c) 5000000 10 ((is.take 10).map .int) := ⟨so, vs.toArray, k, is.map .int, hat, so2, so3, fun led ρ => ints_vrs hI, by rw [List.length_map]; omega, by rw [take10, List.map_take]⟩
  have hbody' : body = stOf (cx c).K 899 := by rw [hbody]; kernel_rfl
  have hscope' : (sc_899 c).cs = scope := by rw [hscope]; kernel_rfl
  have hkind : scope.kind = .function := by rw [hscope]; kernel_rfl
  have hex : (sc_899 c).ex (envOfC name scope s₁.heap.objs.size fa (.ref 898)) := ⟨s₁.heap.objs.size, fa, cellsFrom (s₁.heap.objs.size + 1) scope.names [], by rw [hname, hscope]; kernel_rfl⟩
  have ok := topF_ok (cx := cx c) (d := 18) (sc := sc_899 c) (name := name) (fa := fa) (L := s₁.heap.objs.size) (cd := .ref 898) X' T B hscope' hkind hex (by decide)
  have hcode0 : ((cx c).cd 0).code = 879 := by kernel_rfl
  have hcode1 : ((cx c).cd 1).code = 898 := by kernel_rfl
  have I : Inv (cx c) (topF (ghostOf s₁.heap tbs) s₁.heap.objs.size (envOfC name scope s₁.heap.objs.size fa (.ref 898))) h₁ m [(s₁.heap.objs.size + 1 + 1 + 1 + 1, c4), (s₁.heap.objs.size + 1 + 1 + 1, c3), (s₁.heap.objs.size + 1 + 1, c2), (s₁.heap.objs.size + 1, c1), (875, tabObj #[]), (896, tabObj #[])]
      [(875, 875), (896, 896), (s₁.heap.objs.size + 1 + 1 + 1 + 1, s₁.heap.objs.size + 1 + 1 + 1 + 1), (s₁.heap.objs.size + 1 + 1 + 1, s₁.heap.objs.size + 1 + 1 + 1), (s₁.heap.objs.size + 1 + 1, s₁.heap.objs.size + 1 + 1), (s₁.heap.objs.size + 1, s₁.heap.objs.size + 1)] S0.st := by
    generalize s₁.heap.objs.size = n at *
    obtain ⟨l1, l2⟩ := l0
    refine ⟨F, by simpa [topF] using N, ?_, ?_, rfl, fun i o e => ?_⟩
    · show [n + 1 + 1 + 1 + 1, n + 1 + 1 + 1, n + 1 + 1, n + 1, 875, 896].Nodup
      simp
      omega
    · show [875, 896, n + 1 + 1 + 1 + 1, n + 1 + 1 + 1, n + 1 + 1, n + 1].Nodup
      simp
      omega
    · match i with
      | 0 =>
        cases e
        exact ⟨875, #[], rfl, by simp, by rw [hcode0]; exact codeHd_of (by kernel_rfl), .inl ⟨rfl, rfl⟩⟩
      | 1 =>
        cases e
        exact ⟨896, #[], rfl, by simp, by rw [hcode1]; exact codeHd_of (by kernel_rfl), .inl ⟨rfl, rfl⟩⟩
      | 2 =>
        cases e
        exact ⟨n + 1 + 1 + 1 + 1, c4, m4, rfl, by simp, hc4, .inl rfl⟩
      | 3 =>
        cases e
        exact ⟨n + 1 + 1 + 1, c3, m3, rfl, by simp, hc3, .inl rfl⟩
      | 4 =>
        cases e
        exact ⟨n + 1 + 1, c2, m2, rfl, by simp, hc2, .inl rfl⟩
      | 5 =>
        cases e
        exact ⟨n + 1, c1, m1, rfl, by simp, hc1, .inl rfl⟩
      | i + 6 => simp [S0] at e
  have R : LR (cx c) (sc_899 c) (topF (ghostOf s₁.heap tbs) s₁.heap.objs.size (envOfC name scope s₁.heap.objs.size fa (.ref 898))) m [(s₁.heap.objs.size + 1 + 1 + 1 + 1, c4), (s₁.heap.objs.size + 1 + 1 + 1, c3), (s₁.heap.objs.size + 1 + 1, c2), (s₁.heap.objs.size + 1, c1), (875, tabObj #[]), (896, tabObj #[])]
      [(875, 875), (896, 896), (s₁.heap.objs.size + 1 + 1 + 1 + 1, s₁.heap.objs.size + 1 + 1 + 1 + 1), (s₁.heap.objs.size + 1 + 1 + 1, s₁.heap.objs.size + 1 + 1 + 1), (s₁.heap.objs.size + 1 + 1, s₁.heap.objs.size + 1 + 1), (s₁.heap.objs.size + 1, s₁.heap.objs.size + 1)] S0.lo S0.ce := by
    refine ⟨(by decide : (["script", "goes", "more", "begun", "letter", "thrice", "other", "word"] : List Str).Nodup), rfl, fun i x v hx hv hne => ?_, fun i x hx => ?_⟩
    · match i with
      | 0 =>
        cases hx
        cases hv
        exact ⟨.ref w3, hm, .g 5000000⟩
      | i + 1 =>
        have : v = .undef := by
          have hmem : v ∈ [U, U, U, U, U, U, U] := List.mem_of_getElem? (i := i) (by simpa [S0] using hv)
          simpa using hmem
        exact absurd this hne
    · match i with
      | 0 =>
        cases hx
        refine ⟨s₁.heap.objs.size + 1 + 1 + 1 + 1, 2, ?_, rfl, rfl⟩
        show (cellsFrom (s₁.heap.objs.size + 1) scope.names []).lookup _ = _
        rw [hscope]
        kernel_rfl
      | 1 =>
        cases hx
        refine ⟨s₁.heap.objs.size + 1 + 1 + 1, 3, ?_, rfl, rfl⟩
        show (cellsFrom (s₁.heap.objs.size + 1) scope.names []).lookup _ = _
        rw [hscope]
        kernel_rfl
      | 2 =>
        cases hx
        refine ⟨s₁.heap.objs.size + 1 + 1, 4, ?_, rfl, rfl⟩
        show (cellsFrom (s₁.heap.objs.size + 1) scope.names []).lookup _ = _
        rw [hscope]
        kernel_rfl
      | 3 =>
        cases hx
        refine ⟨s₁.heap.objs.size + 1, 5, ?_, rfl, rfl⟩
        show (cellsFrom (s₁.heap.objs.size + 1) scope.names []).lookup _ = _
        rw [hscope]
        kernel_rfl
      | i + 4 => simp [sc_899] at hx
  obtain ⟨S', h1, h2, h3⟩ := law_all (is.take 10) (by rw [List.length_take]; omega)
  subst hbody'
  exact top_fin ok (S_law c hx) (s := { heap := h₁, gens := s₁.gens, drawn := s₁.drawn, toks := tk, os := s₁.os }) I R h1 fun h' tk' m' led' ρ' I' G' => hQ h' tk' I'.F.keep (grown_of I' h2 (G'.at (show _ = some (875, 875) from rfl))) (grown_of I' h3 (G'.at (show _ = some (896, 896) from rfl)))
end Mp
namespace Mp
theorem nm0 : PySem.W.Fast.tw17448422675489707002 qv (PySem.W.Fast.tw821141287760084731 qv lo) (namesW qv lo) = true := by kernel_rfl
theorem nm1 : namesOk qv (looseW qv lo) (namesW qv lo) = true := by rw [PySem.W.Fast.te17448422675489707002, PySem.W.Fast.te821141287760084731]; exact nm0
theorem im0 : PySem.W.Fast.tw2458874890965802552 qv = true := by kernel_rfl
theorem im1 : importsNone qv = true := by rw [PySem.W.Fast.te2458874890965802552]; exact im0
end Mp
local macro_rules | `(tactic| k_qdec) => `(tactic| first | with_reducible exact Mp.nm1 | with_reducible exact Mp.im1)
theorem PySem.Challenge.cw_sz0093_03_holds : PySem.Challenge.rw_sz0093_03.Holds := by
  w_on
  refine holds_law Mp.said1 fun said => ?_
  refine holds_open (q := Mp.qv) (loose := Mp.lo) (Xt := Mp.Xt1) (XP := XL Mp.qv []) (Yf := Hook.obs (kHook Mp.K Mp.kas Mp.kas_eq)) (Ya := Hook.val (kHook Mp.K Mp.kas Mp.kas_eq)) (YP := Hook.says (kHook Mp.K Mp.kas Mp.kas_eq)) (N := 2 * Mp.hS + 100) Mp.left_ (Hook.of (kHook Mp.K Mp.kas Mp.kas_eq)) (Hook.keeps (kHook Mp.K Mp.kas Mp.kas_eq)) (fun s e => xl_of s (Bool.and_eq_true_iff.mp e).1) XL.keeps (by rfl) (by rfl) (by rfl) (fun s e => recFacts_of (Bool.and_eq_true_iff.mp e).2) (by rfl) (by assumption) Mp.chains1 ⟨rfl, rfl, rfl, rfl, rfl, by decide +kernel⟩ ?hw ?hc
  case hw => w_witness2
  clear said
  w_strict (k_go0; exact Mp.glue3 (by assumption) (by assumption) (by assumption) (by assumption) (by assumption) (by assumption) (by assumption) (by assumption) (by assumption) (by assumption) (by assumption) (by assumption) (by assumption) (by kernel_rfl) (by kernel_rfl) (by kernel_rfl) (by kernel_rfl) (fun h' tk' hk hg hg2 => ⟨⟨.inl ⟨.bool true, .bool true, [], rfl, fun _ => rfl, .bool true, (by kernel_rfl), fun _ => ⟨List.nodup_nil, fun a ha => nomatch ha⟩⟩, hk, rfl, by assumption⟩, hg, hg2, trivial⟩))

