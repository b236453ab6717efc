import PyProof.Rows.All
import Wide.All
import OpenK.AllK
import Wide.FinOn
import PySem.Challenge.RW_sz0093_01
open PySem PySem.W PySem.Calls PyProof.Rows
set_option Elab.async false
set_option maxRecDepth 1000000
set_option maxHeartbeats 8000000
set_option linter.all false
namespace Mp
section
variable {α : Type}
noncomputable def gt (l : List α) (n : Nat) : Option α := @List.rec α (fun _ => Nat → Option α) (fun _ => none) (fun a _ ih n => @Nat.rec (fun _ => Option α) (some a) (fun m _ => ih m) n) l n
noncomputable def pt (l : List α) (n : Nat) (x : α) : List α := @List.rec α (fun _ => Nat → List α) (fun _ => []) (fun a t ih n => @Nat.rec (fun _ => List α) (x :: t) (fun m _ => a :: ih m) n) l n
noncomputable def ad (l : List α) (x : α) : List α := @List.rec α (fun _ => List α) [x] (fun a _ ih => a :: ih) l
noncomputable def ln (l : List α) : Nat := @List.rec α (fun _ => Nat) 0 (fun _ _ ih => Nat.add ih 1) l
theorem gt_eq (l : List α) (n : Nat) : gt l n = l[n]? := by
  induction l generalizing n with
  | nil => rfl
  | cons a t ih =>
    cases n with
    | zero => rfl
    | succ n => exact ih n
theorem pt_eq (l : List α) (n : Nat) (x : α) : pt l n x = l.set n x := by
  induction l generalizing n with
  | nil => rfl
  | cons a t ih =>
    cases n with
    | zero => rfl
    | succ n => exact congrArg (a :: ·) (ih n)
theorem ad_eq (l : List α) (x : α) : ad l x = l ++ [x] := by
  induction l with
  | nil => rfl
  | cons a t ih => exact congrArg (a :: ·) ih
theorem ln_eq (l : List α) : ln l = l.length := by
  induction l with
  | nil => rfl
  | cons a t ih => exact congrArg (· + 1) ih
end
noncomputable abbrev Led := List (Addr × Obj)
noncomputable abbrev Rho := List (Addr × Addr)
inductive V where
  | undef
  | none
  | bool (b : Bool)
  | int (i : Int)
  | str (s : List Nat)
  | ref (i : Nat)
  | g (n : Nat)
  | tup (vs : List V)
noncomputable def V.isUndef : V → Bool
  | .undef => true
  | _ => false
inductive Ob where
  | list (vs : List V)
  | nums (is : List Int)
  | inst (c : Nat) (fs : List V)
  | cell (v : V)
  | dict (es : List (List Nat × V))
  | clo (n : Nat) (cells : List Nat)
  | tab (n : Nat) (made : Bool)
  | junk
structure CD where
  name : Str
  qual : Str
  params : Arguments
  body : List Stmt
  scope : Scope
  pos : Pos
  fv : List Str
  code : Addr
structure Cx where
  prog : Program
  w : World
  K : Frag
  p : Program
  loose : List Str
  mean : ExcName → Option Value
  mg : Str → Option Value
  mb : Str → Option Value
  ga : Nat → Addr
  attrs : Nat → List Str
  cd : Nat → CD
noncomputable abbrev Cx.M (cx : Cx) : Model := model cx.prog cx.w
noncomputable def named (vs : Array Value) : Bool := match (vs[1]? : Option Value) with
  | some (.str _ _) => true
  | _ => false
noncomputable def Frz (o : Obj) : Bool := match o.data with
  | .seq _ _ => o.cls == .type "tuple"
  | .plain => true
  | .fields vs => !(o.cls == .none) || named vs
  | .func _ => true
  | _ => false
noncomputable abbrev tupObj (ws : List Value) (n : Nat) : Obj := { cls := .type "tuple", data := .seq ws.toArray n }
mutual
inductive VR (cx : Cx) (led : Led) (ρ : Rho) : V → Value → Prop
  | none : VR cx led ρ .none .none
  | bool (b : Bool) : VR cx led ρ (.bool b) (.bool b)
  | int (i : Int) (t : Tok) : VR cx led ρ (.int i) (.int i t)
  | str (cs : List Nat) (t : Tok) : VR cx led ρ (.str cs) (.str ⟨cs.toArray⟩ t)
  | ref (i : Nat) (a d : Addr) : ρ[i]? = some (a, d) → VR cx led ρ (.ref i) (.ref a)
  | g (n : Nat) : VR cx led ρ (.g n) (.ref (cx.ga n))
  | tup (vs : List V) (ws : List Value) (a : Addr) (n : Nat) :
      ((a, tupObj ws n) ∈ led ∨ cx.K.lookup a = some (tupObj ws n)) → VRs cx led ρ vs ws → VR cx led ρ (.tup vs) (.ref a)
inductive VRs (cx : Cx) (led : Led) (ρ : Rho) : List V → List Value → Prop
  | nil : VRs cx led ρ [] []
  | cons {v w vs ws} : VR cx led ρ v w → VRs cx led ρ vs ws → VRs cx led ρ (v :: vs) (w :: ws)
end
noncomputable def Frz2 (o : Obj) : Bool := match o.data with
  | .seq _ _ => o.cls == .type "tuple"
  | .plain => true
  | .fields vs => named vs
  | .func _ => true
  | _ => false
theorem Frz.of2 {o : Obj} (h : Frz2 o = true) : Frz o = true := by
  unfold Frz2 at h
  unfold Frz
  split at h <;> simp_all
structure Grow2 (led : Led) (ρ : Rho) (led' : Led) (ρ' : Rho) : Prop where
  fz : ∀ p ∈ led, Frz2 p.2 = true → p ∈ led'
  rho : ∃ t, ρ' = ρ ++ t
structure Grow (led : Led) (ρ : Rho) (led' : Led) (ρ' : Rho) : Prop where
  fz : ∀ p ∈ led, Frz p.2 = true → p ∈ led'
  rho : ∃ t, ρ' = ρ ++ t
theorem Grow.to2 {led ρ led' ρ'} (g : Grow led ρ led' ρ') : Grow2 led ρ led' ρ' := ⟨fun p h f => g.fz p h (Frz.of2 f), g.rho⟩
theorem Grow2.at {led led' : Led} {ρ ρ' : Rho} (g : Grow2 led ρ led' ρ') {i : Nat} {q : Addr × Addr} (h : ρ[i]? = some q) : ρ'[i]? = some q := by
  obtain ⟨t, rfl⟩ := g.rho
  have := (List.getElem?_eq_some_iff.mp h).1
  rw [List.getElem?_append_left this]; exact h
theorem Grow.refl (led : Led) (ρ : Rho) : Grow led ρ led ρ := ⟨fun _ h _ => h, [], by simp⟩
theorem Grow.trans {led led' led'' ρ ρ' ρ''} (a : Grow led ρ led' ρ') (b : Grow led' ρ' led'' ρ'') : Grow led ρ led'' ρ'' := by
  obtain ⟨t, rfl⟩ := a.rho
  obtain ⟨u, rfl⟩ := b.rho
  exact ⟨fun p h f => b.fz p (a.fz p h f) f, t ++ u, by simp⟩
theorem Grow.at {led led' : Led} {ρ ρ' : Rho} (g : Grow led ρ led' ρ') {i : Nat} {q : Addr × Addr} (h : ρ[i]? = some q) : ρ'[i]? = some q := by
  obtain ⟨t, rfl⟩ := g.rho
  have := (List.getElem?_eq_some_iff.mp h).1
  rw [List.getElem?_append_left this]; exact h
theorem VR.mono2 {cx : Cx} {led led' : Led} {ρ ρ' : Rho} (g : Grow2 led ρ led' ρ') {v w} (h : VR cx led ρ v w) : VR cx led' ρ' v w :=
  @VR.rec cx led ρ (fun v w _ => VR cx led' ρ' v w) (fun vs ws _ => VRs cx led' ρ' vs ws) .none .bool .int .str (fun i a d h => .ref i a d (g.at h)) .g
    (fun vs ws a n h _ r => .tup vs ws a n (h.elim (fun h => .inl (g.fz _ h rfl)) .inr) r) .nil (fun _ _ a r => .cons a r) v w h
theorem VRs.mono2 {cx : Cx} {led led' : Led} {ρ ρ' : Rho} (g : Grow2 led ρ led' ρ') {vs ws} (h : VRs cx led ρ vs ws) : VRs cx led' ρ' vs ws :=
  @VRs.rec cx led ρ (fun v w _ => VR cx led' ρ' v w) (fun vs ws _ => VRs cx led' ρ' vs ws) .none .bool .int .str (fun i a d h => .ref i a d (g.at h)) .g
    (fun vs ws a n h _ r => .tup vs ws a n (h.elim (fun h => .inl (g.fz _ h rfl)) .inr) r) .nil (fun _ _ a r => .cons a r) vs ws h
theorem VR.mono {cx : Cx} {led led' : Led} {ρ ρ' : Rho} (g : Grow led ρ led' ρ') {v w} (h : VR cx led ρ v w) : VR cx led' ρ' v w := h.mono2 g.to2
theorem VRs.mono {cx : Cx} {led led' : Led} {ρ ρ' : Rho} (g : Grow led ρ led' ρ') {v w} (h : VRs cx led ρ v w) : VRs cx led' ρ' v w := h.mono2 g.to2
theorem VRs.length {cx led ρ} : ∀ {vs ws}, VRs cx led ρ vs ws → vs.length = ws.length
  | _, _, .nil => rfl
  | _, _, .cons _ r => by simp [VRs.length r]
theorem VRs.get {cx led ρ} : ∀ {vs ws} {i : Nat} {v}, VRs cx led ρ vs ws → vs[i]? = some v → ∃ w, ws[i]? = some w ∧ VR cx led ρ v w
  | _, _, 0, _, .cons a _, h => ⟨_, rfl, by simp at h; exact h ▸ a⟩
  | _, _, i + 1, _, .cons _ r, h => by simpa using VRs.get r (by simpa using h)
theorem VRs.append {cx led ρ} : ∀ {vs ws vs' ws'}, VRs cx led ρ vs ws → VRs cx led ρ vs' ws' → VRs cx led ρ (vs ++ vs') (ws ++ ws')
  | _, _, _, _, .nil, h => h
  | _, _, _, _, .cons a r, h => .cons a (VRs.append r h)
theorem VRs.set {cx led ρ} : ∀ {vs ws} (i : Nat) {v w}, VRs cx led ρ vs ws → VR cx led ρ v w → VRs cx led ρ (vs.set i v) (ws.set i w)
  | _, _, _, _, _, .nil, _ => .nil
  | _, _, 0, _, _, .cons _ r, h => .cons h r
  | _, _, i + 1, _, _, .cons a r, h => .cons a (VRs.set i r h)
theorem VRs.take {cx led ρ} : ∀ {vs ws} (i : Nat), VRs cx led ρ vs ws → VRs cx led ρ (vs.take i) (ws.take i)
  | _, _, _, .nil => by simp; exact .nil
  | _, _, 0, .cons _ _ => .nil
  | _, _, i + 1, .cons a r => .cons a (VRs.take i r)
theorem VRs.drop {cx led ρ} : ∀ {vs ws} (i : Nat), VRs cx led ρ vs ws → VRs cx led ρ (vs.drop i) (ws.drop i)
  | _, _, _, .nil => by simp; exact .nil
  | _, _, 0, .cons a r => .cons a r
  | _, _, i + 1, .cons _ r => VRs.drop i r
structure FieldsR (cx : Cx) (led : Led) (ρ : Rho) (names : List Str) (fs : List V) (es : List DictEntry) : Prop where
  len : es.length + fs.countP V.isUndef ≤ fs.length
  nref : es.any (·.refKey) = false
  non : ∀ x, x ∉ names → getL x es = some none
  un : ∀ (i : Nat) (x : Str), names[i]? = some x → fs[i]? = some V.undef → getL x es = some none
  got : ∀ (i : Nat) (x : Str) (v : V), names[i]? = some x → fs[i]? = some v → v ≠ V.undef → ∃ w, getL x es = some (some w) ∧ VR cx led ρ v w
inductive PairsR (cx : Cx) (led : Led) (ρ : Rho) : List (List Nat × V) → List DictEntry → Prop
  | nil : PairsR cx led ρ [] []
  | cons {k t v w es ds} : VR cx led ρ v w → PairsR cx led ρ es ds → PairsR cx led ρ ((k, v) :: es) (⟨PyData.keyHash cx.w.params ⟨k.toArray⟩, .str ⟨k.toArray⟩ t, w⟩ :: ds)
inductive KvsR (cx : Cx) (led : Led) (ρ : Rho) : List (List Nat × V) → List (Str × Value) → Prop
  | nil : KvsR cx led ρ [] []
  | cons {k v w es ds} : VR cx led ρ v w → KvsR cx led ρ es ds → KvsR cx led ρ ((k, v) :: es) ((⟨k.toArray⟩, w) :: ds)
inductive CelsR (ρ : Rho) : List (Str × Addr) → List Str → List Nat → Prop
  | nil : CelsR ρ [] [] []
  | cons {x c k cl xs ks} : ρ[k]? = some (c, c) → CelsR ρ cl xs ks → CelsR ρ ((x, c) :: cl) (x :: xs) (k :: ks)
noncomputable def CodeR (led : Led) (qual : Str) (c' : Addr) : Prop := ∃ oc vs t, (c', oc) ∈ led ∧ oc.data = .fields vs ∧ vs[1]? = some (.str qual t)
noncomputable def ObR (cx : Cx) (led : Led) (ρ : Rho) (i : Nat) : Ob → Prop
  | .list vs => ∃ a ws n, ρ[i]? = some (a, a) ∧ (a, PySem.W.listOf ws n) ∈ led ∧ VRs cx led ρ vs ws.toList
  | .nums is => ∃ a ws n, ρ[i]? = some (a, a) ∧ (a, PySem.W.listOf ws n) ∈ led ∧ ∀ led ρ, VRs cx led ρ (is.map .int) ws.toList
  | .inst c fs => ∃ a d es n, ρ[i]? = some (a, d) ∧ (a, instObj (cx.ga c) d) ∈ led ∧ (d, dictOf es n) ∈ led ∧ fs.length = (cx.attrs c).length ∧ FieldsR cx led ρ (cx.attrs c) fs es
  | .cell v => ∃ a o w, ρ[i]? = some (a, a) ∧ (a, o) ∈ led ∧ o.data = .cell w ∧ (v = .undef ∨ ∃ w', w = some w' ∧ VR cx led ρ v w')
  | .dict es => ∃ a o ds, ρ[i]? = some (a, a) ∧ (a, o) ∈ led ∧ o.IsDictOf (PySem.strKind cx.prog cx.w) ds ∧ KvsR cx led ρ es ds
  | .clo n cells => ∃ a cl c' doc pm ctv, ρ[i]? = some (a, a) ∧ (a, fnMade (cx.cd n).name (cx.cd n).qual (cx.cd n).params (cx.cd n).body (cx.cd n).scope cl doc pm c' ctv) ∈ led ∧ CodeR led (cx.cd n).qual c' ∧ CelsR ρ cl (cx.cd n).fv cells
  | .tab n made => ∃ P ps, ρ[i]? = some (P, P) ∧ (P, tabObj ps) ∈ led ∧ (∀ h, cx.K.In h → CodeHd h (cx.cd n).code P) ∧
      ((made = false ∧ ps = #[]) ∨ (made = true ∧ ∃ c', ps = #[rawInt (cx.cd n).pos.line, rawInt (cx.cd n).pos.col, .ref c'] ∧ CodeR led (cx.cd n).qual c'))
  | .junk => ∃ a d o, ρ[i]? = some (a, d) ∧ (d, o) ∈ led ∧ (Frz o = false ∨ Frz2 o = true)
structure Fm where
  A : Around
  A₀ : Around
  base : Heap
  h₀ : Heap
  outer : List Env
  L : Addr
  kept : Led
  fe : Env
  ev : Env
structure Sc where
  cs : Scope
  ns : List Str
  cns : List Str
  ex : Env → Prop
noncomputable abbrev Fm.env (f : Fm) (_ : Sc) : Env := f.ev
noncomputable def NsObj (o : Obj) (m : Str → Option Value) : Prop := ∃ es ep, o.data = .dict es ep ∧ StrKeys es ∧ ∀ name, nsFind es name = m name
structure Fm.Ok (cx : Cx) (d : Nat) (sc : Sc) (f : Fm) : Prop where
  hA : f.A.frames = some (f.fe :: f.outer)
  B : Below f.A₀ f.base f.outer f.h₀
  X : cx.K.In f.h₀
  T : Top cx.p cx.loose cx.mean cx.mg cx.mb f.h₀
  hk : sc.cs.kind = .function
  evs : f.ev.scope = sc.cs
  evl : f.ev.locals = f.L
  evg : f.ev.globals = mainGlobals
  evb : f.ev.builtins = builtinsNs
  evx : sc.ex f.ev
  fek : f.fe.scope.kind = .function
  fr : f.fe.frame = some f.L ∨ ∃ Lr oL mo, f.fe.frame = some Lr ∧ (Lr, oL) ∈ f.kept ∧ NsObj oL mo ∧ f.h₀.objs.size ≤ Lr
  dep : f.A.depth + d < 1000
  un : f.A.units + 16 * d < 9800
  hh : f.A.handled = none
theorem Fm.Ok.evk {cx d sc f} (h : Fm.Ok cx d sc f) : f.ev.scope.kind = .function := by rw [h.evs]; exact h.hk
theorem Fm.Ok.kind {cx d sc f} (h : Fm.Ok cx d sc f) {x : Str} {k : NameKind} (e : sc.cs.names.lookup x = some k) : f.ev.kindOf x = some k := by
  show f.ev.scope.names.lookup x = some k
  rw [h.evs]; exact e
structure Inv (cx : Cx) (f : Fm) (h : Heap) (m : Str → Option Value) (led : Led) (ρ : Rho) (st : List Ob) : Prop where
  F : Fr f.h₀ f.L h m
  N : News f.h₀ f.L h (led ++ f.kept)
  nd : ((led ++ f.kept).map (·.1)).Nodup
  sep : (ρ.map (·.2)).Nodup
  len : ρ.length = st.length
  ob : ∀ i o, st[i]? = some o → ObR cx led ρ i o
structure S where
  lo : List V
  ce : List Nat
  st : List Ob
structure LR (cx : Cx) (sc : Sc) (f : Fm) (m : Str → Option Value) (led : Led) (ρ : Rho) (lo : List V) (ce : List Nat) : Prop where
  nd : sc.ns.Nodup
  len : lo.length = sc.ns.length
  loc : ∀ (i : Nat) (x : Str) (v : V), sc.ns[i]? = some x → lo[i]? = some v → v ≠ V.undef → ∃ w, m x = some w ∧ VR cx led ρ v w
  cel : ∀ (i : Nat) (x : Str), sc.cns[i]? = some x → ∃ (c : Addr) (k : Nat), f.ev.cells.lookup x = some c ∧ ce[i]? = some k ∧ ρ[k]? = some (c, c)
theorem LR.mono2 {cx sc f m led ρ led' ρ' lo ce} (g : Grow2 led ρ led' ρ') (h : LR cx sc f m led ρ lo ce) : LR cx sc f m led' ρ' lo ce :=
  ⟨h.nd, h.len, fun i x v a b c => let ⟨w, p, q⟩ := h.loc i x v a b c; ⟨w, p, q.mono2 g⟩, fun i x a => let ⟨c, k, p, q, r⟩ := h.cel i x a; ⟨c, k, p, q, g.at r⟩⟩
theorem LR.mono {cx sc f m led ρ led' ρ' lo ce} (g : Grow led ρ led' ρ') (h : LR cx sc f m led ρ lo ce) : LR cx sc f m led' ρ' lo ce := h.mono2 g.to2
noncomputable abbrev put (s : Shared) (h : Heap) (tk : Nat) : Shared := { heap := h, gens := s.gens, drawn := s.drawn, toks := tk, os := s.os }
noncomputable def PostE (cx : Cx) (f : Fm) (m : Str → Option Value) (led : Led) (ρ : Rho) (st' : List Ob) (v : V) (Q : Value → Shared → Prop) (s : Shared) : Prop :=
  ∀ w h' tk' led' ρ', Inv cx f h' m led' ρ' st' → Grow led ρ led' ρ' → VR cx led' ρ' v w → Q w (put s h' tk')
noncomputable def PostEs (cx : Cx) (f : Fm) (m : Str → Option Value) (led : Led) (ρ : Rho) (st' : List Ob) (vs : List V) (Q : List Value → Shared → Prop) (s : Shared) : Prop :=
  ∀ ws h' tk' led' ρ', Inv cx f h' m led' ρ' st' → Grow led ρ led' ρ' → VRs cx led' ρ' vs ws → Q ws (put s h' tk')
noncomputable def PostT (cx : Cx) (f : Fm) (m : Str → Option Value) (led : Led) (ρ : Rho) (st' : List Ob) (b : Bool) (Q : Bool → Shared → Prop) (s : Shared) : Prop :=
  ∀ h' tk' led' ρ', Inv cx f h' m led' ρ' st' → Grow led ρ led' ρ' → Q b (put s h' tk')
noncomputable def PostU (cx : Cx) (f : Fm) (m : Str → Option Value) (led : Led) (ρ : Rho) (st' : List Ob) (Q : Unit → Shared → Prop) (s : Shared) : Prop :=
  ∀ h' tk' led' ρ', Inv cx f h' m led' ρ' st' → Grow led ρ led' ρ' → Q () (put s h' tk')
noncomputable abbrev SE := S → Option (V × List Ob)
noncomputable abbrev SEs := S → Option (List V × List Ob)
noncomputable abbrev ST := S → Option (Bool × List Ob)
inductive Fl where
  | next | brk | cont | ret (v : V)
noncomputable abbrev SS := S → Option (Fl × S)
inductive FlR (cx : Cx) (led : Led) (ρ : Rho) : Fl → Flow → Prop
  | next : FlR cx led ρ .next .next
  | brk : FlR cx led ρ .brk .brk
  | cont : FlR cx led ρ .cont .cont
  | ret {v w} : VR cx led ρ v w → FlR cx led ρ (.ret v) (.ret w)
noncomputable def PostS (cx : Cx) (sc : Sc) (f : Fm) (led : Led) (ρ : Rho) (S' : S) (fl : Fl) (Q : Flow → Shared → Prop) (s : Shared) : Prop :=
  ∀ fw m' h' tk' led' ρ', Inv cx f h' m' led' ρ' S'.st → Grow led ρ led' ρ' → LR cx sc f m' led' ρ' S'.lo S'.ce → FlR cx led' ρ' fl fw → Q fw (put s h' tk')
structure SoundE (cx : Cx) (d : Nat) (sc : Sc) (e : Expr) (g : SE) : Prop where
  out : ∀ (f : Fm), f.Ok cx d sc → ∀ (s : Shared) m led ρ (S₀ : S), Inv cx f s.heap m led ρ S₀.st → LR cx sc f m led ρ S₀.lo S₀.ce → ∀ v st', g S₀ = some (v, st') →
    ∀ Q E, PostE cx f m led ρ st' v Q s → wpAny cx.M f.A (eval e (f.env sc)) Q E s
structure SoundEs (cx : Cx) (d : Nat) (sc : Sc) (es : List Expr) (g : SEs) : Prop where
  out : ∀ (f : Fm), f.Ok cx d sc → ∀ (s : Shared) m led ρ (S₀ : S), Inv cx f s.heap m led ρ S₀.st → LR cx sc f m led ρ S₀.lo S₀.ce → ∀ vs st', g S₀ = some (vs, st') →
    ∀ pos Q E, PostEs cx f m led ρ st' vs Q s → wpAny cx.M f.A (spliced (backTo pos (starEach es (f.env sc)))) Q E s
structure SoundT (cx : Cx) (d : Nat) (sc : Sc) (e : Expr) (g : ST) : Prop where
  out : ∀ (f : Fm), f.Ok cx d sc → ∀ (s : Shared) m led ρ (S₀ : S), Inv cx f s.heap m led ρ S₀.st → LR cx sc f m led ρ S₀.lo S₀.ce → ∀ b st', g S₀ = some (b, st') →
    ∀ Q E, PostT cx f m led ρ st' b Q s → wpAny cx.M f.A (PySem.isTrue e (f.env sc) (eval e (f.env sc))) Q E s
structure SoundS (cx : Cx) (d : Nat) (sc : Sc) (t : Stmt) (g : SS) : Prop where
  out : ∀ (f : Fm), f.Ok cx d sc → ∀ (s : Shared) m led ρ (S₀ : S), Inv cx f s.heap m led ρ S₀.st → LR cx sc f m led ρ S₀.lo S₀.ce → ∀ fl S', g S₀ = some (fl, S') →
    ∀ Q E, PostS cx sc f led ρ S' fl Q s → wpAny cx.M f.A (exec t (f.env sc)) Q E s
structure SoundB (cx : Cx) (d : Nat) (sc : Sc) (t : List Stmt) (g : SS) : Prop where
  out : ∀ (f : Fm), f.Ok cx d sc → ∀ (s : Shared) m led ρ (S₀ : S), Inv cx f s.heap m led ρ S₀.st → LR cx sc f m led ρ S₀.lo S₀.ce → ∀ fl S', g S₀ = some (fl, S') →
    ∀ Q E, PostS cx sc f led ρ S' fl Q s → wpAny cx.M f.A (execs t (f.env sc)) Q E s
noncomputable abbrev FnG := List V → List Ob → Option (V × List Ob)
structure CallOk (cx : Cx) (d : Nat) (fv : Value) (g : FnG) : Prop where
  out : ∀ (sc : Sc) (f : Fm), f.Ok cx d sc → ∀ (s : Shared) m led ρ st, Inv cx f s.heap m led ρ st → ∀ vs ws, VRs cx led ρ vs ws → ∀ v st', g vs st = some (v, st') →
    ∀ R, PostE cx f m led ρ st' v (fun w s' => R (.ok (.ret w)) s') s → codeAny cx.M f.A (.call fv ⟨ws, []⟩) R s
theorem Fm.Ok.le {cx d d' sc f} (h : Fm.Ok cx d sc f) (hd : d' ≤ d) : Fm.Ok cx d' sc f :=
  { h with dep := by have := h.dep; omega, un := by have := h.un; omega }
theorem CallOk.le {cx d d' fv g} (h : CallOk cx d fv g) (hd : d ≤ d') : CallOk cx d' fv g := ⟨fun sc f ok => h.1 sc f (ok.le hd)⟩
theorem SoundE.le {cx d d' sc e g} (h : SoundE cx d sc e g) (hd : d ≤ d') : SoundE cx d' sc e g := ⟨fun f ok => h.1 f (ok.le hd)⟩
end Mp
namespace Mp
noncomputable def updL (d : Addr) (o' : Obj) (led : Led) : Led := led.map fun p => if p.1 = d then (d, o') else p
theorem updL_fst (d : Addr) (o' : Obj) (led : Led) : (updL d o' led).map (·.1) = led.map (·.1) := by
  unfold updL
  rw [List.map_map]
  apply List.map_congr_left
  intro p _
  simp only [Function.comp]
  split
  · rename_i h; exact h.symm
  · rfl
theorem updL_ne {d : Addr} {o' : Obj} {led : Led} {p : Addr × Obj} (h : p ∈ led) (n : p.1 ≠ d) : p ∈ updL d o' led := by
  unfold updL
  exact List.mem_map.mpr ⟨p, h, by simp [n]⟩
theorem updL_self {d : Addr} {o o' : Obj} {led : Led} (h : (d, o) ∈ led) : (d, o') ∈ updL d o' led := by
  unfold updL
  exact List.mem_map.mpr ⟨(d, o), h, by simp⟩
theorem upd_of {d : Addr} {o o' : Obj} : ∀ {led : Led}, (led.map (·.1)).Nodup → (d, o) ∈ led → Upd d o o' led (updL d o' led)
  | [], _, h => nomatch h
  | p :: r, nd, h => by
    simp only [List.map_cons, List.nodup_cons] at nd
    rcases List.mem_cons.mp h with rfl | h
    · have e : updL d o' ((d, o) :: r) = (d, o') :: r := by
        unfold updL
        rw [List.map_cons]
        simp only [if_true]
        congr 1
        rw [List.map_congr_left (g := id)]
        · simp
        · intro q hq
          have : q.1 ≠ d := fun e => nd.1 (List.mem_map.mpr ⟨q, hq, e⟩)
          simp [this]
      rw [e]
      exact .head fun q hq e => nd.1 (List.mem_map.mpr ⟨q, hq, e⟩)
    · have n : p.1 ≠ d := fun e => nd.1 (by rw [e]; exact List.mem_map.mpr ⟨(d, o), h, rfl⟩)
      have e : updL d o' (p :: r) = p :: updL d o' r := by
        unfold updL
        rw [List.map_cons]
        simp only [n, if_false]
      rw [e]
      exact .tail n (upd_of nd.2 h)
theorem CodeR.mono {led led' : Led} {ρ ρ' : Rho} {q : Str} {c' : Addr} (g : Grow2 led ρ led' ρ') (h : CodeR led q c') : CodeR led' q c' := by
  obtain ⟨oc, vs, t, h1, h2, h3⟩ := h
  exact ⟨oc, vs, t, g.fz _ h1 (by unfold Frz2 named; rw [h2]; simp only [h3]), h2, h3⟩
theorem CelsR.mono {led led' : Led} {ρ ρ' : Rho} {cl xs ks} (g : Grow2 led ρ led' ρ') (h : CelsR ρ cl xs ks) : CelsR ρ' cl xs ks := by
  induction h with
  | nil => exact .nil
  | cons a _ ih => exact .cons (g.at a) ih
theorem ObR.mono2 {cx led led' ρ ρ' i o} (g : Grow2 led ρ led' ρ') (hm : ∀ p ∈ led, ∀ a, ρ[i]? = some (a, p.1) → p ∈ led') : ObR cx led ρ i o → ObR cx led' ρ' i o := by
  intro h
  cases o with
  | list vs =>
    obtain ⟨a, ws, n, h1, h2, h3⟩ := h
    exact ⟨a, ws, n, g.at h1, hm _ h2 _ h1, h3.mono2 g⟩
  | nums is =>
    obtain ⟨a, ws, n, h1, h2, h3⟩ := h
    exact ⟨a, ws, n, g.at h1, hm _ h2 _ h1, h3⟩
  | inst c fs =>
    obtain ⟨a, d, es, n, h1, h2, h3, hl, h4, h5, h6, h7, h8⟩ := h
    exact ⟨a, d, es, n, g.at h1, g.fz _ h2 rfl, hm _ h3 _ h1, hl, h4, h5, h6, h7, fun i x v a b c => let ⟨w, p, q⟩ := h8 i x v a b c; ⟨w, p, q.mono2 g⟩⟩
  | cell v =>
    obtain ⟨a, o, w, h1, h2, h3, h4⟩ := h
    exact ⟨a, o, w, g.at h1, hm _ h2 _ h1, h3, h4.imp id fun ⟨w', e, r⟩ => ⟨w', e, r.mono2 g⟩⟩
  | dict es =>
    obtain ⟨a, o, ds, h1, h2, h3, h4⟩ := h
    refine ⟨a, o, ds, g.at h1, hm _ h2 _ h1, h3, ?_⟩
    clear h2 h3
    induction h4 with
    | nil => exact .nil
    | cons a _ ih => exact .cons (a.mono2 g) ih
  | clo n cells =>
    obtain ⟨a, cl, c', doc, pm, ctv, h1, h2, h3, h4⟩ := h
    exact ⟨a, cl, c', doc, pm, ctv, g.at h1, g.fz _ h2 rfl, h3.mono g, h4.mono g⟩
  | tab n made =>
    obtain ⟨P, ps, h1, h2, h3, h4⟩ := h
    exact ⟨P, ps, g.at h1, hm _ h2 _ h1, h3, h4.imp id fun ⟨e, c', q, r⟩ => ⟨e, c', q, r.mono g⟩⟩
  | junk =>
    obtain ⟨a, d, o, h1, h2, h3⟩ := h
    exact ⟨a, d, o, g.at h1, hm _ h2 _ h1, h3⟩
theorem ObR.mono {cx led led' ρ ρ' i o} (g : Grow led ρ led' ρ') (hm : ∀ p ∈ led, ∀ a, ρ[i]? = some (a, p.1) → p ∈ led') (h : ObR cx led ρ i o) : ObR cx led' ρ' i o := h.mono2 g.to2 hm
section
variable {cx : Cx} {f : Fm} {h : Heap} {m : Str → Option Value} {led : Led} {ρ : Rho} {st : List Ob}
theorem Inv.at_ (I : Inv cx f h m led ρ st) {p : Addr × Obj} (h1 : p ∈ led) : h.get? p.1 = some p.2 ∧ p.1 ≠ f.L ∧ f.h₀.get? p.1 = none := I.N p (List.mem_append_left _ h1)
theorem Inv.uniq (I : Inv cx f h m led ρ st) {a : Addr} {o o' : Obj} (h1 : (a, o) ∈ led) (h2 : (a, o') ∈ led) : o = o' := by
  have e1 := (I.at_ h1).1
  have e2 := (I.at_ h2).1
  simp only at e1 e2
  rw [e1] at e2
  exact Option.some.inj e2
theorem Inv.turn (I : Inv cx f h m led ρ st) {h' : Heap} {m' : Str → Option Value} (F' : Fr f.h₀ f.L h' m') (N' : News f.h₀ f.L h' (led ++ f.kept)) : Inv cx f h' m' led ρ st :=
  ⟨F', N', I.nd, I.sep, I.len, I.ob⟩
theorem Inv.push (I : Inv cx f h m led ρ st) {h' : Heap} {a : Addr} {o : Obj} (ha : ∀ p ∈ led ++ f.kept, p.1 ≠ a) (F' : Fr f.h₀ f.L h' m) (N' : News f.h₀ f.L h' ((a, o) :: (led ++ f.kept))) :
    Inv cx f h' m ((a, o) :: led) ρ st ∧ Grow led ρ ((a, o) :: led) ρ := by
  have g : Grow led ρ ((a, o) :: led) ρ := ⟨fun p h _ => .tail _ h, [], by simp⟩
  refine ⟨⟨F', N', ?_, I.sep, I.len, fun i o' e => (I.ob i o' e).mono g fun p h _ _ => .tail _ h⟩, g⟩
  rw [List.cons_append, List.map_cons, List.nodup_cons]
  exact ⟨fun q => by obtain ⟨p, hp, e⟩ := List.mem_map.mp q; exact ha p hp e, I.nd⟩
theorem Inv.make (I : Inv cx f h m led ρ st) {h' : Heap} {new : Led} {a d : Addr} {ob : Ob} (F' : Fr f.h₀ f.L h' m) (N' : News f.h₀ f.L h' (new ++ (led ++ f.kept)))
    (hn : ((new ++ (led ++ f.kept)).map (·.1)).Nodup) (hd : ∀ q ∈ ρ, q.2 ≠ d) (R : ObR cx (new ++ led) (ρ ++ [(a, d)]) st.length ob) :
    Inv cx f h' m (new ++ led) (ρ ++ [(a, d)]) (st ++ [ob]) ∧ Grow led ρ (new ++ led) (ρ ++ [(a, d)]) := by
  have g : Grow led ρ (new ++ led) (ρ ++ [(a, d)]) := ⟨fun p h _ => List.mem_append_right _ h, [(a, d)], rfl⟩
  refine ⟨⟨F', by rw [List.append_assoc]; exact N', by rw [List.append_assoc]; exact hn, ?_, by simp [I.len], fun i o' e => ?_⟩, g⟩
  · rw [List.map_append, List.nodup_append]
    refine ⟨I.sep, by simp, ?_⟩
    intro x hx y hy
    obtain ⟨q, hq, rfl⟩ := List.mem_map.mp hx
    simp only [List.map_cons, List.map_nil, List.mem_singleton] at hy
    rw [hy]
    exact hd q hq
  · by_cases hi : i < st.length
    · rw [List.getElem?_append_left hi] at e
      exact (I.ob i o' e).mono g fun p h _ _ => List.mem_append_right _ h
    · have : i = st.length := by
        have := (List.getElem?_eq_some_iff.mp e).1
        simp at this
        omega
      subst this
      simp at e
      exact e ▸ R
theorem nodup_at {l : List Addr} (h : l.Nodup) {i j : Nat} {x : Addr} (hi : l[i]? = some x) (hj : l[j]? = some x) : i = j := by
  exact (List.getElem?_inj (List.getElem?_eq_some_iff.mp hi).1 h).mp (hi.trans hj.symm)
theorem Inv.out (I : Inv cx f h m led ρ st) {d : Addr} {o : Obj} (ho : (d, o) ∈ led) : ∀ p ∈ f.kept, p.1 ≠ d := by
  intro p hp e
  have := I.nd
  rw [List.map_append, List.nodup_append] at this
  exact this.2.2 d (List.mem_map.mpr ⟨_, ho, rfl⟩) p.1 (List.mem_map_of_mem hp) e.symm
theorem updL_kept {d : Addr} {o' : Obj} : ∀ {k : Led}, (∀ p ∈ k, p.1 ≠ d) → updL d o' k = k
  | [], _ => rfl
  | p :: r, h => by
    show (if p.1 = d then (d, o') else p) :: updL d o' r = p :: r
    rw [if_neg (h p (.head _)), updL_kept fun q hq => h q (.tail _ hq)]
theorem Inv.updK (I : Inv cx f h m led ρ st) {d : Addr} {o o' : Obj} (ho : (d, o) ∈ led) : updL d o' (led ++ f.kept) = updL d o' led ++ f.kept := by
  show List.map _ _ = List.map _ _ ++ _
  rw [List.map_append]
  exact congrArg _ (updL_kept (I.out ho))
theorem Inv.upd (I : Inv cx f h m led ρ st) {d : Addr} {o o' : Obj} (ho : (d, o) ∈ led) : Upd d o o' (led ++ f.kept) (updL d o' led ++ f.kept) := by
  rw [← I.updK ho]
  exact upd_of I.nd (List.mem_append_left _ ho)
theorem Inv.updNd (I : Inv cx f h m led ρ st) {d : Addr} {o o' : Obj} (ho : (d, o) ∈ led) : ((updL d o' led ++ f.kept).map (·.1)).Nodup := by
  rw [← I.updK ho, updL_fst]
  exact I.nd
theorem Inv.step (I : Inv cx f h m led ρ st) {h' : Heap} {d : Addr} {o o' : Obj} (ho : (d, o) ∈ led) (hz : Frz2 o = false) (hn : ∀ q ∈ ρ, q.2 ≠ d)
    (F' : Fr f.h₀ f.L h' m) (N' : News f.h₀ f.L h' (updL d o' led ++ f.kept)) :
    Inv cx f h' m (updL d o' led) ρ st ∧ Grow2 led ρ (updL d o' led) ρ := by
  have g : Grow2 led ρ (updL d o' led) ρ := ⟨fun p hp hf => updL_ne hp fun e => (by
    obtain ⟨b, x⟩ := p
    simp only at e
    subst e
    rw [I.uniq hp ho, hz] at hf
    exact Bool.noConfusion hf), [], (by simp)⟩
  exact ⟨⟨F', N', I.updNd ho, I.sep, I.len, fun j x e => (I.ob j x e).mono2 g fun p hp b hb => updL_ne hp fun e' => hn _ (List.mem_of_getElem? hb) e'⟩, g⟩
theorem Inv.store (I : Inv cx f h m led ρ st) {h' : Heap} {i : Nat} {a d : Addr} {o o' : Obj} {ob : Ob} (hi : ρ[i]? = some (a, d)) (ho : (d, o) ∈ led) (hz : Frz o = false)
    (F' : Fr f.h₀ f.L h' m) (N' : News f.h₀ f.L h' (updL d o' led ++ f.kept)) (R : Grow led ρ (updL d o' led) ρ → ObR cx (updL d o' led) ρ i ob) :
    Inv cx f h' m (updL d o' led) ρ (st.set i ob) ∧ Grow led ρ (updL d o' led) ρ := by
  have g : Grow led ρ (updL d o' led) ρ := ⟨fun p hp hf => updL_ne hp fun e => (by
    obtain ⟨b, x⟩ := p
    simp only at e
    subst e
    rw [I.uniq hp ho, hz] at hf
    exact Bool.noConfusion hf), [], (by simp)⟩
  refine ⟨⟨F', N', I.updNd ho, I.sep, by simp [I.len], fun j x e => ?_⟩, g⟩
  by_cases hj : i = j
  · subst hj
    have := (List.getElem?_eq_some_iff.mp e).1
    rw [List.length_set] at this
    rw [List.getElem?_set_self this] at e
    exact Option.some.inj e ▸ R g
  · rw [List.getElem?_set_ne hj] at e
    refine (I.ob j x e).mono g fun p hp b hb => updL_ne hp fun e' => hj ?_
    refine nodup_at I.sep (x := d) ?_ ?_
    · rw [List.getElem?_map, hi]; rfl
    · rw [List.getElem?_map, hb, e']; rfl
end
theorem Fr.size_ne {h₀ h : Heap} {L : Addr} {led : Led} (N : News h₀ L h led) : ∀ p ∈ led, p.1 ≠ h.objs.size :=
  fun p hp => Nat.ne_of_lt (Heap.lt_size (N p hp).1)
theorem Inv.rho_mem {cx f h m led ρ st} (I : Inv cx f h m led ρ st) : ∀ q ∈ ρ, ∃ o, (q.2, o) ∈ led := by
  intro q hq
  obtain ⟨i, hi⟩ := List.getElem?_of_mem hq
  have hl : i < st.length := by rw [← I.len]; exact (List.getElem?_eq_some_iff.mp hi).1
  have ho := I.ob i st[i] (List.getElem?_eq_getElem hl)
  cases e : st[i] with
  | list vs => rw [e] at ho; obtain ⟨a, ws, n, h1, h2, _⟩ := ho; rw [hi] at h1; cases h1; exact ⟨_, h2⟩
  | nums is => rw [e] at ho; obtain ⟨a, ws, n, h1, h2, _⟩ := ho; rw [hi] at h1; cases h1; exact ⟨_, h2⟩
  | inst c fs => rw [e] at ho; obtain ⟨a, d, es, n, h1, _, h3, _⟩ := ho; rw [hi] at h1; cases h1; exact ⟨_, h3⟩
  | cell v => rw [e] at ho; obtain ⟨a, o, w, h1, h2, _⟩ := ho; rw [hi] at h1; cases h1; exact ⟨_, h2⟩
  | dict es => rw [e] at ho; obtain ⟨a, o', ds, h1, h2, _⟩ := ho; rw [hi] at h1; cases h1; exact ⟨_, h2⟩
  | clo n cells => rw [e] at ho; obtain ⟨a, cl, c', doc, pm, ctv, h1, h2, _⟩ := ho; rw [hi] at h1; cases h1; exact ⟨_, h2⟩
  | tab n made => rw [e] at ho; obtain ⟨P, ps, h1, h2, _⟩ := ho; rw [hi] at h1; cases h1; exact ⟨_, h2⟩
  | junk => rw [e] at ho; obtain ⟨a, d, o, h1, h2, _⟩ := ho; rw [hi] at h1; cases h1; exact ⟨_, h2⟩
end Mp
namespace Mp
section
variable {cx : Cx} {d : Nat} {sc : Sc}
noncomputable def cE (v : V) : SE := fun S => some (v, S.st)
theorem c_int {i : Int} {k : Nat} {pos : Pos} : SoundE cx d sc (.Constant (.int i) k pos) (cE (.int i)) := by
  refine ⟨?_⟩
  intro f ok s m led ρ S I R v st' hg Q E P
  cases hg
  exact wpAny_Constant_int (P _ _ _ _ _ I (.refl _ _) (.int _ _))
theorem c_str {x : Str} {cs : List Nat} {k : Nat} {pos : Pos} (hx : x = ⟨cs.toArray⟩) : SoundE cx d sc (.Constant (.str x) k pos) (cE (.str cs)) := by
  refine ⟨?_⟩
  intro f ok s m led ρ S I R v st' hg Q E P
  cases hg
  subst hx
  exact wpAny_Constant_str (P _ _ _ _ _ I (.refl _ _) (.str _ _))
theorem c_bool {b : Bool} {k : Nat} {pos : Pos} : SoundE cx d sc (.Constant (.bool b) k pos) (cE (.bool b)) := by
  refine ⟨?_⟩
  intro f ok s m led ρ S I R v st' hg Q E P
  cases hg
  exact wpAny_Constant_bool (P _ _ _ _ _ I (.refl _ _) (.bool _))
theorem c_none {k : Nat} {pos : Pos} : SoundE cx d sc (.Constant .none k pos) (cE .none) := by
  refine ⟨?_⟩
  intro f ok s m led ρ S I R v st' hg Q E P
  cases hg
  exact wpAny_Constant_none (P _ _ _ _ _ I (.refl _ _) .none)
noncomputable def lE (i : Nat) : SE := fun S => match gt S.lo i with
  | some .undef => none
  | some v => some (v, S.st)
  | none => none
structure LocName (sc : Sc) (i : Nat) (x : Str) : Prop where
  at_ : sc.ns[i]? = some x
  kind : sc.cs.names.lookup x = some .local
  dbg : (x == ("__debug__" : Str)) = false
theorem l_name {i : Nat} {x : Str} {pos : Pos} (h : LocName sc i x) : SoundE cx d sc (.Name x pos) (lE i) := by
  refine ⟨?_⟩
  intro f ok s m led ρ S I R v st' hg Q E P
  unfold lE at hg
  try simp only [gt_eq, pt_eq, ad_eq, ln_eq] at hg
  split at hg
  · cases hg
  · rename_i v' hne hv
    cases hg
    obtain ⟨w, hw, hr⟩ := R.loc i x _ h.at_ hv hne
    exact wpAny_Name (wpAny_loadName_local ok.evk (ok.kind h.kind) (by rw [ok.evl]; exact I.F.ns) hw (P _ _ _ _ _ I (.refl _ _) hr)) h.dbg
  · cases hg
structure GloName (cx : Cx) (sc : Sc) (x : Str) (w : Value) : Prop where
  at_ : nsIn cx.K mainGlobals x = some (some w)
  kind : sc.cs.names.lookup x = some .globalImplicit
  dbg : (x == ("__debug__" : Str)) = false
theorem g_name {x : Str} {pos : Pos} {w : Value} {v : V} (h : GloName cx sc x w) (hv : ∀ led ρ, VR cx led ρ v w) : SoundE cx d sc (.Name x pos) (cE v) := by
  refine ⟨?_⟩
  intro f ok s m led ρ S I R v st' hg Q E P
  cases hg
  exact nameG_K I.F ok.X (topRead_of ok.T) h.at_ (P _ _ _ _ _ I (.refl _ _) (hv _ _)) ok.evg ok.evk (ok.kind h.kind) h.dbg
theorem nameB {f : Fm} (ok : f.Ok cx d sc) {s : Shared} {m led ρ st} (I : Inv cx f s.heap m led ρ st) {x : Str} {pos : Pos} {v : Value} {Q : Value → Shared → Prop} {E} (e : nsIn cx.K mainGlobals x = some none) (hv : bootBuiltins x = some v) (hn : x ≠ "__name__")
    (hx : sc.cs.names.lookup x = some .globalImplicit) (hd : (x == ("__debug__" : Str)) = false) (h : Q v s) : wpAny cx.M f.A (eval (.Name x pos) f.ev) Q E s :=
  Name_function_global ok.evk (ok.kind hx) (loadGlobal_builtin (env := f.ev) (by rw [ok.evg]; exact ok.T.g.keeps I.F.keep) (mg_none_of ok.X ok.T.g e) (by rw [ok.evb]; exact ok.T.b.keeps I.F.keep) ((ok.T.builtins x hn).trans hv) h) hd
noncomputable def bE (op : V → V → Option V) (a b : SE) : SE := fun S => match a S with
  | some (x, st) => match b ⟨S.lo, S.ce, st⟩ with
    | some (y, st) => match op x y with
      | some z => some (z, st)
      | none => none
    | none => none
  | none => none
noncomputable def Bin (cx : Cx) (op : V → V → Option V) (tree : Value → Value → Sem Value) : Prop :=
  ∀ (A : Around), A.handled = none → ∀ (s : Shared) led ρ x y z wx wy, VR cx led ρ x wx → VR cx led ρ y wy → op x y = some z → ∀ Q E, (∀ w tk, VR cx led ρ z w → Q w (put s s.heap tk)) → wpAny cx.M A (tree wx wy) Q E s
theorem two_sound {a b : Expr} {ga gb : SE} {op : V → V → Option V} {tree : Value → Value → Sem Value} (ha : SoundE cx d sc a ga) (hb : SoundE cx d sc b gb) (hop : Bin cx op tree) :
    ∀ (f : Fm), f.Ok cx d sc → ∀ (s : Shared) m led ρ (S₀ : S), Inv cx f s.heap m led ρ S₀.st → LR cx sc f m led ρ S₀.lo S₀.ce → ∀ v st', bE op ga gb S₀ = some (v, st') →
    ∀ Q E, PostE cx f m led ρ st' v Q s → wpAny cx.M f.A (eval a (f.env sc)) (fun x s₁ => wpAny cx.M f.A (eval b (f.env sc)) (fun y s₂ => wpAny cx.M f.A (tree x y) Q E s₂) E s₁) E s := by
  intro f ok s m led ρ S I R v st' hg Q E P
  unfold bE at hg
  split at hg
  · rename_i x st1 ea
    split at hg
    · rename_i y st2 eb
      split at hg
      · rename_i z ez
        cases hg
        refine ha.1 f ok s m led ρ S I R x st1 ea _ _ fun wx h1 tk1 led1 ρ1 I1 G1 X1 => ?_
        refine hb.1 f ok (put s h1 tk1) m led1 ρ1 ⟨S.lo, S.ce, st1⟩ I1 (R.mono G1) y _ eb _ _ fun wy h2 tk2 led2 ρ2 I2 G2 X2 => ?_
        exact hop f.A ok.hh _ led2 ρ2 x y _ wx wy (X1.mono G2) X2 ez _ _ fun w tk X => P w h2 tk led2 ρ2 I2 (G1.trans G2) X
      · cases hg
    · cases hg
  · cases hg
theorem b_op {l r : Expr} {gl gr : SE} {o : Operator} {op : V → V → Option V} {pos : Pos} (hl : SoundE cx d sc l gl) (hr : SoundE cx d sc r gr) (hop : Bin cx op (binaryOp o)) :
    SoundE cx d sc (.BinOp l o r pos) (bE op gl gr) := ⟨fun f ok s m led ρ S I R v st' hg Q E P =>
  wpAny_BinOp (two_sound hl hr hop f ok s m led ρ S I R v st' hg Q E P)⟩
theorem b_cmp {l r : Expr} {gl gr : SE} {o : CmpOp} {op : V → V → Option V} {pos : Pos} (hl : SoundE cx d sc l gl) (hr : SoundE cx d sc r gr) (hop : Bin cx op (compareOp o)) (hm : behindInMarks o r = false) :
    SoundE cx d sc (.Compare l [o] [r] pos) (bE op gl gr) := ⟨fun f ok s m led ρ S I R v st' hg Q E P =>
  wpAny_Compare1 (two_sound hl hr hop f ok s m led ρ S I R v st' hg Q E P) hm⟩
noncomputable def addV : V → V → Option V
  | .int a, .int b => some (.int (a + b))
  | .str a, .str b => if a.length + b.length ≤ 100000 then some (.str (a ++ b)) else none
  | _, _ => none
noncomputable def subV : V → V → Option V
  | .int a, .int b => some (.int (a - b))
  | _, _ => none
noncomputable def mulV : V → V → Option V
  | .int a, .int b => if a.natAbs ≤ 100000 ∧ b.natAbs ≤ 100000 then some (.int (a * b)) else none
  | .str a, .int b => if 0 ≤ b ∧ b ≤ 1000 ∧ a.length ≤ 1000 then some (.str (List.replicate b.toNat a).flatten) else none
  | _, _ => none
noncomputable def divV : V → V → Option V
  | .int a, .int b => if 0 < b ∧ b ≤ 1000 ∧ a.natAbs ≤ 100000000 then some (.int (a / b)) else none
  | _, _ => none
noncomputable def modV : V → V → Option V
  | .int a, .int b => if 0 < b then some (.int (a % b)) else none
  | _, _ => none
noncomputable def intO (f : Int → Int → Option V) : V → V → Option V
  | .int a, .int b => f a b
  | _, _ => none
theorem intO_inv {f : Int → Int → Option V} {x y z : V} (e : intO f x y = some z) : ∃ a b, x = .int a ∧ y = .int b ∧ f a b = some z := by
  unfold intO at e
  split at e
  · exact ⟨_, _, rfl, rfl, e⟩
  · cases e
theorem VR.int_inv {led ρ a w} (X : VR cx led ρ (.int a) w) : ∃ t, w = .int a t := by
  cases X
  exact ⟨_, rfl⟩
theorem VR.str_inv {led ρ a w} (X : VR cx led ρ (.str a) w) : ∃ t, w = .str ⟨a.toArray⟩ t := by
  cases X
  exact ⟨_, rfl⟩
theorem VR.bool_inv {led ρ a w} (X : VR cx led ρ (.bool a) w) : w = .bool a := by
  cases X
  rfl
theorem VR.none_inv {led ρ w} (X : VR cx led ρ .none w) : w = .none := by
  cases X
  rfl
theorem bin_int {f : Int → Int → Option V} {tree : Value → Value → Sem Value}
    (h : ∀ (A : Around), A.handled = none → ∀ (s : Shared) led ρ a b t u z, f a b = some z → ∀ Q E, (∀ w tk, VR cx led ρ z w → Q w (put s s.heap tk)) → wpAny cx.M A (tree (.int a t) (.int b u)) Q E s) : Bin cx (intO f) tree := by
  intro A hh s led ρ x y z wx wy X Y e Q E P
  obtain ⟨a, b, rfl, rfl, e⟩ := intO_inv e
  obtain ⟨t, rfl⟩ := X.int_inv
  obtain ⟨u, rfl⟩ := Y.int_inv
  exact h A hh s led ρ a b t u z e Q E P
theorem bin_add : Bin cx addV (binaryOp .Add) := by
  intro A hh s led ρ x y z wx wy X Y e Q E P
  unfold addV at e
  split at e
  · cases e
    obtain ⟨t, rfl⟩ := X.int_inv
    obtain ⟨u, rfl⟩ := Y.int_inv
    exact add_int (P _ _ (.int _ _))
  · split at e
    · rename_i a b hb
      cases e
      obtain ⟨t, rfl⟩ := X.str_inv
      obtain ⟨u, rfl⟩ := Y.str_inv
      refine add_str (fun t' tk => ?_) (by show a.toArray.size + b.toArray.size ≤ sizeLine; rw [sizeLine_eq]; simp only [List.size_toArray]; omega)
      have : (⟨a.toArray⟩ : Str) ++ ⟨b.toArray⟩ = ⟨(a ++ b).toArray⟩ := by
        show Str.append _ _ = _
        unfold Str.append
        simp
      rw [this]
      exact P _ _ (.str _ _)
    · cases e
  · cases e
theorem bin_sub : Bin cx subV (binaryOp .Sub) := bin_int (f := fun a b => some (.int (a - b))) fun A hh s led ρ a b t u z e Q E P => by
  cases e
  exact sub_int (P _ _ (.int _ _))
theorem bin_mod : Bin cx modV (binaryOp .Mod) := bin_int (f := fun a b => if 0 < b then some (.int (a % b)) else none) fun A hh s led ρ a b t u z e Q E P => by
  split at e
  · rename_i hb
    cases e
    refine mod_int' (by omega) ?_
    rw [Int.fmod_eq_emod_of_nonneg _ (by omega)]
    exact P _ _ (.int _ _)
  · cases e
end
end Mp
namespace Mp
theorem strEq (a b : List Nat) : ((⟨a.toArray⟩ : Str) == ⟨b.toArray⟩) = (a == b) := by
  rw [Bool.eq_iff_iff]
  simp
section
variable {cx : Cx} {d : Nat} {sc : Sc}
theorem bin_mul : Bin cx mulV (binaryOp .Mult) := by
  intro A hh s led ρ x y z wx wy X Y e Q E P
  unfold mulV at e
  split at e
  · split at e
    · rename_i a b hb
      cases e
      obtain ⟨t, rfl⟩ := X.int_inv
      obtain ⟨u, rfl⟩ := Y.int_inv
      refine mul_int (P _ _ (.int _ _)) ?_
      unfold IntMulOk
      have hlog : ∀ z : Int, z.natAbs ≤ 100000 → Builtin.Int.intBits z ≤ 64 := by
        intro z hz
        unfold Builtin.Int.intBits
        split
        · omega
        · have h0 : z.natAbs ≠ 0 := by
            rename_i hn
            simp at hn
            omega
          have := (Nat.log2_lt h0 (k := 63)).mpr (Nat.lt_of_le_of_lt hz (by decide))
          omega
      have h1 := hlog a hb.1
      have hs : shortFactorBits = 64 := rfl
      rw [hs]
      simp
      omega
    · cases e
  · split at e
    · rename_i a b hb
      cases e
      obtain ⟨t, rfl⟩ := X.str_inv
      obtain ⟨u, rfl⟩ := Y.int_inv
      refine SB.mul (mulOk_of 1000 1000 (by show a.toArray.size ≤ 1000; simp; omega) (by omega) (by omega) (by decide) (by decide)) fun t' k => ?_
      have : Txt.mul ⟨a.toArray⟩ b = ⟨((List.replicate b.toNat a).flatten).toArray⟩ := by
        unfold Txt.mul
        split
        · rename_i h
          have : b.toNat = 0 := by omega
          rw [this]; rfl
        · split
          · rename_i h1 h2
            simp only [Bool.or_eq_true, beq_iff_eq] at h2
            rcases h2 with h2 | h2
            · subst h2; simp
            · have : a = [] := by
                have : a.toArray.size = 0 := h2
                simpa using this
              subst this
              simp
          · congr 1
            have key : ∀ (n : Nat) (acc : Array Nat), List.foldl (fun x1 x2 => x1 ++ x2) acc (List.replicate n a.toArray) = acc ++ (List.replicate n a).flatten.toArray := by
              intro n
              induction n with
              | zero => intro acc; simp
              | succ n ih => intro acc; rw [List.replicate_succ, List.foldl_cons, ih, List.replicate_succ, List.flatten_cons]; simp
            have := key b.toNat #[]
            simpa using this
      rw [this]
      exact P _ _ (.str _ _)
    · cases e
  · cases e
theorem bin_div : Bin cx divV (binaryOp .FloorDiv) := bin_int (f := fun a b => if 0 < b ∧ b ≤ 1000 ∧ a.natAbs ≤ 100000000 then some (.int (a / b)) else none) fun A hh s led ρ a b t u z e Q E P => by
  split at e
  · rename_i hb
    cases e
    refine floordiv_int_or hh (fun h0 => by omega) (fun _ => ?_) (fun _ => .inl (PyProof.noPylong_of_log2 ?_))
    · rw [Int.fdiv_eq_ediv_of_nonneg _ (by omega)]
      exact P _ _ (.int _ _)
    · have h0 : b.natAbs ≠ 0 := by omega
      exact (Nat.log2_lt h0).mpr (Nat.lt_of_le_of_lt (by omega : b.natAbs ≤ 1000) (Nat.lt_of_lt_of_le (by decide : 1000 < 2 ^ 10) (Nat.pow_le_pow_right (by decide) (by decide))))
  · cases e
noncomputable def ltV : V → V → Option V
  | .int a, .int b => some (.bool (decide (a < b)))
  | _, _ => none
noncomputable def leV : V → V → Option V
  | .int a, .int b => some (.bool (decide (a ≤ b)))
  | _, _ => none
noncomputable def gtV : V → V → Option V
  | .int a, .int b => some (.bool (decide (b < a)))
  | _, _ => none
noncomputable def geV : V → V → Option V
  | .int a, .int b => some (.bool (decide (b ≤ a)))
  | _, _ => none
noncomputable def eqV : V → V → Option V
  | .int a, .int b => some (.bool (a == b))
  | .str a, .str b => some (.bool (a == b))
  | .bool a, .bool b => some (.bool (a == b))
  | _, _ => none
noncomputable def neV : V → V → Option V
  | .int a, .int b => some (.bool (a != b))
  | .str a, .str b => some (.bool (a != b))
  | .bool a, .bool b => some (.bool (a != b))
  | _, _ => none
noncomputable def isV : V → V → Option V
  | .undef, _ => none
  | .none, .none => some (.bool true)
  | _, .none => some (.bool false)
  | _, _ => none
noncomputable def isNotV : V → V → Option V
  | .undef, _ => none
  | .none, .none => some (.bool false)
  | _, .none => some (.bool true)
  | _, _ => none
theorem bin_lt : Bin cx ltV (compareOp .Lt) := bin_int (f := fun a b => some (.bool (decide (a < b)))) fun A hh s led ρ a b t u z e Q E P => by
  cases e
  exact lt_int (P _ s.toks (.bool _))
theorem bin_le : Bin cx leV (compareOp .LtE) := bin_int (f := fun a b => some (.bool (decide (a ≤ b)))) fun A hh s led ρ a b t u z e Q E P => by
  cases e
  exact le_int (P _ s.toks (.bool _))
theorem bin_gt : Bin cx gtV (compareOp .Gt) := bin_int (f := fun a b => some (.bool (decide (b < a)))) fun A hh s led ρ a b t u z e Q E P => by
  cases e
  exact gt_int (P _ s.toks (.bool _))
theorem bin_ge : Bin cx geV (compareOp .GtE) := bin_int (f := fun a b => some (.bool (decide (b ≤ a)))) fun A hh s led ρ a b t u z e Q E P => by
  cases e
  exact ge_int (P _ s.toks (.bool _))
theorem bin_eq : Bin cx eqV (compareOp .Eq) := by
  intro A hh s led ρ x y z wx wy X Y e Q E P
  unfold eqV at e
  split at e <;> cases e
  · obtain ⟨t, rfl⟩ := X.int_inv
    obtain ⟨u, rfl⟩ := Y.int_inv
    exact eq_int (P _ s.toks (.bool _))
  · obtain ⟨t, rfl⟩ := X.str_inv
    obtain ⟨u, rfl⟩ := Y.str_inv
    exact eq_str (by rw [strEq]; exact P _ s.toks (.bool _))
  · obtain rfl := X.bool_inv
    obtain rfl := Y.bool_inv
    exact eq_bool (P _ s.toks (.bool _))
theorem bin_ne : Bin cx neV (compareOp .NotEq) := by
  intro A hh s led ρ x y z wx wy X Y e Q E P
  unfold neV at e
  split at e <;> cases e
  · obtain ⟨t, rfl⟩ := X.int_inv
    obtain ⟨u, rfl⟩ := Y.int_inv
    exact ne_int (P _ s.toks (.bool _))
  · obtain ⟨t, rfl⟩ := X.str_inv
    obtain ⟨u, rfl⟩ := Y.str_inv
    refine ne_str ?_
    rw [bne, strEq]
    exact P _ s.toks (.bool _)
  · obtain rfl := X.bool_inv
    obtain rfl := Y.bool_inv
    exact ne_bool (P _ s.toks (.bool _))
theorem bin_is : Bin cx isV (compareOp .Is) := by
  intro A hh s led ρ x y z wx wy X Y e Q E P
  unfold isV at e
  split at e <;> cases e
  · obtain rfl := Y.none_inv
    obtain rfl := X.none_inv
    exact is_none (P _ s.toks (.bool _))
  · rename_i hn
    obtain rfl := Y.none_inv
    refine is_none ?_
    cases X <;> first | exact P _ s.toks (.bool _) | exact absurd rfl hn
theorem bin_isNot : Bin cx isNotV (compareOp .IsNot) := by
  intro A hh s led ρ x y z wx wy X Y e Q E P
  unfold isNotV at e
  split at e <;> cases e
  · obtain rfl := Y.none_inv
    obtain rfl := X.none_inv
    exact isNot_none (P _ s.toks (.bool _))
  · rename_i hn
    obtain rfl := Y.none_inv
    refine isNot_none ?_
    cases X <;> first | exact P _ s.toks (.bool _) | exact absurd rfl hn
noncomputable def tE (g : SE) : ST := fun S => match g S with
  | some (.bool b, st) => some (b, st)
  | _ => none
theorem t_val {e : Expr} {g : SE} (h : SoundE cx d sc e g)
    (hq : ∀ env whole, PySem.isTrue e env whole = (do let v ← whole; standAt e.pos; holding [v] (truthy v))) : SoundT cx d sc e (tE g) := by
  refine ⟨?_⟩
  intro f ok s m led ρ S I R b st' hg Q E P
  unfold tE at hg
  split at hg
  · rename_i b' st1 e1
    cases hg
    refine wpAny_isTrue_value (h.1 f ok s m led ρ S I R _ _ e1 _ _ fun w h' tk' led' ρ' I' G' X' => ?_) (hq _ _)
    cases X'
    exact wpAny_truthy_bool (P _ _ _ _ I' G')
  · cases hg
theorem t_cmp {l r : Expr} {gl gr : SE} {o : CmpOp} {op : V → V → Option V} {pos : Pos} (hl : SoundE cx d sc l gl) (hr : SoundE cx d sc r gr) (hop : Bin cx op (compareOp o)) (hm : behindInMarks o r = false) :
    SoundT cx d sc (.Compare l [o] [r] pos) (tE (bE op gl gr)) := by
  refine ⟨?_⟩
  intro f ok s m led ρ S I R b st' hg Q E P
  unfold tE at hg
  split at hg
  · rename_i b' st1 e1
    cases hg
    refine wpAny_isTrue_Compare1 ?_ hm
    refine wpAny_mono (two_sound hl hr hop f ok s m led ρ S I R _ _ e1 (fun c s₃ => wpAny cx.M f.A (truthy c) Q E s₃) E fun w h' tk' led' ρ' I' G' X' => ?_) (fun x s₁ hx => ?_) fun _ _ x => x
    · cases X'
      exact wpAny_truthy_bool (P _ _ _ _ I' G')
    · exact wpAny_mono hx (fun y s₂ hy => hy) fun _ _ x => x
  · cases hg
noncomputable def tN (t : ST) : ST := fun S => match t S with
  | some (b, st) => some (!b, st)
  | none => none
theorem t_not {x : Expr} {t : ST} {pos : Pos} (h : SoundT cx d sc x t) : SoundT cx d sc (.UnaryOp .Not x pos) (tN t) := by
  refine ⟨?_⟩
  intro f ok s m led ρ S I R b st' hg Q E P
  unfold tN at hg
  split at hg
  · rename_i b' st1 e1
    cases hg
    exact wpAny_isTrue_Not (h.1 f ok s m led ρ S I R _ _ e1 _ _ P)
  · cases hg
structure SoundA (cx : Cx) (d : Nat) (sc : Sc) (o : BoolOp) (es : List Expr) (g : ST) : Prop where
  out : ∀ (f : Fm), f.Ok cx d sc → ∀ (s : Shared) m led ρ (S₀ : S), Inv cx f s.heap m led ρ S₀.st → LR cx sc f m led ρ S₀.lo S₀.ce → ∀ b st', g S₀ = some (b, st') →
    ∀ Q E, PostT cx f m led ρ st' b Q s → wpAny cx.M f.A (allTrue o es (f.env sc)) Q E s
noncomputable def tB (b : Bool) : ST := fun S => some (b, S.st)
noncomputable def tAnd (a r : ST) : ST := fun S => match a S with
  | some (true, st) => r ⟨S.lo, S.ce, st⟩
  | some (false, st) => some (false, st)
  | none => none
noncomputable def tOr (a r : ST) : ST := fun S => match a S with
  | some (true, st) => some (true, st)
  | some (false, st) => r ⟨S.lo, S.ce, st⟩
  | none => none
theorem a_andNil : SoundA cx d sc .And [] (tB true) := by
  refine ⟨?_⟩
  intro f ok s m led ρ S I R b st' hg Q E P
  cases hg
  exact wpAny_allTrue_And_nil (P _ s.toks _ _ I (.refl _ _))
theorem a_orNil : SoundA cx d sc .Or [] (tB false) := by
  refine ⟨?_⟩
  intro f ok s m led ρ S I R b st' hg Q E P
  cases hg
  exact wpAny_allTrue_Or_nil (P _ s.toks _ _ I (.refl _ _))
theorem PostT.next {f : Fm} {m led ρ led1 ρ1 st' b Q} {s : Shared} {h1 tk1} (P : PostT cx f m led ρ st' b Q s) (G : Grow led ρ led1 ρ1) : PostT cx f m led1 ρ1 st' b Q (put s h1 tk1) :=
  fun h' tk' led' ρ' I' G' => P h' tk' led' ρ' I' (G.trans G')
theorem a_and {e : Expr} {es : List Expr} {a r : ST} (ha : SoundT cx d sc e a) (hr : SoundA cx d sc .And es r) : SoundA cx d sc .And (e :: es) (tAnd a r) := by
  refine ⟨?_⟩
  intro f ok s m led ρ S I R b st' hg Q E P
  refine wpAny_allTrue_And_cons ?_
  unfold tAnd at hg
  split at hg
  · rename_i st1 e1
    exact ha.1 f ok s m led ρ S I R _ _ e1 _ _ fun h1 tk1 led1 ρ1 I1 G1 => hr.1 f ok (put s h1 tk1) m led1 ρ1 ⟨S.lo, S.ce, st1⟩ I1 (R.mono G1) _ _ hg _ _ (P.next G1)
  · rename_i st1 e1
    cases hg
    exact ha.1 f ok s m led ρ S I R _ _ e1 _ _ fun h1 tk1 led1 ρ1 I1 G1 => P _ _ _ _ I1 G1
  · cases hg
theorem a_or {e : Expr} {es : List Expr} {a r : ST} (ha : SoundT cx d sc e a) (hr : SoundA cx d sc .Or es r) : SoundA cx d sc .Or (e :: es) (tOr a r) := by
  refine ⟨?_⟩
  intro f ok s m led ρ S I R b st' hg Q E P
  refine wpAny_allTrue_Or_cons ?_
  unfold tOr at hg
  split at hg
  · rename_i st1 e1
    cases hg
    exact ha.1 f ok s m led ρ S I R _ _ e1 _ _ fun h1 tk1 led1 ρ1 I1 G1 => P _ _ _ _ I1 G1
  · rename_i st1 e1
    exact ha.1 f ok s m led ρ S I R _ _ e1 _ _ fun h1 tk1 led1 ρ1 I1 G1 => hr.1 f ok (put s h1 tk1) m led1 ρ1 ⟨S.lo, S.ce, st1⟩ I1 (R.mono G1) _ _ hg _ _ (P.next G1)
  · cases hg
theorem t_bool {o : BoolOp} {es : List Expr} {t : ST} {pos : Pos} (h : SoundA cx d sc o es t) : SoundT cx d sc (.BoolOp o es pos) t :=
  ⟨fun f ok s m led ρ S I R b st' hg Q E P => wpAny_isTrue_BoolOp (h.1 f ok s m led ρ S I R b st' hg Q E P)⟩
structure SoundO (cx : Cx) (d : Nat) (sc : Sc) (o : BoolOp) (es : List Expr) (g : SE) : Prop where
  out : ∀ (f : Fm), f.Ok cx d sc → ∀ (s : Shared) m led ρ (S₀ : S), Inv cx f s.heap m led ρ S₀.st → LR cx sc f m led ρ S₀.lo S₀.ce → ∀ v st', g S₀ = some (v, st') →
    ∀ pos Q E, PostE cx f m led ρ st' v Q s → wpAny cx.M f.A (boolOp pos o (evalEach es (f.env sc))) Q E s
theorem PostE.next {f : Fm} {m led ρ led1 ρ1 st' v Q} {s : Shared} {h1 tk1} (P : PostE cx f m led ρ st' v Q s) (G : Grow led ρ led1 ρ1) : PostE cx f m led1 ρ1 st' v Q (put s h1 tk1) :=
  fun w h' tk' led' ρ' I' G' => P w h' tk' led' ρ' I' (G.trans G')
noncomputable def vAnd (a r : SE) : SE := fun S => match a S with
  | some (.bool true, st) => r ⟨S.lo, S.ce, st⟩
  | some (.bool false, st) => some (.bool false, st)
  | _ => none
noncomputable def vOr (a r : SE) : SE := fun S => match a S with
  | some (.bool true, st) => some (.bool true, st)
  | some (.bool false, st) => r ⟨S.lo, S.ce, st⟩
  | _ => none
theorem o_one {o : BoolOp} {e : Expr} {g : SE} (h : SoundE cx d sc e g) : SoundO cx d sc o [e] g :=
  ⟨fun f ok s m led ρ S I R v st' hg _ Q E P => h.1 f ok s m led ρ S I R v st' hg Q E P⟩
theorem o_and {e e' : Expr} {es : List Expr} {a r : SE} (ha : SoundE cx d sc e a) (hr : SoundO cx d sc .And (e' :: es) r) : SoundO cx d sc .And (e :: e' :: es) (vAnd a r) := by
  refine ⟨?_⟩
  intro f ok s m led ρ S I R v st' hg pos Q E P
  show wpAny _ _ (do
    let v ← eval e (f.env sc)
    standAt pos
    let t ← holding [v] (truthy v)
    match BoolOp.And, t with
    | .And, false | .Or, true => pure v
    | _, _ => boolOp pos .And (evalEach (e' :: es) (f.env sc))) Q E s
  unfold vAnd at hg
  split at hg
  · rename_i st1 e1
    refine wpAny_bind (ha.1 f ok s m led ρ S I R _ _ e1 _ _ fun w h1 tk1 led1 ρ1 I1 G1 X1 => wpAny_bind (wpAny_standAt ?_))
    cases X1
    exact wpAny_bind (wpAny_holding (wpAny_truthy_bool (hr.1 f ok (put s h1 tk1) m led1 ρ1 ⟨S.lo, S.ce, st1⟩ I1 (R.mono G1) _ _ hg _ _ _ (P.next G1))))
  · rename_i st1 e1
    cases hg
    refine wpAny_bind (ha.1 f ok s m led ρ S I R _ _ e1 _ _ fun w h1 tk1 led1 ρ1 I1 G1 X1 => wpAny_bind (wpAny_standAt ?_))
    cases X1
    exact wpAny_bind (wpAny_holding (wpAny_truthy_bool (wpAny_pure (P _ _ _ _ _ I1 G1 (.bool _)))))
  · cases hg
theorem o_or {e e' : Expr} {es : List Expr} {a r : SE} (ha : SoundE cx d sc e a) (hr : SoundO cx d sc .Or (e' :: es) r) : SoundO cx d sc .Or (e :: e' :: es) (vOr a r) := by
  refine ⟨?_⟩
  intro f ok s m led ρ S I R v st' hg pos Q E P
  show wpAny _ _ (do
    let v ← eval e (f.env sc)
    standAt pos
    let t ← holding [v] (truthy v)
    match BoolOp.Or, t with
    | .And, false | .Or, true => pure v
    | _, _ => boolOp pos .Or (evalEach (e' :: es) (f.env sc))) Q E s
  unfold vOr at hg
  split at hg
  · rename_i st1 e1
    cases hg
    refine wpAny_bind (ha.1 f ok s m led ρ S I R _ _ e1 _ _ fun w h1 tk1 led1 ρ1 I1 G1 X1 => wpAny_bind (wpAny_standAt ?_))
    cases X1
    exact wpAny_bind (wpAny_holding (wpAny_truthy_bool (wpAny_pure (P _ _ _ _ _ I1 G1 (.bool _)))))
  · rename_i st1 e1
    refine wpAny_bind (ha.1 f ok s m led ρ S I R _ _ e1 _ _ fun w h1 tk1 led1 ρ1 I1 G1 X1 => wpAny_bind (wpAny_standAt ?_))
    cases X1
    exact wpAny_bind (wpAny_holding (wpAny_truthy_bool (hr.1 f ok (put s h1 tk1) m led1 ρ1 ⟨S.lo, S.ce, st1⟩ I1 (R.mono G1) _ _ hg _ _ _ (P.next G1))))
  · cases hg
theorem b_bool {o : BoolOp} {es : List Expr} {g : SE} {pos : Pos} (h : SoundO cx d sc o es g) : SoundE cx d sc (.BoolOp o es pos) g :=
  ⟨fun f ok s m led ρ S I R v st' hg Q E P => h.1 f ok s m led ρ S I R v st' hg pos Q E P⟩
noncomputable def ifE (t : ST) (a b : SE) : SE := fun S => match t S with
  | some (true, st) => a ⟨S.lo, S.ce, st⟩
  | some (false, st) => b ⟨S.lo, S.ce, st⟩
  | none => none
theorem b_if {e a b : Expr} {t : ST} {ga gb : SE} {pos : Pos} (ht : SoundT cx d sc e t) (ha : SoundE cx d sc a ga) (hb : SoundE cx d sc b gb) : SoundE cx d sc (.IfExp e a b pos) (ifE t ga gb) := by
  refine ⟨?_⟩
  intro f ok s m led ρ S I R v st' hg Q E P
  refine wpAny_IfExp ?_
  unfold ifE at hg
  split at hg
  · rename_i st1 e1
    exact ht.1 f ok s m led ρ S I R _ _ e1 _ _ fun h1 tk1 led1 ρ1 I1 G1 => ha.1 f ok (put s h1 tk1) m led1 ρ1 ⟨S.lo, S.ce, st1⟩ I1 (R.mono G1) _ _ hg _ _ (P.next G1)
  · rename_i st1 e1
    exact ht.1 f ok s m led ρ S I R _ _ e1 _ _ fun h1 tk1 led1 ρ1 I1 G1 => hb.1 f ok (put s h1 tk1) m led1 ρ1 ⟨S.lo, S.ce, st1⟩ I1 (R.mono G1) _ _ hg _ _ (P.next G1)
  · cases hg
theorem b_neg {i : Int} {k : Nat} {p pos : Pos} : SoundE cx d sc (.UnaryOp .USub (.Constant (.int i) k p) pos) (cE (.int (-i))) := by
  refine ⟨?_⟩
  intro f ok s m led ρ S I R v st' hg Q E P
  cases hg
  refine wpAny_UnaryOp (wpAny_Constant_int (neg_int ?_))
  exact P _ _ _ _ _ I (.refl _ _) (.int _ _)
end
end Mp
namespace Mp
noncomputable def sliceL {α : Type} (xs : List α) (lo hi : Option Int) : List α :=
  (xs.drop (lo.elim 0 (clipAt xs.length))).take (hi.elim xs.length (clipAt xs.length) - lo.elim 0 (clipAt xs.length))
theorem sliceIdx_plain (lo hi : Option Int) (n : Nat) :
    Builtin.Str.strSliceIndices lo hi 1 n = (List.range (hi.elim n (clipAt n) - lo.elim 0 (clipAt n))).map (lo.elim 0 (clipAt n) + ·) := by
  rw [← sliceRange_one]
  unfold Builtin.Str.strSliceIndices
  simp only
  congr 1
  · cases lo with
    | none => simp
    | some i =>
      simp only [Option.elim]
      rw [clipAt_cast]
      simp
  · cases hi with
    | none => simp
    | some i =>
      simp only [Option.elim]
      rw [clipAt_cast]
      simp
theorem slice_str (cs : List Nat) (lo hi : Option Int) : Txt.slice ⟨cs.toArray⟩ lo hi = ⟨(sliceL cs lo hi).toArray⟩ := by
  unfold Txt.slice
  have hl : Str.length ⟨cs.toArray⟩ = cs.length := by show cs.toArray.size = _; simp
  rw [hl, sliceIdx_plain]
  split
  · rename_i h
    simp only [beq_self_eq_true, Bool.true_and, List.length_map, List.length_range, beq_iff_eq] at h
    unfold sliceL
    have hc : ∀ i, clipAt cs.length i ≤ cs.length := by intro i; unfold clipAt; omega
    have hb : hi.elim cs.length (clipAt cs.length) ≤ cs.length := by
      cases hi with
      | none => exact Nat.le_refl _
      | some i => exact hc i
    by_cases h0 : cs.length = 0
    · have : cs = [] := List.length_eq_zero_iff.mp h0
      subst this
      simp
    · have ha : lo.elim 0 (clipAt cs.length) = 0 := by omega
      rw [h, ha]
      simp
  · congr 1
    have := pick_run cs.toArray (lo.elim 0 (clipAt cs.length)) (hi.elim cs.length (clipAt cs.length) - lo.elim 0 (clipAt cs.length))
    rw [this]
    unfold sliceL
    simp
theorem VRs.slice {cx led ρ} {vs ws} (lo hi : Option Int) (h : VRs cx led ρ vs ws) : VRs cx led ρ (sliceL vs lo hi) (sliceL ws lo hi) := by
  unfold sliceL
  rw [← h.length]
  exact (h.drop _).take _
noncomputable def idx {α : Type} (xs : List α) (k : Int) : Option α :=
  if 0 ≤ k then (if k < 1000000 then xs[k.toNat]? else none)
  else if 0 ≤ k + xs.length ∧ -1000000 ≤ k then xs[(k + xs.length).toNat]? else none
theorem VR.handed {cx led ρ v w} (h : VR cx led ρ v w) : handedIn w = true := by cases h <;> rfl
section
variable {cx : Cx} {d : Nat} {sc : Sc}
noncomputable def esN : SEs := fun S => some ([], S.st)
noncomputable def esC (g : SE) (r : SEs) : SEs := fun S => match g S with
  | some (v, st) => match r ⟨S.lo, S.ce, st⟩ with
    | some (vs, st) => some (v :: vs, st)
    | none => none
  | none => none
theorem es_nil : SoundEs cx d sc [] esN := by
  refine ⟨?_⟩
  intro f ok s m led ρ S I R vs st' hg pos Q E P
  cases hg
  exact wpAny_items_nil (P _ _ s.toks _ _ I (.refl _ _) .nil)
theorem es_cons {e : Expr} {es : List Expr} {g : SE} {r : SEs} (h : SoundE cx d sc e g) (hr : SoundEs cx d sc es r)
    (hs : ∀ env, starEach (e :: es) env = (false, eval e env) :: starEach es env) : SoundEs cx d sc (e :: es) (esC g r) := by
  refine ⟨?_⟩
  intro f ok s m led ρ S I R vs st' hg pos Q E P
  unfold esC at hg
  split at hg
  · rename_i v st1 e1
    split at hg
    · rename_i vs' st2 e2
      cases hg
      refine wpAny_items_cons ?_ (hs _)
      exact h.1 f ok s m led ρ S I R _ _ e1 _ _ fun w h1 tk1 led1 ρ1 I1 G1 X1 =>
        hr.1 f ok (put s h1 tk1) m led1 ρ1 ⟨S.lo, S.ce, st1⟩ I1 (R.mono G1) _ _ e2 _ _ _ fun ws h2 tk2 led2 ρ2 I2 G2 X2 => P _ _ _ _ _ I2 (G1.trans G2) (.cons (X1.mono G2) X2)
    · cases hg
  · cases hg
noncomputable def tupE (g : SEs) : SE := fun S => match g S with
  | some (vs, st) => if vs.length ≤ 1000 then some (.tup vs, st) else none
  | none => none
theorem newTuple_ok {f : Fm} {s : Shared} {m led ρ st vs ws} (I : Inv cx f s.heap m led ρ st) (X : VRs cx led ρ vs ws) (hl : vs.length ≤ 1000) {Q E} (P : PostE cx f m led ρ st (.tup vs) Q s) :
    wpAny cx.M f.A (newTuple ws) Q E s := by
  refine newTuple_N I.F I.N (fun h' F' N' => ?_) (by rw [← X.length, sizeLine_eq]; omega)
  obtain ⟨I', G'⟩ := I.push (Fr.size_ne I.N) F' N'
  exact P _ _ s.toks _ _ I' G' (.tup vs ws _ 0 (.inl (.head _)) (X.mono G'))
theorem b_tup {es : List Expr} {g : SEs} {k : Nat} {pos : Pos} (h : SoundEs cx d sc es g) : SoundE cx d sc (.Tuple es k pos) (tupE g) := by
  refine ⟨?_⟩
  intro f ok s m led ρ S I R v st' hg Q E P
  unfold tupE at hg
  split at hg
  · rename_i vs st1 e1
    split at hg
    · rename_i hl
      cases hg
      exact Tuple_ (h.1 f ok s m led ρ S I R _ _ e1 _ _ _ fun ws h1 tk1 led1 ρ1 I1 G1 X1 => newTuple_ok (s := put s h1 tk1) I1 X1 hl (P.next G1))
    · cases hg
  · cases hg
noncomputable def listE (g : SEs) : SE := fun S => match g S with
  | some (vs, st) => if vs.length ≤ 100000 then some (.ref (ln st), ad st (.list vs)) else none
  | none => none
theorem Inv.newList {f : Fm} {h h' : Heap} {m led ρ st} (I : Inv cx f h m led ρ st) {vs : List V} {ws : List Value} {l : Addr} {n : Nat} (F' : Fr f.h₀ f.L h' m) (N' : News f.h₀ f.L h' ((l, PySem.W.listOf ws.toArray n) :: (led ++ f.kept)))
    (hl : ∀ p ∈ led ++ f.kept, p.1 < l) (X : VRs cx led ρ vs ws) :
    Inv cx f h' m ((l, PySem.W.listOf ws.toArray n) :: led) (ρ ++ [(l, l)]) (st ++ [.list vs]) ∧ Grow led ρ ((l, PySem.W.listOf ws.toArray n) :: led) (ρ ++ [(l, l)]) := by
  have hne : ∀ p ∈ led ++ f.kept, p.1 ≠ l := fun p hp => Nat.ne_of_lt (hl p hp)
  refine I.make (new := [(l, PySem.W.listOf ws.toArray n)]) F' N' ?_ (fun q hq e => ?_) ?_
  · simp only [List.singleton_append, List.map_cons, List.nodup_cons]
    exact ⟨fun q => by obtain ⟨p, hp, e⟩ := List.mem_map.mp q; exact hne p hp e, I.nd⟩
  · obtain ⟨o, ho⟩ := I.rho_mem q hq
    exact hne _ (List.mem_append_left _ ho) e
  · refine ⟨l, ws.toArray, n, by rw [← I.len]; simp, .head _, ?_⟩
    simp only []
    exact X.mono ⟨fun p h _ => .tail _ h, [(l, l)], rfl⟩
theorem b_list {es : List Expr} {g : SEs} {pos : Pos} (h : SoundEs cx d sc es g) : SoundE cx d sc (.List es pos) (listE g) := by
  refine ⟨?_⟩
  intro f ok s m led ρ S I R v st' hg Q E P
  unfold listE at hg
  try simp only [gt_eq, pt_eq, ad_eq, ln_eq] at hg
  split at hg
  · rename_i vs st1 e1
    split at hg
    · rename_i hl
      cases hg
      refine List_ (h.1 f ok s m led ρ S I R _ _ e1 _ _ _ fun ws h1 tk1 led1 ρ1 I1 G1 X1 => ?_)
      refine newList_K (s := put s h1 tk1) I1.F I1.N (fun l h' F' N' hlt => ?_) (by rw [← X1.length, sizeLine_eq]; omega)
      obtain ⟨I', G'⟩ := I1.newList F' N' hlt X1
      refine P _ _ tk1 _ _ I' (G1.trans G') (.ref _ l l ?_)
      rw [← I1.len]; simp
    · cases hg
  · cases hg
structure AttrOk (cx : Cx) (c i : Nat) (name : Str) : Prop where
  at_ : (cx.attrs c)[i]? = some name
  plain : plainGet cx.K (cx.ga c) name = true
  dict : hasDictIn cx.K (cx.ga c) = true
  cls : findIn cx.K (.ref (cx.ga c)) name = some none
noncomputable def getA (c i : Nat) (v : V) (st : List Ob) : Option V := match v with
  | .ref k => match gt st k with
    | some (.inst c' fs) => if c' = c then (match fs[i]? with
      | some .undef => none
      | some v => some v
      | none => none) else none
    | _ => none
  | _ => none
theorem getA_sound {f : Fm} {d : Nat} {sc : Sc} (ok : f.Ok cx d sc) {s : Shared} {m led ρ st} (I : Inv cx f s.heap m led ρ st) {c i : Nat} {name : Str} (a : AttrOk cx c i name) {v v' : V} {w : Value} (X : VR cx led ρ v w)
    (e : getA c i v st = some v') {Q E} {expr : Bool} (P : PostE cx f m led ρ st v' Q s) : wpAny cx.M f.A (getAttr w name expr) Q E s := by
  unfold getA at e
  try simp only [gt_eq, pt_eq, ad_eq, ln_eq] at e
  split at e
  · rename_i k
    split at e
    · rename_i c' fs hk
      split at e
      · rename_i hc
        subst hc
        split at e
        · cases e
        · rename_i v1 hne hv
          cases e
          obtain ⟨x, dx, es, n, h1, h2, h3, hl, FR⟩ := I.ob _ _ hk
          cases X with
          | ref _ x' d' hx =>
            rw [h1] at hx
            cases hx
            obtain ⟨w', hg, hr⟩ := FR.got i name _ a.at_ hv hne
            exact get_own I.F ok.X (InstAt.of_news I.N (List.mem_append_left _ h2) (List.mem_append_left _ h3)) a.plain a.dict a.cls rfl hg hr.handed (P _ _ _ _ _ I (.refl _ _) hr)
        · cases e
      · cases e
    · cases e
  · cases e
noncomputable def attrE (c i : Nat) (g : SE) : SE := fun S => match g S with
  | some (v, st) => match getA c i v st with
    | some v' => some (v', st)
    | none => none
  | none => none
theorem b_attr {e : Expr} {g : SE} {name : Str} {pos : Pos} {c i : Nat} (h : SoundE cx d sc e g) (a : AttrOk cx c i name)
    (hq : ∀ env, eval (.Attribute e name pos) env = (do
      let o ← eval e env
      standAt pos.atName
      let r ← holding [o] (getAttr o name true)
      letTemporaryGo e o r
      pure r)) : SoundE cx d sc (.Attribute e name pos) (attrE c i g) := by
  refine ⟨?_⟩
  intro f ok s m led ρ S I R v st' hg Q E P
  unfold attrE at hg
  split at hg
  · rename_i v1 st1 e1
    split at hg
    · rename_i v2 e2
      cases hg
      refine Attribute_any_ (h.1 f ok s m led ρ S I R _ _ e1 _ _ fun w h1 tk1 led1 ρ1 I1 G1 X1 => ?_) (hq _)
      exact getA_sound ok (s := put s h1 tk1) I1 a X1 e2 (P.next G1)
    · cases hg
  · cases hg
end
end Mp
namespace Mp
theorem seqIndex_at {k : Int} {n : Nat} (h0 : 0 ≤ k) (h1 : k < n) : seqIndex? k n = some k.toNat := by
  unfold seqIndex?
  have : ¬ k < 0 := by omega
  simp [this, h0, h1]
theorem idx_spec {α : Type} {xs : List α} {k : Int} {x : α} (h : idx xs k = some x) :
    ∃ j, seqIndex? k xs.length = some j ∧ xs[j]? = some x ∧ -1000000 ≤ k ∧ k < 1000000 ∧ ((0 ≤ k ∧ j = k.toNat) ∨ (k < 0 ∧ -(xs.length : Int) ≤ k ∧ j = (k + xs.length).toNat)) := by
  unfold idx at h
  split at h
  · rename_i h0
    split at h
    · rename_i h1
      have hl := (List.getElem?_eq_some_iff.mp h).1
      exact ⟨k.toNat, seqIndex_at h0 (by omega), h, by omega, h1, .inl ⟨h0, rfl⟩⟩
    · cases h
  · rename_i h0
    split at h
    · rename_i h1
      exact ⟨_, PySem.seqIndex_neg (by omega) (by omega), h, h1.2, by omega, .inr ⟨by omega, by omega, rfl⟩⟩
    · cases h
theorem idx_map {α β : Type} {g : α → β} {l : List α} {k : Int} : idx (l.map g) k = (idx l k).map g := by
  unfold idx
  simp only [List.length_map, List.getElem?_map]
  split <;> (try split) <;> rfl
noncomputable def getI (v i : V) (st : List Ob) : Option V := match v, i with
  | .tup vs, .int k => idx vs k
  | .str cs, .int k => (idx cs k).map fun c => .str [c]
  | .ref r, .int k => match gt st r with
    | some (.list vs) => idx vs k
    | some (.nums is) => (idx is k).map .int
    | _ => none
  | .ref r, .str key => match gt st r with
    | some (.dict es) => es.lookup key
    | _ => none
  | _, _ => none
theorem tup_at {cx : Cx} {f : Fm} {d sc} (ok : Fm.Ok cx d sc f) {h m led ρ st} (I : Inv cx f h m led ρ st) {a ws n} (h1 : (a, tupObj ws n) ∈ led ∨ cx.K.lookup a = some (tupObj ws n)) : IsTup h a ws.toArray := by
  rcases h1 with h1 | h1
  · exact ⟨_, (I.at_ h1).1, rfl, n, rfl⟩
  · exact ⟨_, I.F.keep _ _ (ok.X _ _ h1), rfl, n, rfl⟩
theorem list_at {cx : Cx} {f : Fm} {h m led ρ st} (I : Inv cx f h m led ρ st) {a ws n} (h1 : (a, PySem.W.listOf ws n) ∈ led) : h.IsList a ws := ⟨_, (I.at_ h1).1, rfl, n, rfl⟩
theorem isStrOf_lists (key k : List Nat) (t : Tok) : Value.isStrOf ⟨key.toArray⟩ (.str ⟨k.toArray⟩ t) = (key == k) := by
  rw [← isStr_of]
  show ((⟨k.toArray⟩ : Str) == ⟨key.toArray⟩) = _
  rw [strEq, Bool.eq_iff_iff, beq_iff_eq, beq_iff_eq]
  exact eq_comm
theorem PairsR.find {cx led ρ} {key : List Nat} {v : V} {es : List (List Nat × V)} {ds : List DictEntry} (h0 : PairsR cx led ρ es ds) : es.lookup key = some v → ∃ w, findBy Value.isStrOf ds.toArray ⟨key.toArray⟩ = some w ∧ VR cx led ρ v w := by
  induction h0 with
  | nil => intro h; cases h
  | @cons k t v' w es ds a r ih =>
    intro h
    rw [List.lookup_cons] at h
    unfold findBy at ih ⊢
    rw [List.find?_toArray] at ih ⊢
    rw [List.find?_cons]
    dsimp only
    rw [isStrOf_lists]
    cases hk : key == k with
    | true =>
      rw [hk] at h
      cases h
      exact ⟨w, rfl, a⟩
    | false =>
      rw [hk] at h
      exact ih h
theorem PairsR.keys {cx led ρ} : ∀ {es ds}, PairsR cx led ρ es ds → KeysLit cx.w.params ds
  | _, _, .nil => trivial
  | _, _, .cons _ r => ⟨⟨_, _, rfl, rfl⟩, r.keys⟩
theorem KvsR.find {cx led ρ} {key : List Nat} {v : V} {es : List (List Nat × V)} {ds : List (Str × Value)} (h0 : KvsR cx led ρ es ds) : es.lookup key = some v → ∃ w, valueAt ds ⟨key.toArray⟩ = some w ∧ VR cx led ρ v w := by
  induction h0 with
  | nil => intro h; cases h
  | @cons k v' w es ds a r ih =>
    intro h
    rw [List.lookup_cons] at h
    unfold valueAt at ih ⊢
    rw [List.find?_cons]
    by_cases hk : key = k
    · subst hk
      simp at h
      subst h
      exact ⟨w, by simp, a⟩
    · have h1 : (key == k) = false := by simpa using hk
      rw [h1] at h
      have h2 : (decide ((⟨k.toArray⟩ : Str) = ⟨key.toArray⟩)) = false := by
        rw [decide_eq_false_iff_not]
        intro e
        have := congrArg Str.cps e
        simp at this
        exact hk this.symm
      simp only [h2]
      exact ih h
theorem dict_at {cx : Cx} {f : Fm} {h m led ρ st} (I : Inv cx f h m led ρ st) {a o ds} (h1 : (a, o) ∈ led) (hd : o.IsDictOf (PySem.strKind cx.prog cx.w) ds) : h.DictOf (PySem.strKind cx.prog cx.w) a ds :=
  Heap.dictOf_iff.mpr ⟨o, (I.at_ h1).1, hd⟩
section
variable {cx : Cx} {d : Nat} {sc : Sc}
theorem getL_sound {f : Fm} {s : Shared} {m led ρ st} (I : Inv cx f s.heap m led ρ st) {vs : List V} {ws n} {a : Addr} {k : Int} {u : Tok} {v' : V} (h2 : (a, PySem.W.listOf ws n) ∈ led) (h3 : VRs cx led ρ vs ws.toList) (e : idx vs k = some v') {Q E} (P : PostE cx f m led ρ st v' Q s) :
    (∃ T id, s.TypeIs (.ref a) T ∧ typeLookup (.type T) "__getitem__" = pure (some (.builtin id))) ∧ wpAny cx.M f.A (getItem (.ref a) (.int k u)) Q E s := by
  obtain ⟨j, hj, hx, hlo, hhi, hcase⟩ := idx_spec e
  obtain ⟨w', hw, hr'⟩ := h3.get hx
  have hl := list_at I h2
  refine ⟨⟨_, _, hl.typeIs, slot_list_getitem.lookup⟩, ?_⟩
  have hw' : ws[j]? = some w' := by rw [← hw]; exact Array.getElem?_toList.symm
  have hsz : ws.size = vs.length := by rw [h3.length]; exact Array.length_toList.symm
  rcases hcase with ⟨hn, rfl⟩ | ⟨hn, hn2, rfl⟩
  · exact wpAny_getItem_list hl hn (by clear e hx hw hw' hr' h3; omega) hw' (P _ _ s.toks _ _ I (.refl _ _) hr')
  · exact wpAny_getItem_list_neg hl hn (by clear e hx hw hw' hr' h3 hj; omega) (by clear e hx hw hw' hr' h3 hj; omega) (by rw [hsz]; exact hw') (P _ _ s.toks _ _ I (.refl _ _) hr')
theorem getI_sound {f : Fm} (ok : f.Ok cx d sc) {s : Shared} {m led ρ st} (I : Inv cx f s.heap m led ρ st) {v i v' : V} {wv wi : Value} (X : VR cx led ρ v wv) (Y : VR cx led ρ i wi)
    (e : getI v i st = some v') {Q E} (P : PostE cx f m led ρ st v' Q s) :
    (∃ T id, s.TypeIs wv T ∧ typeLookup (.type T) "__getitem__" = pure (some (.builtin id))) ∧ wpAny cx.M f.A (getItem wv wi) Q E s := by
  unfold getI at e
  split at e
  · cases X with
    | tup vs ws a n h1 r =>
      obtain ⟨u, rfl⟩ := Y.int_inv
      obtain ⟨j, hj, hx, hlo, hhi, -⟩ := idx_spec e
      obtain ⟨w', hw, hr⟩ := r.get hx
      have ht := tup_at ok I h1
      exact ⟨⟨_, _, ht.typeIs, slot_tuple_getitem.lookup⟩, getItem_tuple ht (by clear e hx hw hr; omega) (by clear e hx hw hr; omega) (by rw [List.size_toArray, ← r.length]; exact hj) (by simpa using hw) (P _ _ s.toks _ _ I (.refl _ _) hr)⟩
  · obtain ⟨t, rfl⟩ := X.str_inv
    obtain ⟨u, rfl⟩ := Y.int_inv
    rename_i cs k
    obtain ⟨c, hc, rfl⟩ := Option.map_eq_some_iff.mp e
    obtain ⟨j, hj, hx, hlo, hhi, -⟩ := idx_spec hc
    refine ⟨⟨_, _, typeIs_str _ _ _, slot_str_getitem.lookup⟩, getItem_str (c := c) (by clear e hx hc; simp; omega) ?_ (P _ _ _ _ _ I (.refl _ _) (.str [c] _))⟩
    have : Str.length ⟨cs.toArray⟩ = cs.length := by show cs.toArray.size = _; simp
    rw [this, hj]
    simpa using hx
  · obtain ⟨u, rfl⟩ := Y.int_inv
    cases X with
    | ref r a dd hr =>
      try simp only [gt_eq] at e
      split at e
      · rename_i vs hst
        obtain ⟨a', ws, n, h1, h2, h3⟩ := I.ob _ _ hst
        rw [hr] at h1
        cases h1
        exact getL_sound I h2 h3 e P
      · rename_i is hst
        obtain ⟨a', ws, n, h1, h2, h3⟩ := I.ob _ _ hst
        rw [hr] at h1
        cases h1
        exact getL_sound I h2 (h3 led ρ) (by rw [idx_map]; exact e) P
      · cases e
  · obtain ⟨u, rfl⟩ := Y.str_inv
    cases X with
    | ref r a dd hr =>
      try simp only [gt_eq] at e
      split at e
      · rename_i es hst
        obtain ⟨a', o, ds, h1, h2, hd, h3⟩ := I.ob _ _ hst
        rw [hr] at h1
        cases h1
        obtain ⟨w', hw, hr'⟩ := h3.find e
        have hm := (dict_at I h2 hd).mapOf
        exact ⟨⟨_, _, hm.typeIs, slot_dict_getitem.lookup⟩, wpAny_getItem_of (strKind_is cx.prog cx.w _ u) hm hw (P _ _ _ _ _ I (.refl _ _) hr')⟩
      · cases e
  · cases e
noncomputable def subE (a b : SE) : SE := fun S => match a S with
  | some (x, st) => match b ⟨S.lo, S.ce, st⟩ with
    | some (y, st) => match getI x y st with
      | some z => some (z, st)
      | none => none
    | none => none
  | none => none
theorem b_sub {a b : Expr} {ga gb : SE} {pos : Pos} (ha : SoundE cx d sc a ga) (hb : SoundE cx d sc b gb)
    (hs : ∀ o i, subscripted b false o i = operate [o, i] (getItem o i)) : SoundE cx d sc (.Subscript a b pos) (subE ga gb) := by
  refine ⟨?_⟩
  intro f ok s m led ρ S I R v st' hg Q E P
  refine Subscript_ ?_
  unfold subE at hg
  split at hg
  · rename_i x st1 ea
    split at hg
    · rename_i y st2 eb
      split at hg
      · rename_i z ez
        cases hg
        refine ha.1 f ok s m led ρ S I R x st1 ea _ _ fun wx h1 tk1 led1 ρ1 I1 G1 X1 => ?_
        refine hb.1 f ok (put s h1 tk1) m led1 ρ1 ⟨S.lo, S.ce, st1⟩ I1 (R.mono G1) y _ eb _ _ fun wy h2 tk2 led2 ρ2 I2 G2 X2 => ?_
        have := getI_sound ok (s := put s h2 tk2) (E := E) I2 (X1.mono G2) X2 ez (P.next (G1.trans G2))
        obtain ⟨⟨T, id, hT, hl⟩, hw⟩ := this
        exact tail_any hT hl hw (hs _ _)
      · cases hg
    · cases hg
  · cases hg
noncomputable def partE (g : SE) : S → Option (Option Int × List Ob) := fun S => match g S with
  | some (.int i, st) => some (some i, st)
  | _ => none
noncomputable def partN : S → Option (Option Int × List Ob) := fun S => some (none, S.st)
structure SoundP (cx : Cx) (d : Nat) (sc : Sc) (e : Option Expr) (g : S → Option (Option Int × List Ob)) : Prop where
  out : ∀ (f : Fm), f.Ok cx d sc → ∀ (s : Shared) m led ρ (S₀ : S), Inv cx f s.heap m led ρ S₀.st → LR cx sc f m led ρ S₀.lo S₀.ce → ∀ i st', g S₀ = some (i, st') →
    ∀ (Q : Value → Shared → Prop) E, (∀ w h' tk' led' ρ', Inv cx f h' m led' ρ' st' → Grow led ρ led' ρ' → IsPart w i → Q w (put s h' tk')) → wpAny cx.M f.A (evalPart e (f.env sc)) Q E s
theorem p_none : SoundP cx d sc none partN := by
  refine ⟨?_⟩
  intro f ok s m led ρ S I R i st' hg Q E P
  cases hg
  exact evalPart_none_step (P _ _ s.toks _ _ I (.refl _ _) .none)
theorem p_some {e : Expr} {g : SE} (h : SoundE cx d sc e g) : SoundP cx d sc (some e) (partE g) := by
  refine ⟨?_⟩
  intro f ok s m led ρ S I R i st' hg Q E P
  unfold partE at hg
  split at hg
  · rename_i i' st1 e1
    cases hg
    refine evalPart_some_step (h.1 f ok s m led ρ S I R _ _ e1 _ _ fun w h' tk' led' ρ' I' G' X' => ?_)
    cases X'
    exact P _ _ _ _ _ I' G' (.int _ _)
  · cases hg
noncomputable def cutI (v : V) (lo hi : Option Int) (st : List Ob) : Option (V × List Ob) := match v with
  | .str cs => if cs.length ≤ 100000 then some (.str (sliceL cs lo hi), st) else none
  | .ref r => match gt st r with
    | some (.list vs) => if vs.length ≤ 100000 then some (.ref (ln st), ad st (.list (sliceL vs lo hi))) else none
    | _ => none
  | _ => none
noncomputable def sliE (a : SE) (lo hi : S → Option (Option Int × List Ob)) : SE := fun S => match a S with
  | some (x, st) => match lo ⟨S.lo, S.ce, st⟩ with
    | some (i, st) => match hi ⟨S.lo, S.ce, st⟩ with
      | some (j, st) => cutI x i j st
      | none => none
    | none => none
  | none => none
theorem sl_str {value slice : Expr} {A : Around} {E : Value → Shared → Prop} {s : Shared} {x : Str} {t : Tok} {h₀ : Heap} {L : Addr} {m : Str → Option Value} {news : Led} {Q : Value → Shared → Prop} {wi wj : Value} {i j : Option Int}
    (F : Fr h₀ L s.heap m) (N : News h₀ L s.heap news) (pi : IsPart wi i) (pj : IsPart wj j) (h : ∀ h' t' k, Fr h₀ L h' m → News h₀ L h' news → Q (.str (Txt.slice x i j) t') { s with heap := h', toks := k })
    (hs : subscripted slice false (.str x t) (.ref s.heap.objs.size) = operate [.ref s.heap.objs.size, .str x t] (getItem (.str x t) (.ref s.heap.objs.size))) (hsz : x.length ≤ sizeLine) :
    wpAny cx.M A (subscriptTail value slice (.str x t) (.ref s.heap.objs.size)) Q E { s with heap := s.heap.push { cls := .type "slice", data := .fields #[wi, wj, .none] } } := by
  have hlt : ∀ r, letTemporaryGo value (.str x t) r = pure () := by intro r; unfold letTemporaryGo; split <;> first | rfl | (rename_i h; cases h) | skip
  cases pi <;> cases pj
  · exact slice_strN_nn F N h hs hlt hsz
  · exact slice_strN_ns F N h hs hlt hsz
  · exact slice_strN_sn F N h hs hlt hsz
  · exact slice_strN_ss F N h hs hlt hsz
theorem b_slice {a : Expr} {lo hi : Option Expr} {ga : SE} {gl gh : S → Option (Option Int × List Ob)} {pos p : Pos} (ha : SoundE cx d sc a ga) (hl : SoundP cx d sc lo gl) (hh : SoundP cx d sc hi gh)
    (hs : ∀ o i, subscripted (.Slice lo hi none p) false o i = operate [i, o] (getItem o i)) (hn : ∀ l r, letTemporaryGo a (.ref l) r = pure ()) : SoundE cx d sc (.Subscript a (.Slice lo hi none p) pos) (sliE ga gl gh) := by
  refine ⟨?_⟩
  intro f ok s m led ρ S I R v st' hg Q E P
  refine Subscript_ ?_
  unfold sliE at hg
  split at hg
  · rename_i x st1 ea
    split at hg
    · rename_i i st2 el
      split at hg
      · rename_i j st3 eh
        refine ha.1 f ok s m led ρ S I R x st1 ea _ _ fun wx h1 tk1 led1 ρ1 I1 G1 X1 => wpAny_Slice ?_
        refine hl.1 f ok (put s h1 tk1) m led1 ρ1 ⟨S.lo, S.ce, st1⟩ I1 (R.mono G1) i _ el _ _ fun wi h2 tk2 led2 ρ2 I2 G2 X2 => ?_
        refine hh.1 f ok (put s h2 tk2) m led2 ρ2 ⟨S.lo, S.ce, st2⟩ I2 (R.mono (G1.trans G2)) j _ eh _ _ fun wj h3 tk3 led3 ρ3 I3 G3 X3 => ?_
        refine evalPart_none_step ?_
        have X1' := X1.mono (G2.trans G3)
        unfold cutI at hg
        try simp only [gt_eq, pt_eq, ad_eq, ln_eq] at hg
        cases X1' with
        | str cs t =>
          simp only at hg
          split at hg
          · rename_i hlen
            cases hg
            refine sl_str (s := put s h3 tk3) I3.F I3.N X2 X3 (fun h' t' k F' N' => ?_) (hs _ _) (by show cs.toArray.size ≤ _; rw [List.size_toArray, sizeLine_eq]; omega)
            rw [slice_str]
            exact P _ _ _ _ _ (I3.turn F' N') ((G1.trans G2).trans G3) (.str _ _)
          · cases hg
        | ref r ad dd hr =>
          simp only at hg
          split at hg
          · rename_i vs hst
            split at hg
            · rename_i hlen
              cases hg
              obtain ⟨a', ws, n, q1, q2, q3⟩ := I3.ob _ _ hst
              rw [hr] at q1
              cases q1
              refine kmk_slice (s := put s h3 tk3) I3.F I3.N (list_at I3 q2) X2 X3 (fun D h' F' N' hlt => ?_) (hs _ _) (hn _) (by have := q3.length; simp at this; rw [sizeLine_eq]; omega)
              have hp : slicePick ws i j none = (sliceL ws.toList i j).toArray := by
                rw [slicePick_plain]
                unfold sliceL
                simp
              rw [hp] at N'
              obtain ⟨I', G'⟩ := I3.newList F' N' hlt (q3.slice i j)
              exact P _ _ _ _ _ I' (((G1.trans G2).trans G3).trans G') (.ref _ D D (by rw [← I3.len]; simp))
            · cases hg
          · cases hg
        | _ => simp only [reduceCtorEq] at hg
      · cases hg
    · cases hg
  · cases hg
end
end Mp
namespace Mp
noncomputable def NoStars (es : List Expr) : Prop := ∀ env, ((starEach es env).any (·.1)) = false ∧ match es with
  | [] => True
  | e :: r => starEach (e :: r) env = (false, eval e env) :: starEach r env
section
variable {cx : Cx} {d : Nat} {sc : Sc}
theorem call_ok {fv : Value} {g : FnG} (h : CallOk cx d fv g) {f : Fm} (ok : f.Ok cx d sc) {s : Shared} {m led ρ st} (I : Inv cx f s.heap m led ρ st) {vs ws} (X : VRs cx led ρ vs ws) {v st'} (e : g vs st = some (v, st'))
    {Q E} (P : PostE cx f m led ρ st' v Q s) : wpAny cx.M f.A (call fv ws) Q E s :=
  wpAny_call (h.1 sc f ok s m led ρ st I vs ws X v st' e _ P)
structure FnName (cx : Cx) (sc : Sc) (x : Str) (n : Nat) : Prop where
  glo : GloName cx sc x (.ref (cx.ga n))
  keep : keepIn cx.K (.ref (cx.ga n)) = true
theorem callWith_any {fv : Value} {es : List Expr} {ga : SEs} (hes : SoundEs cx d sc es ga) (hs : NoStars es)
    (hk : ∀ h, cx.K.In h → ∃ k, (k = Keeper.frame ∨ k = Keeper.machine ∨ k = Keeper.boundFrame) ∧ Looks cx.M h (keeperOf fv) k)
    {f : Fm} (ok : f.Ok cx d sc) {s : Shared} {m led ρ} {S : S} (I : Inv cx f s.heap m led ρ S.st) (R : LR cx sc f m led ρ S.lo S.ce) {first : List Value}
    {vs st1} (e1 : ga S = some (vs, st1)) (hn : es = [] → vs = [] ∧ st1 = S.st) {pos : Pos} {Q E} (P : PostEs cx f m led ρ st1 vs (fun ws s' => wpAny cx.M f.A (call fv (first ++ ws)) Q E s') s) :
    wpAny cx.M f.A (callWith pos fv first (backTo pos (starEach es (f.env sc))) []) Q E s := by
  have hb : ∀ (l : List (Bool × Sem Value)), (backTo pos l).any (·.1) = l.any (·.1) := by
    intro l
    show (l.map _).any _ = _
    rw [List.any_map]
    rfl
  refine callWith_of (by rw [hb, (hs _).1]; rfl) hk ?_
  cases es with
  | nil =>
    obtain ⟨rfl, rfl⟩ := hn rfl
    exact evalArgs_nil3 ⟨ok.X.keeps I.F.keep, P _ _ s.toks _ _ I (.refl _ _) .nil⟩
  | cons e r =>
    have key : wpAny cx.M f.A (spliced (backTo pos (starEach (e :: r) (f.env sc)))) (fun ws s₁ => cx.K.In s₁.heap ∧ wpAny cx.M f.A (call fv (first ++ ws)) Q E s₁) E s :=
      hes.1 f ok s m led ρ S I R _ _ e1 pos _ _ fun ws h1 tk1 led1 ρ1 I1 G1 X1 => ⟨ok.X.keeps I1.F.keep, P _ _ _ _ _ I1 G1 X1⟩
    have h1 := (hs (f.env sc)).2
    simp only at h1
    rw [h1] at key ⊢
    exact evalArgs_plain key
noncomputable def callE (g : FnG) (a : SEs) : SE := fun S => match a S with
  | some (vs, st) => g vs st
  | none => none
noncomputable def NilOk (es : List Expr) (ga : SEs) : Prop := es = [] → ga = esN
theorem nilOk_nil : NilOk [] esN := fun _ => rfl
theorem nilOk_cons {e r ga} : NilOk (e :: r) ga := fun h => by cases h
theorem b_call {x : Str} {n : Nat} {np pos : Pos} {es : List Expr} {g : FnG} {ga : SEs} (hf : FnName cx sc x n) (hg : CallOk cx d (.ref (cx.ga n)) g) (hes : SoundEs cx d sc es ga) (hs : NoStars es) (hn : NilOk es ga)
    (hq : ∀ env, eval (.Call (.Name x np) es [] pos) env = (do
          let f ← eval (.Name x np) env
          callWith pos f [] (backTo pos (starEach es env)) (backToKw pos (keywordEach [] env)))) : SoundE cx d sc (.Call (.Name x np) es [] pos) (callE g ga) := by
  refine ⟨?_⟩
  intro f ok s m led ρ S I R v st' hg' Q E P
  unfold callE at hg'
  split at hg'
  · rename_i vs st1 e1
    refine Call_ (nameG_K I.F ok.X (topRead_of ok.T) hf.glo.at_ ?_ ok.evg ok.evk (ok.kind hf.glo.kind) hf.glo.dbg) (hq _)
    exact callWith_any hes hs (keeps_K hf.keep) ok I R e1 (fun h => by rw [hn h] at e1; cases e1; exact ⟨rfl, rfl⟩)
      fun ws h1 tk1 led1 ρ1 I1 G1 X1 => call_ok hg ok (s := put s h1 tk1) I1 X1 hg' (P.next G1)
  · cases hg'
structure TabOk (cx : Cx) (d : Nat) (tab : Nat → Option FnG) : Prop where
  call : ∀ n g, tab n = some g → CallOk cx d (.ref (cx.ga n)) g
  keep : ∀ n g, tab n = some g → keepIn cx.K (.ref (cx.ga n)) = true
noncomputable def dynE (tab : Nat → Option FnG) (fe : SE) (a : SEs) : SE := fun S => match fe S with
  | some (.g n, st) => match tab n with
    | some g => match a ⟨S.lo, S.ce, st⟩ with
      | some (vs, st) => g vs st
      | none => none
    | none => none
  | _ => none
theorem b_dyn {fe : Expr} {pos : Pos} {es : List Expr} {tab : Nat → Option FnG} {gf : SE} {ga : SEs} (hf : SoundE cx d sc fe gf) (ht : TabOk cx d tab) (hes : SoundEs cx d sc es ga) (hs : NoStars es) (hn : NilOk es ga)
    (hq : ∀ env, eval (.Call fe es [] pos) env = (do
          let f ← eval fe env
          callWith pos f [] (backTo pos (starEach es env)) (backToKw pos (keywordEach [] env)))) : SoundE cx d sc (.Call fe es [] pos) (dynE tab gf ga) := by
  refine ⟨?_⟩
  intro f ok s m led ρ S I R v st' hg' Q E P
  unfold dynE at hg'
  split at hg'
  · rename_i n st0 e0
    split at hg'
    · rename_i g eg
      split at hg'
      · rename_i vs st1 e1
        refine Call_ (hf.1 f ok s m led ρ S I R _ _ e0 _ _ fun w h0 tk0 led0 ρ0 I0 G0 X0 => ?_) (hq _)
        cases X0
        exact callWith_any (s := put s h0 tk0) (S := ⟨S.lo, S.ce, st0⟩) hes hs (keeps_K (ht.keep _ _ eg)) ok I0 (R.mono G0) e1 (fun h => by rw [hn h] at e1; cases e1; exact ⟨rfl, rfl⟩)
          fun ws h1 tk1 led1 ρ1 I1 G1 X1 => call_ok (ht.call _ _ eg) ok (s := put s h1 tk1) I1 X1 hg' (P.next (G0.trans G1))
      · cases hg'
    · cases hg'
  · cases hg'
structure MethOk (cx : Cx) (c : Nat) (name : Str) (n : Nat) : Prop where
  plain : plainGet cx.K (cx.ga c) name = true
  cls : findIn cx.K (.ref (cx.ga c)) name = some (some (.ref (cx.ga n)))
  fn : isFn cx.K (.ref (cx.ga n)) = true
  keep : keepIn cx.K (.ref (cx.ga n)) = true
  own : name ∉ cx.attrs c
noncomputable def methE (c : Nat) (g : FnG) (o : SE) (a : SEs) : SE := fun S => match o S with
  | some (.ref k, st) => match gt st k with
    | some (.inst c' _) => if c' = c then (match a ⟨S.lo, S.ce, st⟩ with
      | some (vs, st) => g (.ref k :: vs) st
      | none => none) else none
    | _ => none
  | _ => none
theorem b_meth {o : Expr} {name : Str} {apos pos : Pos} {es : List Expr} {pl : Env → Sem Bool} {c n : Nat} {g : FnG} {go : SE} {ga : SEs} (ho : SoundE cx d sc o go) (hm : MethOk cx c name n) (hg : CallOk cx d (.ref (cx.ga n)) g)
    (hes : SoundEs cx d sc es ga) (hs : NoStars es) (hn : NilOk es ga)
    (hq : ∀ env, eval (.Call (.Attribute o name apos) es [] pos) env = (do
      let ov ← eval o env
      standAt apos.atName
      let (f, first) ← holding [ov] (getMethod ov name (pl env))
      callWith pos f first (backTo pos (starEach es env)) [])) : SoundE cx d sc (.Call (.Attribute o name apos) es [] pos) (methE c g go ga) := by
  refine ⟨?_⟩
  intro f ok s m led ρ S I R v st' hg' Q E P
  unfold methE at hg'
  try simp only [gt_eq, pt_eq, ad_eq, ln_eq] at hg'
  split at hg'
  · rename_i k st0 e0
    split at hg'
    · rename_i c' fs hk
      split at hg'
      · rename_i hc
        subst hc
        split at hg'
        · rename_i vs st1 e1
          refine MethodCall_ (pl := pl f.ev) (ho.1 f ok s m led ρ S I R _ _ e0 _ _ fun w h0 tk0 led0 ρ0 I0 G0 X0 => ?_) (hq _)
          cases X0 with
          | ref _ a dd hr =>
            obtain ⟨x, dx, esd, nn, q1, q2, q3, ql, FR⟩ := I0.ob _ _ hk
            rw [hr] at q1
            cases q1
            refine method_inst I0.F ok.X (InstAt.of_news I0.N (List.mem_append_left _ q2) (List.mem_append_left _ q3)) hm.plain hm.cls hm.fn (FR.non _ hm.own) ?_
            refine callWith_any (s := put s h0 tk0) (S := ⟨S.lo, S.ce, st0⟩) hes hs (keeps_K hm.keep) ok I0 (R.mono G0) e1 (fun h => by rw [hn h] at e1; cases e1; exact ⟨rfl, rfl⟩)
              fun ws h1 tk1 led1 ρ1 I1 G1 X1 => ?_
            exact call_ok hg ok (s := put s h1 tk1) I1 (.cons (.ref _ _ _ (G1.at hr)) X1) hg' (P.next (G0.trans G1))
        · cases hg'
      · cases hg'
    · cases hg'
  · cases hg'
end
end Mp
namespace Mp
theorem isStr_str (x y : Str) (t : Tok) : Value.isStr (.str x t) y = (x == y) := rfl
theorem isStr_eq {k : Value} {x : Str} (h : k.isStr x = true) : ∃ t, k = .str x t := by
  cases k with
  | str s t =>
    have : s = x := beq_iff_eq.mp h
    subst this
    exact ⟨t, rfl⟩
  | _ => exact absurd h (by simp [Value.isStr])
theorem putL_look {x : Str} {hsh : Int} {t : Tok} {w : Value} (y : Str) : ∀ es : List DictEntry,
    ((putL x hsh (.str x t) w es).find? (·.key.isStr y)).map (·.val) = if x = y then some w else (es.find? (·.key.isStr y)).map (·.val)
  | [] => by
    simp only [putL, List.find?_cons, List.find?_nil, isStr_str]
    by_cases h : x = y
    · subst h; simp
    · have : (x == y) = false := by simpa using h
      simp [this, h]
  | e :: r => by
    simp only [putL]
    cases hk : e.key.isStr x with
    | true =>
      obtain ⟨t', e'⟩ := isStr_eq hk
      simp only [if_true, List.find?_cons, e', isStr_str]
      by_cases h : x = y
      · subst h; simp
      · have : (x == y) = false := by simpa using h
        simp [this, h]
    | false =>
      simp only [Bool.false_eq_true, if_false, List.find?_cons]
      cases hy : e.key.isStr y with
      | true =>
        have : x ≠ y := by rintro rfl; rw [hk] at hy; cases hy
        simp [this]
      | false => simpa using putL_look y r
theorem putL_ref {x : Str} {hsh : Int} {t : Tok} {w : Value} : ∀ es : List DictEntry, (putL x hsh (.str x t) w es).any (·.refKey) = es.any (·.refKey)
  | [] => by simp [putL, DictEntry.refKey]
  | e :: r => by
    simp only [putL]
    cases hk : e.key.isStr x with
    | true => simp only [if_true, List.any_cons]; rfl
    | false => simp only [Bool.false_eq_true, if_false, List.any_cons, putL_ref r]
theorem putL_len {x : Str} {hsh : Int} {t : Tok} {w : Value} : ∀ es : List DictEntry, (putL x hsh (.str x t) w es).length = if (es.find? (·.key.isStr x)).isSome then es.length else es.length + 1
  | [] => by simp [putL]
  | e :: r => by
    simp only [putL]
    cases hk : e.key.isStr x with
    | true => simp [hk]
    | false =>
      simp only [Bool.false_eq_true, if_false, List.length_cons, putL_len r, List.find?_cons, hk]
      split <;> rfl
theorem getL_find {es : List DictEntry} (h : es.any (·.refKey) = false) (y : Str) : getL y es = some ((es.find? (·.key.isStr y)).map (·.val)) := by
  unfold getL
  split
  · rename_i e he; rw [he]; rfl
  · rename_i he; rw [he, h]; rfl
theorem VR.not_undef {cx led ρ v w} (h : VR cx led ρ v w) : v ≠ V.undef := by cases h <;> simp
theorem isUndef_iff {v : V} : v.isUndef = true ↔ v = V.undef := by cases v <;> simp [V.isUndef]
theorem FieldsR.set {cx led ρ names fs es} (FR : FieldsR cx led ρ names fs es) (nd : names.Nodup) (hl : fs.length = names.length) {i : Nat} {x : Str} (hx : names[i]? = some x) {v : V} {w : Value} (X : VR cx led ρ v w) (hsh : Int) (t : Tok) :
    FieldsR cx led ρ names (fs.set i v) (putL x hsh (.str x t) w es) := by
  have hi : i < names.length := (List.getElem?_eq_some_iff.mp hx).1
  have hi' : i < fs.length := by omega
  have hr : (putL x hsh (.str x t) w es).any (·.refKey) = false := by rw [putL_ref]; exact FR.nref
  have hv : v.isUndef = false := by
    cases h : v.isUndef with
    | false => rfl
    | true => exact absurd (isUndef_iff.mp h) X.not_undef
  have look : ∀ y, getL y (putL x hsh (.str x t) w es) = if x = y then some (some w) else getL y es := by
    intro y
    rw [getL_find hr, putL_look, getL_find FR.nref]
    split <;> rfl
  refine ⟨?_, hr, fun y hy => ?_, fun j y hy hj => ?_, fun j y v' hy hj hne => ?_⟩
  · rw [putL_len, List.length_set, List.countP_set hi', hv]
    have hlen := FR.len
    have hfi : fs[i]? = some fs[i] := List.getElem?_eq_getElem hi'
    split
    · split <;> simp <;> omega
    · rename_i hnone
      have hu : fs[i].isUndef = true := by
        cases hu : fs[i].isUndef with
        | true => rfl
        | false =>
          obtain ⟨w', hw, _⟩ := FR.got i x _ hx hfi (fun e => by rw [e] at hu; cases hu)
          rw [getL_find FR.nref] at hw
          have := Option.some.inj hw
          rw [Option.map_eq_some_iff] at this
          obtain ⟨e, he, _⟩ := this
          rw [he] at hnone
          exact absurd rfl hnone
      have hpos : 0 < fs.countP V.isUndef := List.countP_pos_iff.mpr ⟨fs[i], List.getElem_mem _, hu⟩
      simp [hu]
      omega
  · rw [look, if_neg]
    · exact FR.non y hy
    · rintro rfl; exact hy (List.mem_of_getElem? hx)
  · by_cases hij : i = j
    · subst hij
      rw [List.getElem?_set_self hi'] at hj
      cases hj
      exact absurd rfl X.not_undef
    · rw [List.getElem?_set_ne hij] at hj
      rw [look, if_neg]
      · exact FR.un j y hy hj
      · rintro rfl
        exact hij ((List.getElem?_inj hi nd).mp (hx.trans hy.symm))
  · by_cases hij : i = j
    · subst hij
      rw [List.getElem?_set_self hi'] at hj
      cases hj
      rw [hx] at hy
      cases hy
      exact ⟨w, by rw [look, if_pos rfl], X⟩
    · rw [List.getElem?_set_ne hij] at hj
      obtain ⟨w', hw, q⟩ := FR.got j y v' hy hj hne
      refine ⟨w', ?_, q⟩
      rw [look, if_neg]
      · exact hw
      · rintro rfl
        exact hij ((List.getElem?_inj hi nd).mp (hx.trans hy.symm))
theorem FieldsR.mono {cx led ρ led' ρ' names fs es} (g : Grow led ρ led' ρ') (h : FieldsR cx led ρ names fs es) : FieldsR cx led' ρ' names fs es :=
  ⟨h.len, h.nref, h.non, h.un, fun i x v a b c => let ⟨w, p, q⟩ := h.got i x v a b c; ⟨w, p, q.mono g⟩⟩
section
variable {cx : Cx} {d : Nat} {sc : Sc}
structure SetOk (cx : Cx) (c i : Nat) (name : Str) : Prop where
  at_ : (cx.attrs c)[i]? = some name
  nd : (cx.attrs c).Nodup
  few : (cx.attrs c).length ≤ 100
  set : findIn cx.K (.ref (cx.ga c)) "__setattr__" = some (some (.builtin "object.__setattr__"))
  over : plainOver cx.K (cx.ga c) = true
  taker : takerIn cx.K (cx.ga c) name = some none
  dict : hasDictIn cx.K (cx.ga c) = true
noncomputable def setA (c i : Nat) (o v : V) (st : List Ob) : Option (List Ob) := match o with
  | .ref k => match gt st k with
    | some (.inst c' fs) => if c' = c then some (pt st k (.inst c (fs.set i v))) else none
    | _ => none
  | _ => none
theorem setA_sound {f : Fm} (ok : f.Ok cx d sc) {s : Shared} {m led ρ st} (I : Inv cx f s.heap m led ρ st) {c i : Nat} {name : Str} (a : SetOk cx c i name) {o v : V} {wo w : Value} (Xo : VR cx led ρ o wo) (X : VR cx led ρ v w)
    {st'} (e : setA c i o v st = some st') {Q E} (P : PostU cx f m led ρ st' Q s) : wpAny cx.M f.A (setAttr wo name w) Q E s := by
  unfold setA at e
  try simp only [gt_eq, pt_eq, ad_eq, ln_eq] at e
  split at e
  · rename_i k
    split at e
    · rename_i c' fs hk
      split at e
      · rename_i hc
        subst hc
        cases e
        obtain ⟨x, dx, es, n, h1, h2, h3, hl, FR⟩ := I.ob _ _ hk
        cases Xo with
        | ref _ x' d' hx =>
          rw [h1] at hx
          cases hx
          have hg : (getL name es).isSome = true := by rw [getL_find FR.nref]; rfl
          have FR' := FR.set a.nd hl a.at_ X (PyData.keyHash cx.w.params name) (s.toks + 1)
          refine set_dict I.F ok.X I.N (InstAt.of_news I.N (List.mem_append_left _ h2) (List.mem_append_left _ h3)) rfl a.set a.over a.taker a.dict hg rfl (I.upd h3) ?_ fun h' F' N' => ?_
          · have h4 := FR'.len
            rw [List.length_set] at h4
            have := a.few
            omega
          · obtain ⟨I', G'⟩ := I.store h1 h3 rfl F' N' (ob := .inst c' (fs.set i v)) fun g =>
              ⟨x, dx, _, _, h1, g.fz _ h2 rfl, updL_self h3, by rw [List.length_set]; exact hl, FR'.mono g⟩
            exact P _ _ _ _ I' G'
      · cases e
    · cases e
  · cases e
structure MakeOk (cx : Cx) (c n : Nat) : Prop where
  makes : makesIn cx.K (cx.ga c) = true
  init : findIn cx.K (.ref (cx.ga c)) "__init__" = some (some (.ref (cx.ga n)))
  fn : isFn cx.K (.ref (cx.ga n)) = true
  nonempty : True
noncomputable def clsE (c nf : Nat) (init : FnG) (a : SEs) : SE := fun S => match a S with
  | some (vs, st) => match init (.ref (ln st) :: vs) (ad st (.inst c (List.replicate nf .undef))) with
    | some (.none, st') => some (.ref (ln st), st')
    | _ => none
  | none => none
theorem cls_ok {f : Fm} (ok : f.Ok cx (d + 1) sc) {s : Shared} {m led ρ st} (I : Inv cx f s.heap m led ρ st) {c n nf : Nat} (mk : MakeOk cx c n) (hnf : (cx.attrs c).length = nf) {init : FnG} (hi : CallOk cx d (.ref (cx.ga n)) init)
    {vs ws} (X : VRs cx led ρ vs ws) {st'} (e : init (.ref st.length :: vs) (st ++ [.inst c (List.replicate nf .undef)]) = some (.none, st')) {Q E} (P : PostE cx f m led ρ st' (.ref st.length) Q s) :
    wpAny cx.M f.A (call (.ref (cx.ga c)) ws) Q E s := by
  refine call_cls I.F ok.X I.N mk.makes mk.init mk.fn fun x dx h' F' N' hlt hdx => ?_
  have hne : ∀ p ∈ led ++ f.kept, p.1 ≠ dx := fun p hp => Nat.ne_of_lt (hlt p hp)
  have hne' : ∀ p ∈ led ++ f.kept, p.1 ≠ x := fun p hp => Nat.ne_of_lt (Nat.lt_trans (hlt p hp) hdx)
  obtain ⟨I', G'⟩ := I.make (new := [(x, instObj (cx.ga c) dx), (dx, dictOf [] 0)]) (a := x) (d := dx) (ob := .inst c (List.replicate nf .undef)) F' N'
    (by
      simp only [List.cons_append, List.nil_append, List.map_cons, List.nodup_cons, List.mem_cons, not_or]
      refine ⟨⟨Nat.ne_of_gt hdx, fun q => ?_⟩, fun q => ?_, I.nd⟩
      · obtain ⟨p, hp, e⟩ := List.mem_map.mp q; exact hne' p hp e
      · obtain ⟨p, hp, e⟩ := List.mem_map.mp q; exact hne p hp e)
    (fun q hq e => by obtain ⟨o, ho⟩ := I.rho_mem q hq; exact hne _ (List.mem_append_left _ ho) e)
    ⟨x, dx, [], 0, by rw [← I.len]; simp, .head _, .tail _ (.head _), by simp [hnf], by have := List.countP_le_length (p := V.isUndef) (l := List.replicate nf V.undef); simpa using this, rfl, fun _ _ => rfl, fun _ _ _ _ => rfl, fun i y v h1 h2 h3 => by
      exfalso
      have := List.mem_of_getElem? h2
      rw [List.mem_replicate] at this
      exact h3 this.2⟩
  have hρ : (ρ ++ [(x, dx)])[st.length]? = some (x, dx) := by rw [← I.len]; simp
  have ok' : ({ f with A := f.A.under (.builtin "type.__call__" ⟨.ref (cx.ga c) :: ws, []⟩) } : Fm).Ok cx d sc :=
    ⟨ok.hA, ok.B, ok.X, ok.T, ok.hk, ok.evs, ok.evl, ok.evg, ok.evb, ok.evx, ok.fek, ok.fr, by
      have := ok.dep
      show Around.depth _ + d < 1000
      rw [depth_under_make]
      omega, by
      have := ok.un
      show f.A.units + 1 + 16 * d < 9800
      omega, ok.hh⟩
  refine hi.1 sc _ ok' (put s h' s.toks) m _ _ _ ⟨I'.F, I'.N, I'.nd, I'.sep, I'.len, I'.ob⟩ (.ref st.length :: vs) (.ref x :: ws) (.cons (.ref _ _ _ hρ) (X.mono G')) _ _ e _ fun w h'' tk'' led'' ρ'' I'' G'' X'' => ?_
  cases X''
  refine ⟨rfl, ?_⟩
  exact P _ _ _ _ _ ⟨I''.F, I''.N, I''.nd, I''.sep, I''.len, I''.ob⟩ (G'.trans G'') (.ref _ _ _ (G''.at hρ))
theorem b_cls {x : Str} {c n nf : Nat} {np pos : Pos} {es : List Expr} {init : FnG} {ga : SEs} (hf : FnName cx sc x c) (mk : MakeOk cx c n) (hnf : (cx.attrs c).length = nf) (hi : CallOk cx d (.ref (cx.ga n)) init) (hes : SoundEs cx (d + 1) sc es ga) (hs : NoStars es) (hn : NilOk es ga)
    (hq : ∀ env, eval (.Call (.Name x np) es [] pos) env = (do
          let f ← eval (.Name x np) env
          callWith pos f [] (backTo pos (starEach es env)) (backToKw pos (keywordEach [] env)))) : SoundE cx (d + 1) sc (.Call (.Name x np) es [] pos) (clsE c nf init ga) := by
  refine ⟨?_⟩
  intro f ok s m led ρ S I R v st' hg' Q E P
  unfold clsE at hg'
  try simp only [gt_eq, pt_eq, ad_eq, ln_eq] at hg'
  split at hg'
  · rename_i vs st1 e1
    split at hg'
    · rename_i st2 e2
      cases hg'
      refine Call_ (nameG_K I.F ok.X (topRead_of ok.T) hf.glo.at_ ?_ ok.evg ok.evk (ok.kind hf.glo.kind) hf.glo.dbg) (hq _)
      exact callWith_any hes hs (keeps_K hf.keep) ok I R e1 (fun h => by rw [hn h] at e1; cases e1; exact ⟨rfl, rfl⟩)
        fun ws h1 tk1 led1 ρ1 I1 G1 X1 => cls_ok ok (s := put s h1 tk1) I1 mk hnf hi X1 e2 (P.next G1)
    · cases hg'
  · cases hg'
end
end Mp
namespace Mp
structure SoundU (cx : Cx) (d : Nat) (sc : Sc) (t : Expr) (asg : V → S → Option S) : Prop where
  out : ∀ (f : Fm), f.Ok cx d sc → ∀ (s : Shared) m led ρ (S₀ : S), Inv cx f s.heap m led ρ S₀.st → LR cx sc f m led ρ S₀.lo S₀.ce → ∀ v w, VR cx led ρ v w → ∀ S', asg v S₀ = some S' →
    ∀ (Q : Unit → Shared → Prop) E, (∀ m' h' tk' led' ρ', Inv cx f h' m' led' ρ' S'.st → Grow led ρ led' ρ' → LR cx sc f m' led' ρ' S'.lo S'.ce → Q () (put s h' tk')) → wpAny cx.M f.A (assign t (f.env sc) w) Q E s
theorem LR.set {cx sc f m led ρ lo ce} (R : LR cx sc f m led ρ lo ce) {i : Nat} {x : Str} (hx : sc.ns[i]? = some x) {v : V} {w : Value} (X : VR cx led ρ v w) :
    LR cx sc f (fun y => if y = x then some w else m y) led ρ (lo.set i v) ce := by
  have hi : i < sc.ns.length := (List.getElem?_eq_some_iff.mp hx).1
  have hi' : i < lo.length := by rw [R.len]; exact hi
  refine ⟨R.nd, by rw [List.length_set]; exact R.len, fun j y v' hy hj hne => ?_, R.cel⟩
  by_cases hij : i = j
  · subst hij
    rw [List.getElem?_set_self hi'] at hj
    cases hj
    rw [hx] at hy
    cases hy
    exact ⟨w, by simp, X⟩
  · rw [List.getElem?_set_ne hij] at hj
    obtain ⟨w', hw, q⟩ := R.loc j y v' hy hj hne
    have : y ≠ x := by
      rintro rfl
      exact hij ((List.getElem?_inj hi R.nd).mp (hx.trans hy.symm))
    exact ⟨w', by simp [this, hw], q⟩
section
variable {cx : Cx} {d : Nat} {sc : Sc}
noncomputable def asgL (i : Nat) : V → S → Option S := fun v S => some ⟨pt S.lo i v, S.ce, S.st⟩
theorem store_loc {i : Nat} {x : Str} (h : LocName sc i x) {f : Fm} (ok : f.Ok cx d sc) {s : Shared} {m led ρ} {S : S} (I : Inv cx f s.heap m led ρ S.st) (R : LR cx sc f m led ρ S.lo S.ce) {v w} (X : VR cx led ρ v w)
    {Q : Unit → Shared → Prop} {E} (P : ∀ m' h' tk' led' ρ', Inv cx f h' m' led' ρ' S.st → Grow led ρ led' ρ' → LR cx sc f m' led' ρ' (S.lo.set i v) S.ce → Q () (put s h' tk')) :
    wpAny cx.M f.A (storeName (f.env sc) x w) Q E s :=
  wpAny_storeName_local (ok.kind h.kind) (by rw [ok.evl]; exact I.F.ns) (fun h' hn hs => by
    rw [ok.evl] at hn hs
    exact P _ _ _ _ _ (I.turn (I.F.set hn hs) (I.N.set hs)) (.refl _ _) (R.set h.at_ X))
    (by rw [ok.evk]; rfl)
theorem u_name {i : Nat} {x : Str} {pos : Pos} (h : LocName sc i x) : SoundU cx d sc (.Name x pos) (asgL i) := by
  refine ⟨?_⟩
  intro f ok s m led ρ S I R v w X S' e Q E P
  cases e
  simp only [PostU, pt_eq] at P
  exact assign_Name (store_loc h ok I R X P)
noncomputable def asgA (c i : Nat) (o : SE) : V → S → Option S := fun v S => match o S with
  | some (x, st) => match setA c i x v st with
    | some st' => some ⟨S.lo, S.ce, st'⟩
    | none => none
  | none => none
theorem u_attr {o : Expr} {go : SE} {name : Str} {pos : Pos} {c i : Nat} (h : SoundE cx d sc o go) (a : SetOk cx c i name) : SoundU cx d sc (.Attribute o name pos) (asgA c i go) := by
  refine ⟨?_⟩
  intro f ok s m led ρ S I R v w X S' e Q E P
  unfold asgA at e
  split at e
  · rename_i x st1 e1
    split at e
    · rename_i st2 e2
      cases e
      show wpAny _ _ (do
        let ov ← holding [w] (eval o (f.env sc))
        standAt pos.atName
        holding [w, ov] (setAttr ov name w)
        release [w, ov] []) Q E s
      refine wpAny_bind (wpAny_holding (h.1 f ok s m led ρ S I R _ _ e1 _ _ fun wo h1 tk1 led1 ρ1 I1 G1 X1 => ?_))
      refine wpAny_bind (wpAny_standAt (wpAny_bind (wpAny_holding (setA_sound ok (s := put s h1 tk1) I1 a X1 (X.mono G1) e2 fun h2 tk2 led2 ρ2 I2 G2 => ?_))))
      exact wpAny_release (P _ _ _ _ _ I2 (G1.trans G2) (R.mono (G1.trans G2)))
    · cases e
  · cases e
noncomputable def setI (o i v : V) (st : List Ob) : Option (List Ob) := match o, i with
  | .ref r, .int k => match gt st r with
    | some (.list vs) => if 0 ≤ k ∧ k < vs.length ∧ k < 1000000 then some (pt st r (.list (vs.set k.toNat v))) else none
    | _ => none
  | _, _ => none
theorem setI_sound {f : Fm} {s : Shared} {m led ρ st} (I : Inv cx f s.heap m led ρ st) {o i v : V} {wo wi w : Value} (Xo : VR cx led ρ o wo) (Xi : VR cx led ρ i wi) (X : VR cx led ρ v w)
    {st'} (e : setI o i v st = some st') {Q E} (P : PostU cx f m led ρ st' Q s) : wpAny cx.M f.A (setItem wo wi w) Q E s := by
  unfold setI at e
  try simp only [gt_eq, pt_eq, ad_eq, ln_eq] at e
  split at e
  · rename_i r k
    split at e
    · rename_i vs hst
      split at e
      · rename_i hk
        cases e
        obtain ⟨a, ws, n, h1, h2, h3⟩ := I.ob _ _ hst
        cases Xo with
        | ref _ a' d' hr =>
          cases Xi
          rw [h1] at hr
          cases hr
          have hsz : ws.size = vs.length := by rw [h3.length]; simp
          obtain ⟨pre, post, e1, e2, q1, q2⟩ := (I.upd (o' := PySem.W.listOf (ws.setIfInBounds k.toNat w) n) h2).split
          have z := I.at_ h2
          refine ki_setAt z.1 hk.1 (by omega) (by omega) ?_
          have N' : News f.h₀ f.L (s.heap.update a (Obj.mapSeq fun x => x.setIfInBounds k.toNat w)) (updL a (PySem.W.listOf (ws.setIfInBounds k.toNat w) n) led ++ f.kept) := by
            rw [e2]
            exact ki_turn _ (e1 ▸ I.N) q1 q2 rfl (by simp)
          have F' : Fr f.h₀ f.L (s.heap.update a (Obj.mapSeq fun x => x.setIfInBounds k.toNat w)) m := I.F.change (Heap.SameBut.update ..) z.2.1 z.2.2
          obtain ⟨I', G'⟩ := I.store h1 h2 rfl F' N' (ob := .list (vs.set k.toNat v)) fun g => ⟨a, _, n, h1, updL_self h2, by
            have := (h3.set k.toNat X).mono g
            simpa using this⟩
          exact P _ s.toks _ _ I' G'
      · cases e
    · cases e
  · cases e
noncomputable def asgI (o i : SE) : V → S → Option S := fun v S => match o S with
  | some (x, st) => match i ⟨S.lo, S.ce, st⟩ with
    | some (y, st) => match setI x y v st with
      | some st' => some ⟨S.lo, S.ce, st'⟩
      | none => none
    | none => none
  | none => none
theorem u_item {o i : Expr} {go gi : SE} {pos : Pos} (ho : SoundE cx d sc o go) (hi : SoundE cx d sc i gi) : SoundU cx d sc (.Subscript o i pos) (asgI go gi) := by
  refine ⟨?_⟩
  intro f ok s m led ρ S I R v w X S' e Q E P
  unfold asgI at e
  split at e
  · rename_i x st1 e1
    split at e
    · rename_i y st2 e2
      split at e
      · rename_i st3 e3
        cases e
        rw [arm_assign_Subscript]
        refine wpAny_bind (wpAny_holding (ho.1 f ok s m led ρ S I R _ _ e1 _ _ fun wo h1 tk1 led1 ρ1 I1 G1 X1 => ?_))
        refine wpAny_bind (wpAny_holding (hi.1 f ok (put s h1 tk1) m led1 ρ1 ⟨S.lo, S.ce, st1⟩ I1 (R.mono G1) _ _ e2 _ _ fun wi h2 tk2 led2 ρ2 I2 G2 X2 => ?_))
        refine wpAny_bind (wpAny_standAt (wpAny_bind (wpAny_holding (setI_sound (s := put s h2 tk2) I2 (X1.mono G2) X2 (X.mono (G1.trans G2)) e3 fun h3 tk3 led3 ρ3 I3 G3 => ?_))))
        exact wpAny_release (P _ _ _ _ _ I3 ((G1.trans G2).trans G3) (R.mono ((G1.trans G2).trans G3)))
      · cases e
    · cases e
  · cases e
inductive Names (sc : Sc) : List Expr → List Nat → Prop
  | nil : Names sc [] []
  | cons {i x p es is} : LocName sc i x → Names sc es is → Names sc (.Name x p :: es) (i :: is)
noncomputable def setAll : List V → List Nat → List V → List V
  | lo, i :: is, v :: vs => setAll (pt lo i v) is vs
  | lo, _, _ => lo
theorem names_in {es is} (h : Names sc es is) : ∀ {f : Fm}, f.Ok cx d sc → ∀ {s : Shared} {m led ρ} {S : S}, Inv cx f s.heap m led ρ S.st → LR cx sc f m led ρ S.lo S.ce → ∀ {vs ws}, VRs cx led ρ vs ws →
    ∀ {Q : Unit → Shared → Prop} {E}, (∀ m' h' tk' led' ρ', Inv cx f h' m' led' ρ' S.st → Grow led ρ led' ρ' → LR cx sc f m' led' ρ' (setAll S.lo is vs) S.ce → Q () (put s h' tk')) →
    wpAny cx.M f.A (assignInOrder ((assignEach es (f.env sc)).map (·.2)) ws) Q E s := by
  induction h with
  | nil =>
    intro f ok s m led ρ S I R vs ws X Q E P
    show wpAny _ _ (pure ()) Q E s
    exact wpAny_pure (P _ _ s.toks _ _ I (.refl _ _) (by unfold setAll; exact R))
  | @cons i x p es is hx _ ih =>
    intro f ok s m led ρ S I R vs ws X Q E P
    cases X with
    | nil =>
      show wpAny _ _ (pure ()) Q E s
      exact wpAny_pure (P _ _ s.toks _ _ I (.refl _ _) (by unfold setAll; exact R))
    | cons X Xs =>
      rename_i v w vs ws
      show wpAny _ _ (do holding ws (assign (.Name x p) (f.env sc) w); assignInOrder ((assignEach es (f.env sc)).map (·.2)) ws) Q E s
      refine wpAny_bind (wpAny_holding (assign_Name (store_loc hx ok I R X fun m1 h1 tk1 led1 ρ1 I1 G1 R1 => ?_)))
      refine ih ok (s := put s h1 tk1) (S := ⟨S.lo.set i v, S.ce, S.st⟩) I1 R1 (Xs.mono G1) fun m2 h2 tk2 led2 ρ2 I2 G2 R2 => ?_
      exact P _ _ _ _ _ I2 (G1.trans G2) (by unfold setAll; rw [pt_eq]; exact R2)
theorem names_len {es is} (h : Names sc es is) (env : Env) : (assignEach es env).length = is.length ∧ (assignEach es env).findIdx? (·.1) = none := by
  induction h with
  | nil => exact ⟨rfl, rfl⟩
  | @cons i x p es is _ _ ih =>
    have : assignEach (.Name x p :: es) env = (false, assign (.Name x p) env) :: assignEach es env := rfl
    rw [this, List.length_cons, List.length_cons, ih.1, List.findIdx?_cons]
    refine ⟨rfl, ?_⟩
    simp [ih.2]
noncomputable def asgT (is : List Nat) : V → S → Option S := fun v S => match v with
  | .tup vs => if vs.length = is.length then some ⟨setAll S.lo is vs, S.ce, S.st⟩ else none
  | _ => none
theorem u_tup {es : List Expr} {is : List Nat} {k : Nat} {pos : Pos} (h : Names sc es is) : SoundU cx d sc (.Tuple es k pos) (asgT is) := by
  refine ⟨?_⟩
  intro f ok s m led ρ S I R v w X S' e Q E P
  unfold asgT at e
  split at e
  · rename_i vs
    split at e
    · rename_i hl
      cases e
      cases X with
      | tup _ ws a n h1 r =>
        obtain ⟨q1, q2⟩ := names_len h (f.env sc)
        refine unpackN_ I.F I.N (tup_at ok I h1) ok.hh (by rw [q1, ← hl, r.length]; simp) q2 fun h' F' N' => ?_
        have I' := I.turn F' N'
        exact names_in (s := put s h' s.toks) h ok I' R r fun m2 h2 tk2 led2 ρ2 I2 G2 R2 => P _ _ _ _ _ I2 G2 R2
    · cases e
  · cases e
noncomputable def asgS (asg : V → S → Option S) (g : SE) : SS := fun S => match g S with
  | some (v, st) => match asg v ⟨S.lo, S.ce, st⟩ with
    | some S' => some (.next, S')
    | none => none
  | none => none
theorem s_asg {t e : Expr} {asg : V → S → Option S} {g : SE} {pos : Pos} (hu : SoundU cx d sc t asg) (h : SoundE cx d sc e g)
    (hq1 : ∀ env, swapsWithSole [t] e pos.line env = pure false) (hq2 : ∀ env : Env, swappedStores [t] e { env with scope := sc.cs } = pure none) (hq3 : ∀ env, (assignEach [t] env).map (·.2) = [assign t env]) :
    SoundS cx d sc (.Assign [t] e pos) (asgS asg g) := by
  refine ⟨?_⟩
  intro f ok s m led ρ S I R fl S' hg Q E P
  unfold asgS at hg
  split at hg
  · rename_i v st1 e1
    split at hg
    · rename_i S1 e2
      cases hg
      refine wpAny_Assign_stores ?_ (hq1 _) (by have := hq2 f.ev; rw [← ok.evs] at this; exact this)
      refine h.1 f ok s m led ρ S I R _ _ e1 _ _ fun w h1 tk1 led1 ρ1 I1 G1 X1 => ?_
      rw [hq3]
      exact hu.1 f ok (put s h1 tk1) m led1 ρ1 ⟨S.lo, S.ce, st1⟩ I1 (R.mono G1) v w X1 _ e2 _ _ fun m2 h2 tk2 led2 ρ2 I2 G2 R2 => P _ _ _ _ _ _ I2 (G1.trans G2) R2 .next
    · cases hg
  · cases hg
noncomputable def retS (g : SE) : SS := fun S => match g S with
  | some (v, st) => some (.ret v, ⟨S.lo, S.ce, st⟩)
  | none => none
theorem s_ret {e : Expr} {g : SE} {pos : Pos} (h : SoundE cx d sc e g) : SoundS cx d sc (.Return (some e) pos) (retS g) := by
  refine ⟨?_⟩
  intro f ok s m led ρ S I R fl S' hg Q E P
  unfold retS at hg
  split at hg
  · rename_i v st1 e1
    cases hg
    exact wpAny_Return_some (h.1 f ok s m led ρ S I R _ _ e1 _ _ fun w h1 tk1 led1 ρ1 I1 G1 X1 => P _ _ _ _ _ _ I1 G1 (R.mono G1) (.ret X1))
  · cases hg
noncomputable def flS (fl : Fl) : SS := fun S => some (fl, S)
theorem s_break {pos : Pos} : SoundS cx d sc (.Break pos) (flS .brk) := by
  refine ⟨?_⟩
  intro f ok s m led ρ S I R fl S' hg Q E P
  cases hg
  exact wpAny_Break (P _ _ _ s.toks _ _ I (.refl _ _) R .brk)
noncomputable def exprS (g : SE) : SS := fun S => match g S with
  | some (.none, st) => some (.next, ⟨S.lo, S.ce, st⟩)
  | some (.int _, st) => some (.next, ⟨S.lo, S.ce, st⟩)
  | some (.bool _, st) => some (.next, ⟨S.lo, S.ce, st⟩)
  | some (.str _, st) => some (.next, ⟨S.lo, S.ce, st⟩)
  | _ => none
theorem s_expr {e : Expr} {g : SE} {pos : Pos} (h : SoundE cx d sc e g) (hs : ∀ env, swapsWith e none pos.line env = pure false) : SoundS cx d sc (.Expr e pos) (exprS g) := by
  refine ⟨?_⟩
  intro f ok s m led ρ S I R fl S' hg Q E P
  unfold exprS at hg
  split at hg <;> first | (cases hg; done) | skip
  all_goals
    rename_i e1
    cases hg
    refine wpAny_Expr (h.1 f ok s m led ρ S I R _ _ e1 _ _ fun w h1 tk1 led1 ρ1 I1 G1 X1 => ?_) (by unfold interactive; rw [ok.evk]; rfl) (hs _)
    cases X1
    exact P _ _ _ _ _ _ I1 G1 (R.mono G1) .next
noncomputable def nilS : SS := fun S => some (.next, S)
noncomputable def seqS (a b : SS) : SS := fun S => match a S with
  | some (.next, S') => b S'
  | some (fl, S') => some (fl, S')
  | none => none
theorem sb_nil : SoundB cx d sc [] nilS := by
  refine ⟨?_⟩
  intro f ok s m led ρ S I R fl S' hg Q E P
  cases hg
  exact wpAny_execs_nil (P _ _ _ s.toks _ _ I (.refl _ _) R .next)
theorem PostS.next {f : Fm} {led ρ led1 ρ1 S' fl Q} {s : Shared} {h1 tk1} (P : PostS cx sc f led ρ S' fl Q s) (G : Grow led ρ led1 ρ1) : PostS cx sc f led1 ρ1 S' fl Q (put s h1 tk1) :=
  fun fw m' h' tk' led' ρ' I' G' => P fw m' h' tk' led' ρ' I' (G.trans G')
theorem sb_cons {t : Stmt} {r : List Stmt} {a b : SS} (ha : SoundS cx d sc t a) (hb : SoundB cx d sc r b) : SoundB cx d sc (t :: r) (seqS a b) := by
  refine ⟨?_⟩
  intro f ok s m led ρ S I R fl S' hg Q E P
  rw [execs_cons]
  unfold seqS at hg
  split at hg
  · rename_i S1 e1
    refine wpAny_bind (ha.1 f ok s m led ρ S I R _ _ e1 _ _ fun fw m1 h1 tk1 led1 ρ1 I1 G1 R1 X1 => ?_)
    cases X1
    exact hb.1 f ok (put s h1 tk1) m1 led1 ρ1 S1 I1 R1 _ _ hg _ _ (P.next G1)
  · rename_i fl1 S1 hne e1
    cases hg
    refine wpAny_bind (ha.1 f ok s m led ρ S I R _ _ e1 _ _ fun fw m1 h1 tk1 led1 ρ1 I1 G1 R1 X1 => ?_)
    cases X1 with
    | next => exact (hne rfl).elim
    | brk => exact wpAny_pure (P _ _ _ _ _ _ I1 G1 R1 .brk)
    | cont => exact wpAny_pure (P _ _ _ _ _ _ I1 G1 R1 .cont)
    | ret X => exact wpAny_pure (P _ _ _ _ _ _ I1 G1 R1 (.ret X))
  · cases hg
noncomputable def ifS (t : ST) (a b : SS) : SS := fun S => match t S with
  | some (true, st) => a ⟨S.lo, S.ce, st⟩
  | some (false, st) => b ⟨S.lo, S.ce, st⟩
  | none => none
theorem s_if {e : Expr} {a b : List Stmt} {t : ST} {ga gb : SS} {pos : Pos} (ht : SoundT cx d sc e t) (ha : SoundB cx d sc a ga) (hb : SoundB cx d sc b gb) : SoundS cx d sc (.If e a b pos) (ifS t ga gb) := by
  refine ⟨?_⟩
  intro f ok s m led ρ S I R fl S' hg Q E P
  refine wpAny_If ?_
  unfold ifS at hg
  split at hg
  · rename_i st1 e1
    exact ht.1 f ok s m led ρ S I R _ _ e1 _ _ fun h1 tk1 led1 ρ1 I1 G1 => ha.1 f ok (put s h1 tk1) m led1 ρ1 ⟨S.lo, S.ce, st1⟩ I1 (R.mono G1) _ _ hg _ _ (P.next G1)
  · rename_i st1 e1
    exact ht.1 f ok s m led ρ S I R _ _ e1 _ _ fun h1 tk1 led1 ρ1 I1 G1 => hb.1 f ok (put s h1 tk1) m led1 ρ1 ⟨S.lo, S.ce, st1⟩ I1 (R.mono G1) _ _ hg _ _ (P.next G1)
  · cases hg
end
end Mp
namespace Mp
section
variable {cx : Cx} {d : Nat} {sc : Sc}
noncomputable def whileS (t : ST) (b : SS) : Nat → SS
  | 0, _ => none
  | n + 1, S => match t S with
    | some (true, st) => match b ⟨S.lo, S.ce, st⟩ with
      | some (.next, S') => whileS t b n S'
      | some (.cont, S') => whileS t b n S'
      | some (.brk, S') => some (.next, S')
      | some (.ret v, S') => some (.ret v, S')
      | none => none
    | some (false, st) => some (.next, ⟨S.lo, S.ce, st⟩)
    | none => none
theorem s_while {e : Expr} {body : List Stmt} {t : ST} {b : SS} {pos : Pos} (n : Nat) (ht : SoundT cx d sc e t) (hb : SoundB cx d sc body b) : SoundS cx d sc (.While e body [] pos) (whileS t b n) := by
  refine ⟨?_⟩
  intro f ok s m led ρ S I R fl S' hg Q E P
  refine wpAny_While (codeAny_whileLoop (fun n s' => ∃ h tk m1 led1 ρ1 S1, s' = put s h tk ∧ Inv cx f h m1 led1 ρ1 S1.st ∧ Grow led ρ led1 ρ1 ∧ LR cx sc f m1 led1 ρ1 S1.lo S1.ce ∧ whileS t b n S1 = some (fl, S')) ?_ n
    ⟨s.heap, s.toks, m, led, ρ, S, rfl, I, .refl _ _, R, hg⟩)
  intro n s' hI
  obtain ⟨h1, tk1, m1, led1, ρ1, S1, rfl, I1, G1, R1, e1⟩ := hI
  cases n with
  | zero => simp [whileS] at e1
  | succ n =>
    unfold whileS at e1
    split at e1
    · rename_i st2 e2
      refine ht.1 f ok (put s h1 tk1) m1 led1 ρ1 S1 I1 R1 _ _ e2 _ _ fun h2 tk2 led2 ρ2 I2 G2 => ?_
      rw [if_pos rfl]
      split at e1
      · rename_i S3 e3
        refine hb.1 f ok (put s h2 tk2) m1 led2 ρ2 ⟨S1.lo, S1.ce, st2⟩ I2 (R1.mono G2) _ _ e3 _ _ fun fw m3 h3 tk3 led3 ρ3 I3 G3 R3 X3 => ?_
        cases X3
        exact ⟨n, Nat.lt_succ_self _, h3, tk3, m3, led3, ρ3, S3, rfl, I3, (G1.trans G2).trans G3, R3, e1⟩
      · rename_i S3 e3
        refine hb.1 f ok (put s h2 tk2) m1 led2 ρ2 ⟨S1.lo, S1.ce, st2⟩ I2 (R1.mono G2) _ _ e3 _ _ fun fw m3 h3 tk3 led3 ρ3 I3 G3 R3 X3 => ?_
        cases X3
        exact ⟨n, Nat.lt_succ_self _, h3, tk3, m3, led3, ρ3, S3, rfl, I3, (G1.trans G2).trans G3, R3, e1⟩
      · rename_i S3 e3
        cases e1
        refine hb.1 f ok (put s h2 tk2) m1 led2 ρ2 ⟨S1.lo, S1.ce, st2⟩ I2 (R1.mono G2) _ _ e3 _ _ fun fw m3 h3 tk3 led3 ρ3 I3 G3 R3 X3 => ?_
        cases X3
        exact P _ _ _ _ _ _ I3 ((G1.trans G2).trans G3) R3 .next
      · rename_i v S3 e3
        cases e1
        refine hb.1 f ok (put s h2 tk2) m1 led2 ρ2 ⟨S1.lo, S1.ce, st2⟩ I2 (R1.mono G2) _ _ e3 _ _ fun fw m3 h3 tk3 led3 ρ3 I3 G3 R3 X3 => ?_
        cases X3 with
        | ret X => exact P _ _ _ _ _ _ I3 ((G1.trans G2).trans G3) R3 (.ret X)
      · cases e1
    · rename_i st2 e2
      cases e1
      refine ht.1 f ok (put s h1 tk1) m1 led1 ρ1 S1 I1 R1 _ _ e2 _ _ fun h2 tk2 led2 ρ2 I2 G2 => ?_
      rw [if_neg (by decide)]
      exact wpAny_execs_nil (P _ _ _ _ _ _ I2 (G1.trans G2) (R1.mono G2) .next)
    · cases e1
theorem lookup_zip {names : List Str} (nd : names.Nodup) : ∀ {ws : List Value} {i : Nat} {x : Str} {w : Value}, names[i]? = some x → ws[i]? = some w → (names.zip ws).lookup x = some w := by
  induction names with
  | nil => intro ws i x w h; simp at h
  | cons n r ih =>
    intro ws i x w h1 h2
    cases ws with
    | nil => simp at h2
    | cons v ws =>
      simp only [List.nodup_cons] at nd
      rw [List.zip_cons_cons, List.lookup_cons]
      cases i with
      | zero =>
        simp at h1 h2
        subst h1 h2
        simp
      | succ i =>
        simp only [List.getElem?_cons_succ] at h1 h2
        have : x ≠ n := by rintro rfl; exact nd.1 (List.mem_of_getElem? h1)
        have hb : (x == n) = false := by simpa using this
        rw [hb]
        exact ih nd.2 h1 h2
theorem lookup_rev {l : List (Str × Value)} (nd : (l.map (·.1)).Nodup) (x : Str) : l.reverse.lookup x = l.lookup x := by
  induction l with
  | nil => rfl
  | cons p r ih =>
    simp only [List.map_cons, List.nodup_cons] at nd
    rw [List.reverse_cons, List.lookup_append, ih nd.2, List.lookup_cons]
    obtain ⟨y, v⟩ := p
    by_cases h : x = y
    · subst h
      have hn : r.lookup x = none := by
        rw [List.lookup_eq_none_iff]
        intro q hq
        have : x ≠ q.1 := fun e => nd.1 (List.mem_map.mpr ⟨q, hq, e.symm⟩)
        simpa using this
      simp [hn]
    · have hb : (x == y) = false := by simpa using h
      simp [hb, List.lookup_cons]
noncomputable def runB (ars : List Nat) (np ns : Nat) (dflt : List V) (g : SS) : FnG := fun vs st =>
  if ars.contains vs.length then
    match g ⟨(vs ++ dflt.drop (vs.length + dflt.length - np)) ++ List.replicate (ns - np) .undef, [], st⟩ with
    | some (.ret v, S) => some (v, S.st)
    | some (.next, S) => some (.none, S.st)
    | _ => none
  else none
structure FnOk (cx : Cx) (n : Nat) (params : List Str) (sc : Sc) (ars : List Nat) (dflt : List V) (name qual : Str) (ps : Arguments) (body : List Stmt) (dV kV doc pm cdv ct oc : Value) (an od : Option Addr) (osl : Array (Option Value)) : Prop where
  at_ : cx.K.lookup (cx.ga n) = some ⟨oc, od, .func (fnOf name qual ps body sc.cs dV kV doc pm an cdv ct), osl⟩
  code : codeIn cx.K cdv qual = true
  bind : ∀ (h : Heap), cx.K.In h → ∀ led ρ (s : Shared) vs ws, s.heap = h → VRs cx led ρ vs ws → vs.length ∈ ars →
    ∃ es, VRs cx led ρ (dflt.drop (vs.length + dflt.length - params.length)) es ∧ BindsTo s (fnOf name qual ps body sc.cs dV kV doc pm an cdv ct) ⟨ws, []⟩ (params.zip (ws ++ es))
  ars : ∀ k ∈ ars, k ≤ params.length ∧ params.length ≤ k + dflt.length
  pre : ∃ r, sc.ns = params ++ r
  nd : sc.ns.Nodup
  loc : ∀ x ∈ params, sc.cs.names.lookup x = some .local
  cell : ∀ x ∈ sc.cs.names, x.2 ≠ .cell
  nocns : sc.cns = []
  co : sc.cs.isCoroutine = false
  gen : sc.cs.isGenerator = false
  kind : sc.cs.kind = .function
  ex : ∀ L, sc.ex (envOf qual sc.cs L (cx.ga n) cdv)
theorem real_frame {f : Fm} (ok : f.Ok cx d sc) {h : Heap} {m led ρ st} (I : Inv cx f h m led ρ st) :
    ∃ Lr mr K2, f.fe.frame = some Lr ∧ Fr f.h₀ Lr h mr ∧ News f.h₀ Lr h (led ++ K2) ∧ ((led ++ K2).map (·.1)).Nodup ∧
      ∀ h2 (led2 : Led), Fr f.h₀ Lr h2 mr → News f.h₀ Lr h2 (led2 ++ K2) → ((led2 ++ K2).map (·.1)).Nodup → (∀ o, h.get? Lr = some o → h2.get? Lr = some o) →
        Fr f.h₀ f.L h2 m ∧ News f.h₀ f.L h2 (led2 ++ f.kept) ∧ ((led2 ++ f.kept).map (·.1)).Nodup := by
  rcases ok.fr with hf | ⟨Lr, oL, mo, hf, hk, hns, hge⟩
  · exact ⟨f.L, m, f.kept, hf, I.F, I.N, I.nd, fun h2 led2 F N nd _ => ⟨F, N, nd⟩⟩
  · have hL := I.N _ (List.mem_append_right led hk)
    obtain ⟨es, ep, n1, n2, n3⟩ := hns
    obtain ⟨oC, esC, epC, c1, c2, c3, c4⟩ := I.F.ns
    have hnd := I.nd
    rw [List.map_append, List.nodup_append] at hnd
    obtain ⟨nd1, nd2, nd3⟩ := hnd
    have sub : ∀ p, p ∈ f.kept.filter (fun p => decide (p.1 ≠ Lr)) → p ∈ f.kept ∧ p.1 ≠ Lr := fun p hp => by
      obtain ⟨q1, q2⟩ := List.mem_filter.mp hp
      exact ⟨q1, by simpa using q2⟩
    have hCk : ∀ p ∈ led ++ f.kept, p.1 ≠ f.L := fun p hp => (I.N p hp).2.1
    have hC0 : f.h₀.get? f.L = none := by
      cases q : f.h₀.get? f.L with
      | none => rfl
      | some o => exact absurd (Nat.lt_of_lt_of_le (Heap.lt_size q) I.F.above) (Nat.lt_irrefl _)
    have hLC : f.L ≠ Lr := fun e => hL.2.1 e.symm
    refine ⟨Lr, mo, f.kept.filter (fun p => decide (p.1 ≠ Lr)) ++ [(f.L, oC)], hf, ⟨⟨oL, es, ep, hL.1, n1, n2, n3⟩, I.F.keep, hge⟩, fun p hp => ?_, ?_, fun h2 led2 F N nd hx => ?_⟩
    · rcases List.mem_append.mp hp with hp | hp
      · have z := I.at_ hp
        refine ⟨z.1, fun e => ?_, z.2.2⟩
        exact nd3 p.1 (List.mem_map_of_mem hp) Lr (List.mem_map.mpr ⟨_, hk, rfl⟩) e
      · rcases List.mem_append.mp hp with hp | hp
        · obtain ⟨q1, q2⟩ := sub p hp
          have z := I.N p (List.mem_append_right _ q1)
          exact ⟨z.1, q2, z.2.2⟩
        · rw [List.mem_singleton.mp hp]
          exact ⟨c1, hLC, hC0⟩
    · rw [List.map_append, List.nodup_append]
      refine ⟨nd1, ?_, ?_⟩
      · rw [List.map_append, List.nodup_append]
        have hsub : (f.kept.filter (fun p => decide (p.1 ≠ Lr))).Sublist f.kept := List.filter_sublist
        refine ⟨(hsub.map (·.1)).nodup nd2, by simp, fun x hx y hy => ?_⟩
        obtain ⟨p, hp, rfl⟩ := List.mem_map.mp hx
        simp only [List.map_cons, List.map_nil, List.mem_singleton] at hy
        rw [hy]
        exact hCk p (List.mem_append_right _ (sub p hp).1)
      · intro x hx y hy
        obtain ⟨p, hp, rfl⟩ := List.mem_map.mp hx
        obtain ⟨q, hq, rfl⟩ := List.mem_map.mp hy
        rcases List.mem_append.mp hq with hq | hq
        · exact nd3 p.1 (List.mem_map_of_mem hp) q.1 (List.mem_map_of_mem (sub q hq).1)
        · rw [List.mem_singleton.mp hq]
          exact hCk p (List.mem_append_left _ hp)
    · have hnd2 := nd
      rw [List.map_append, List.nodup_append] at hnd2
      obtain ⟨e1, e2, e3⟩ := hnd2
      have hC2 := N (f.L, oC) (List.mem_append_right _ (List.mem_append_right _ (.head _)))
      have hkeep : ∀ p ∈ f.kept, p.1 ≠ Lr → p ∈ f.kept.filter (fun p => decide (p.1 ≠ Lr)) ++ [(f.L, oC)] := fun p hp hne => List.mem_append_left _ (List.mem_filter.mpr ⟨hp, by simpa using hne⟩)
      refine ⟨⟨⟨oC, esC, epC, hC2.1, c2, c3, c4⟩, F.keep, I.F.above⟩, fun p hp => ?_, ?_⟩
      · rcases List.mem_append.mp hp with hp | hp
        · have z := N p (List.mem_append_left _ hp)
          refine ⟨z.1, fun e => ?_, z.2.2⟩
          exact e3 p.1 (List.mem_map_of_mem hp) f.L (List.mem_map.mpr ⟨_, List.mem_append_right _ (.head _), rfl⟩) e
        · have z := I.N p (List.mem_append_right _ hp)
          by_cases hne : p.1 = Lr
          · have := hx _ (hne ▸ z.1)
            exact ⟨hne ▸ this, z.2.1, z.2.2⟩
          · exact ⟨(N p (List.mem_append_right _ (hkeep p hp hne))).1, z.2.1, z.2.2⟩
      · rw [List.map_append, List.nodup_append]
        refine ⟨e1, nd2, fun x hx y hy => ?_⟩
        obtain ⟨p, hp, rfl⟩ := List.mem_map.mp hx
        obtain ⟨q, hq, rfl⟩ := List.mem_map.mp hy
        by_cases hne : q.1 = Lr
        · intro e
          exact (N p (List.mem_append_left _ hp)).2.1 (e.trans hne)
        · exact e3 p.1 (List.mem_map_of_mem hp) q.1 (List.mem_map_of_mem (hkeep q hq hne))
theorem fn_ok {n : Nat} {params : List Str} {sc' : Sc} {ars : List Nat} {dflt : List V} {name qual : Str} {ps : Arguments} {body : List Stmt} {dV kV doc pm cdv ct oc : Value} {an od : Option Addr} {osl : Array (Option Value)}
    (hf : FnOk cx n params sc' ars dflt name qual ps body dV kV doc pm cdv ct oc an od osl) {g : SS} (hb : SoundB cx d sc' body g) :
    CallOk cx (d + 1) (.ref (cx.ga n)) (runB ars params.length sc'.ns.length dflt g) := by
  refine ⟨?_⟩
  intro sc f ok s m led ρ st I vs ws X v st' e R P
  unfold runB at e
  split at e
  · rename_i hl0
    have hl1 : vs.length ∈ ars := by simpa using hl0
    have hl := hf.ars _ hl1
    obtain ⟨es, Xe, hbind⟩ := hf.bind s.heap (ok.X.keeps I.F.keep) led ρ s vs ws rfl X hl1
    have Xa := X.append Xe
    have hlen : (vs ++ dflt.drop (vs.length + dflt.length - params.length)).length = params.length := by
      rw [List.length_append, List.length_drop]
      omega
    have hlw : (ws ++ es).length = params.length := by rw [← Xa.length, hlen]
    have ndp : params.Nodup := by
      obtain ⟨r, hr⟩ := hf.pre
      have := hf.nd
      rw [hr, List.nodup_append] at this
      exact this.1
    have hz : (params.zip (ws ++ es)).map (·.1) = params := by
      rw [List.map_fst_zip]
      omega
    obtain ⟨Lr, mr, K2, hfr, FR, NR, ndR, back⟩ := real_frame ok I
    refine code_defG ok.B FR ok.X NR ok.T ok.hA hfr ok.fek hf.at_ hf.code (Nat.lt_of_le_of_lt (Nat.le_add_right _ _) ok.dep) hbind (fun y hy => ?_) (fun gh L' h₁ FG F' N' B' X' T' hG => ?_) hf.co hf.gen hf.kind hf.cell
    · have : y.1 ∈ params := by
        have := List.mem_map_of_mem (f := (·.1)) hy
        rw [hz] at this
        exact this
      exact hf.loc _ this
    · let f' : Fm := ⟨f.A.deeper (envOf qual sc'.cs L' (cx.ga n) cdv), f.A, f.base, gh, f.fe :: f.outer, L', K2, envOf qual sc'.cs L' (cx.ga n) cdv, envOf qual sc'.cs L' (cx.ga n) cdv⟩
      have ok' : f'.Ok cx d sc' := ⟨Around.frames_deeper B'.stack, B', X', T', hf.kind, rfl, rfl, rfl, rfl, hf.ex _, hf.kind, .inl rfl, by
        have := ok.dep
        show f.A.depth + 1 + d < 1000
        omega, by
        have := ok.un
        show f.A.units + 3 + 16 * d < 9800
        omega, ok.hh⟩
      have I' : Inv cx f' h₁ (fun y => (params.zip (ws ++ es)).reverse.lookup y) led ρ st := ⟨F', N', ndR, I.sep, I.len, I.ob⟩
      have R' : LR cx sc' f' (fun y => (params.zip (ws ++ es)).reverse.lookup y) led ρ ((vs ++ dflt.drop (vs.length + dflt.length - params.length)) ++ List.replicate (sc'.ns.length - params.length) .undef) [] := by
        obtain ⟨r, hr⟩ := hf.pre
        refine ⟨hf.nd, ?_, fun i x v' hx hv hne => ?_, fun i x hx => by rw [hf.nocns] at hx; simp at hx⟩
        · rw [List.length_append, hlen, List.length_replicate, hr, List.length_append]
          omega
        · by_cases hi : i < params.length
          · rw [List.getElem?_append_left (by omega)] at hv
            rw [hr, List.getElem?_append_left hi] at hx
            obtain ⟨w', hw, q⟩ := Xa.get hv
            exact ⟨w', by rw [lookup_rev (by rw [hz]; exact ndp)]; exact lookup_zip ndp hx hw, q⟩
          · rw [List.getElem?_append_right (by omega)] at hv
            have := List.mem_of_getElem? hv
            rw [List.mem_replicate] at this
            exact absurd this.2 hne
      have fin : ∀ {w' : Value} {h2 : Heap} {tk2 : Nat} {led2 : Led} {ρ2 : Rho} {m2 : Str → Option Value}, Inv cx f' h2 m2 led2 ρ2 st' → Grow led ρ led2 ρ2 → VR cx led2 ρ2 v w' → LeaveK f.h₀ Lr mr gh R w' (put s h2 tk2) :=
        fun I2 G2 X2 => leaveK_ I2.F I2.N fun F3 N3 => by
          obtain ⟨b1, b2, b3⟩ := back _ _ F3 N3 I2.nd fun o ho => I2.F.keep _ _ (hG _ _ ho fun hm => by
            obtain ⟨p, hp, e⟩ := List.mem_map.mp hm
            exact (NR p hp).2.1 e)
          exact P _ _ _ _ _ ⟨b1, b2, b3, I2.sep, I2.len, I2.ob⟩ G2 X2
      split at e
      · rename_i v' S1 e1
        cases e
        refine hb.1 f' ok' (put s h₁ (s.toks + (params.zip (ws ++ es)).length)) _ led ρ ⟨_, [], st⟩ I' R' _ _ e1 _ _ fun fw m2 h2 tk2 led2 ρ2 I2 G2 R2 X2 => ?_
        cases X2 with
        | ret X2 => exact fin I2 G2 X2
      · rename_i S1 e1
        cases e
        refine hb.1 f' ok' (put s h₁ (s.toks + (params.zip (ws ++ es)).length)) _ led ρ ⟨_, [], st⟩ I' R' _ _ e1 _ _ fun fw m2 h2 tk2 led2 ρ2 I2 G2 R2 X2 => ?_
        cases X2
        exact fin I2 G2 .none
      · cases e
  · cases e
noncomputable def obOf (K : Frag) (a : Addr) : Obj := match K.lookup a with
  | some o => o
  | none => { cls := .none, data := .plain }
noncomputable def fdOf (K : Frag) (a : Addr) : FuncData := match (obOf K a).data with
  | .func fd => fd
  | _ => fnOf "" "" { posonlyargs := [], args := [], vararg := none, kwonlyargs := [], kw_defaults := [], kwarg := none, defaults := [] } [] { kind := .function, names := [], isGenerator := false, isCoroutine := false, more := [] } .none .none .none .none none .none .none
noncomputable def stOf (K : Frag) (a : Addr) : List Stmt := match (fdOf K a).body with
  | .stmts b => b
  | _ => []
structure FnK (cx : Cx) (n : Nat) (params : List Str) (ns : List Str) (ars : List Nat) (dflt : List V) : Prop where
  at_ : cx.K.lookup (cx.ga n) = some ⟨(obOf cx.K (cx.ga n)).cls, (obOf cx.K (cx.ga n)).dict, .func (fdOf cx.K (cx.ga n)), (obOf cx.K (cx.ga n)).slots⟩
  isF : (fdOf cx.K (cx.ga n)).body = .stmts (stOf cx.K (cx.ga n)) ∧ (fdOf cx.K (cx.ga n)).globals = mainGlobals ∧ (fdOf cx.K (cx.ga n)).closure = [] ∧ (fdOf cx.K (cx.ga n)).builtins = builtinsNs
  code : codeIn cx.K (fdOf cx.K (cx.ga n)).code (fdOf cx.K (cx.ga n)).qualname = true
  bind : ∀ (h : Heap), cx.K.In h → ∀ led ρ (s : Shared) vs ws, s.heap = h → VRs cx led ρ vs ws → vs.length ∈ ars →
    ∃ es, VRs cx led ρ (dflt.drop (vs.length + dflt.length - params.length)) es ∧ BindsTo s (fdOf cx.K (cx.ga n)) ⟨ws, []⟩ (params.zip (ws ++ es))
  ars : ∀ k ∈ ars, k ≤ params.length ∧ params.length ≤ k + dflt.length
  pre : ∃ r, ns = params ++ r
  nd : ns.Nodup
  loc : (params.all fun x => decide ((fdOf cx.K (cx.ga n)).scope.names.lookup x = some .local)) = true
  cell : ((fdOf cx.K (cx.ga n)).scope.names.all fun x => decide (x.2 ≠ .cell)) = true
  co : (fdOf cx.K (cx.ga n)).scope.isCoroutine = false
  gen : (fdOf cx.K (cx.ga n)).scope.isGenerator = false
  kind : (fdOf cx.K (cx.ga n)).scope.kind = .function
theorem fn_okK {n : Nat} {params ns : List Str} {ars : List Nat} {dflt : List V} (hf : FnK cx n params ns ars dflt) {g : SS} {ex : Env → Prop} (hb : SoundB cx d ⟨(fdOf cx.K (cx.ga n)).scope, ns, [], ex⟩ (stOf cx.K (cx.ga n)) g) (hex : ∀ L, ex (envOf (fdOf cx.K (cx.ga n)).qualname (fdOf cx.K (cx.ga n)).scope L (cx.ga n) (fdOf cx.K (cx.ga n)).code) := by intro _; trivial) :
    CallOk cx (d + 1) (.ref (cx.ga n)) (runB ars params.length ns.length dflt g) := by
  have he : fdOf cx.K (cx.ga n) = fnOf (fdOf cx.K (cx.ga n)).name (fdOf cx.K (cx.ga n)).qualname (fdOf cx.K (cx.ga n)).params (stOf cx.K (cx.ga n)) (fdOf cx.K (cx.ga n)).scope (fdOf cx.K (cx.ga n)).defaults (fdOf cx.K (cx.ga n)).kwdefaults (fdOf cx.K (cx.ga n)).doc (fdOf cx.K (cx.ga n)).pyModule (fdOf cx.K (cx.ga n)).annotations (fdOf cx.K (cx.ga n)).code (fdOf cx.K (cx.ga n)).closureTuple := by
    obtain ⟨h1, h2, h3, h4⟩ := hf.isF
    unfold fnOf
    rw [← h1, ← h2, ← h3, ← h4]
  exact fn_ok (sc' := ⟨(fdOf cx.K (cx.ga n)).scope, ns, [], ex⟩) (params := params) (dflt := dflt)
    { at_ := by rw [← he]; exact hf.at_, code := hf.code, bind := by rw [← he]; exact hf.bind, ars := hf.ars, pre := hf.pre, nd := hf.nd, loc := fun x hx => of_decide_eq_true (List.all_eq_true.mp hf.loc x hx), cell := fun x hx => of_decide_eq_true (List.all_eq_true.mp hf.cell x hx), nocns := rfl, co := hf.co, gen := hf.gen, kind := hf.kind, ex := hex } hb
end
end Mp
namespace Mp
section
variable {cx : Cx} {d : Nat} {sc : Sc}
theorem Inv.rho_obj {cx f h m led ρ st} (I : Inv cx f h m led ρ st) : ∀ q ∈ ρ, ∃ o, (q.2, o) ∈ led ∧ (Frz o = false ∨ Frz2 o = true) := by
  intro q hq
  obtain ⟨i, hi⟩ := List.getElem?_of_mem hq
  have hl : i < st.length := by rw [← I.len]; exact (List.getElem?_eq_some_iff.mp hi).1
  have ho := I.ob i st[i] (List.getElem?_eq_getElem hl)
  cases e : st[i] with
  | list vs => rw [e] at ho; obtain ⟨a, ws, n, h1, h2, _⟩ := ho; rw [hi] at h1; cases h1; exact ⟨_, h2, .inl rfl⟩
  | nums is => rw [e] at ho; obtain ⟨a, ws, n, h1, h2, _⟩ := ho; rw [hi] at h1; cases h1; exact ⟨_, h2, .inl rfl⟩
  | inst c fs => rw [e] at ho; obtain ⟨a, d, es, n, h1, _, h3, _⟩ := ho; rw [hi] at h1; cases h1; exact ⟨_, h3, .inl rfl⟩
  | cell v => rw [e] at ho; obtain ⟨a, o, w, h1, h2, h3, _⟩ := ho; rw [hi] at h1; cases h1; exact ⟨_, h2, .inl (by unfold Frz; rw [h3])⟩
  | dict es => rw [e] at ho; obtain ⟨a, o', ds, h1, h2, ⟨es', ep, _, h3, _⟩, _⟩ := ho; rw [hi] at h1; cases h1; exact ⟨_, h2, .inl (by unfold Frz; rw [h3])⟩
  | clo n cells => rw [e] at ho; obtain ⟨a, cl, c', doc, pm, ctv, h1, h2, _⟩ := ho; rw [hi] at h1; cases h1; exact ⟨_, h2, .inr rfl⟩
  | tab n made =>
    rw [e] at ho
    obtain ⟨P, ps, h1, h2, h3, h4⟩ := ho
    rw [hi] at h1
    cases h1
    refine ⟨_, h2, .inl ?_⟩
    rcases h4 with ⟨_, rfl⟩ | ⟨_, c', rfl, _⟩ <;> rfl
  | junk => rw [e] at ho; obtain ⟨a, d, o, h1, h2, h3⟩ := ho; rw [hi] at h1; cases h1; exact ⟨_, h2, h3⟩
theorem Inv.rho_ne {f : Fm} {h m led ρ st} (I : Inv cx f h m led ρ st) {it : Addr} {o : Obj} (ho : (it, o) ∈ led) (h1 : Frz o = true) (h2 : Frz2 o = false) : ∀ q ∈ ρ, q.2 ≠ it := by
  intro q hq e
  obtain ⟨o', ho', hz⟩ := I.rho_obj q hq
  rw [e] at ho'
  have := I.uniq ho ho'
  subst this
  rcases hz with hz | hz
  · rw [h1] at hz; cases hz
  · rw [h2] at hz; cases hz
theorem Inv.iter {f : Fm} {h h' m led ρ st} (I : Inv cx f h m led ρ st) {it : Addr} {o o' : Obj} (ho : (it, o) ∈ led) (h1 : Frz o = true) (h2 : Frz2 o = false) (hs : Heap.SameBut it h h') (ho' : h'.get? it = some o') :
    Inv cx f h' m (updL it o' led) ρ st ∧ Grow2 led ρ (updL it o' led) ρ := by
  have z := I.at_ ho
  obtain ⟨pre, post, e1, e2, q1, q2⟩ := (I.upd (o' := o') ho).split
  exact I.step ho h2 (I.rho_ne ho h1 h2) (I.F.change hs z.2.1 z.2.2) (by rw [e2]; exact news_set (e1 ▸ I.N) q1 q2 hs ho')
theorem Inv.drop {f : Fm} {h h' m led ρ st} (I : Inv cx f h m led ρ st) {it : Addr} {o : Obj} (ho : (it, o) ∈ led) (h1 : Frz o = true) (h2 : Frz2 o = false) (hs : Heap.ExtBut it h h') :
    Inv cx f h' m (led.filter fun p => p.1 ≠ it) ρ st ∧ Grow2 led ρ (led.filter fun p => p.1 ≠ it) ρ := by
  have z := I.at_ ho
  have keep : ∀ p ∈ led, p.1 ≠ it → p ∈ led.filter fun p => p.1 ≠ it := fun p hp hne => List.mem_filter.mpr ⟨hp, by simpa using hne⟩
  have g : Grow2 led ρ (led.filter fun p => p.1 ≠ it) ρ := ⟨fun p hp hf => keep p hp fun e => (by
    obtain ⟨b, x⟩ := p
    simp only at e
    subst e
    rw [I.uniq hp ho, h2] at hf
    exact Bool.noConfusion hf), [], (by simp)⟩
  obtain ⟨oL, es, ep, q1, q2, q3, q4⟩ := I.F.ns
  refine ⟨⟨⟨⟨oL, es, ep, hs _ _ (Ne.symm z.2.1) q1, q2, q3, q4⟩, fun b x e => hs _ _ (fun q => ?_) (I.F.keep b x e), I.F.above⟩, fun p hp => ?_, ?_, I.sep, I.len, fun j x e => (I.ob j x e).mono2 g fun p hp b hb => keep p hp fun e' => I.rho_ne ho h1 h2 _ (List.mem_of_getElem? hb) e'⟩, g⟩
  · have := z.2.2
    rw [← q] at this
    rw [this] at e
    cases e
  · rcases List.mem_append.mp hp with hp | hp
    · obtain ⟨hp1, hp2⟩ := List.mem_filter.mp hp
      have hne : p.1 ≠ it := by simpa using hp2
      exact ⟨hs _ _ hne (I.at_ hp1).1, (I.at_ hp1).2⟩
    · have zz := I.N p (List.mem_append_right _ hp)
      exact ⟨hs _ _ (I.out ho p hp) zz.1, zz.2⟩
  · have hsub : (led.filter (fun p => decide (p.1 ≠ it)) ++ f.kept).Sublist (led ++ f.kept) := List.Sublist.append List.filter_sublist (List.Sublist.refl _)
    exact (hsub.map (·.1)).nodup I.nd
noncomputable def forS (item : Nat → List Ob → Option (Option V)) (asg : V → S → Option S) (b : SS) : Nat → Nat → SS
  | 0, _, _ => none
  | n + 1, i, S => match item i S.st with
    | none => none
    | some none => some (.next, S)
    | some (some v) => match asg v S with
      | none => none
      | some S1 => match b S1 with
        | some (.next, S2) => forS item asg b n (i + 1) S2
        | some (.cont, S2) => forS item asg b n (i + 1) S2
        | some (.brk, S2) => some (.next, S2)
        | some (.ret v, S2) => some (.ret v, S2)
        | none => none
structure ItOk (cx : Cx) (d : Nat) (sc : Sc) (item : Nat → List Ob → Option (Option V)) (P : Nat → Obj → Prop) (C : Led → Rho → Prop) (target : Expr) : Prop where
  ctx : ∀ led ρ led' ρ', Grow2 led ρ led' ρ' → C led ρ → C led' ρ'
  fz : ∀ i o, P i o → Frz o = true ∧ Frz2 o = false
  next : ∀ (f : Fm), f.Ok cx d sc → ∀ (s : Shared) m led ρ st it i o v, Inv cx f s.heap m led ρ st → C led ρ → (it, o) ∈ led → P i o → item i st = some (some v) → ∀ (Q : Option Value → Shared → Prop) E,
    (∀ w h' o' tk, Heap.SameBut it s.heap h' → h'.get? it = some o' → P (i + 1) o' → VR cx led ρ v w → Q (some w) (put s h' tk)) → wpAny cx.M f.A (pyNext (.ref it)) Q E s
  last : ∀ (f : Fm), f.Ok cx d sc → ∀ (s : Shared) m led ρ st it i o, Inv cx f s.heap m led ρ st → C led ρ → (it, o) ∈ led → P i o → item i st = some none → ∀ (Q : Option Value → Shared → Prop) E,
    (∀ h' tk, Heap.ExtBut it s.heap h' → Q none (put s h' tk)) → wpAny cx.M f.A (pyNext (.ref it)) Q E s
  go : ∀ (A : Around) (s : Shared) it i o w, s.heap.get? it = some o → P i o → ∀ (Q : Unit → Shared → Prop) E, Q () s → wpAny cx.M A (letOwnedTupleGo target (.ref it) w) Q E s
theorem grow_upd {led0 led ρ0 ρ it o'} (g : Grow led0 ρ0 led ρ) (h : ∀ p ∈ led0, p.1 ≠ it) : Grow led0 ρ0 (updL it o' led) ρ :=
  ⟨fun p hp hf => updL_ne (g.fz p hp hf) (h p hp), g.rho⟩
theorem grow_drop {led0 led ρ0 ρ it} (g : Grow led0 ρ0 led ρ) (h : ∀ p ∈ led0, p.1 ≠ it) : Grow led0 ρ0 (led.filter fun p => p.1 ≠ it) ρ :=
  ⟨fun p hp hf => List.mem_filter.mpr ⟨g.fz p hp hf, by simpa using h p hp⟩, g.rho⟩
theorem for_loop {item P C target asg body b} (T : ItOk cx d sc item P C target) (hu : SoundU cx d sc target asg) (hb : SoundB cx d sc body b) {f : Fm} (ok : f.Ok cx d sc) {s : Shared} {led0 ρ0} {it : Addr} (hit : ∀ p ∈ led0, p.1 ≠ it)
    {fl S'} {Q : Flow → Shared → Prop} {E' : Value → Shared → Prop} (Pq : PostS cx sc f led0 ρ0 S' fl Q s) (n : Nat) {i : Nat} {h1 : Heap} {tk1 : Nat} {m1 led1 ρ1} {S1 : S} {o : Obj} (I1 : Inv cx f h1 m1 led1 ρ1 S1.st) (G1 : Grow led0 ρ0 led1 ρ1) (R1 : LR cx sc f m1 led1 ρ1 S1.lo S1.ce) (ho : (it, o) ∈ led1) (hP : P i o)
    (hC : C led1 ρ1) (e : forS item asg b n i S1 = some (fl, S')) :
    codeAny cx.M f.A (.forLoop target (.ref it) body [] (f.env sc)) (fun r s' => match r with | .ok fl => Q fl s' | .error e => E' e s') (put s h1 tk1) := by
  refine codeAny_forLoop_any (fun n s' => ∃ h tk m1 led1 ρ1 S1 i o, s' = put s h tk ∧ Inv cx f h m1 led1 ρ1 S1.st ∧ Grow led0 ρ0 led1 ρ1 ∧ LR cx sc f m1 led1 ρ1 S1.lo S1.ce ∧ (it, o) ∈ led1 ∧ P i o ∧ C led1 ρ1 ∧ forS item asg b n i S1 = some (fl, S')) ?_ n
    ⟨h1, tk1, m1, led1, ρ1, S1, i, o, rfl, I1, G1, R1, ho, hP, hC, e⟩
  clear e hC hP ho R1 G1 I1
  intro n s' hI
  obtain ⟨h1, tk1, m1, led1, ρ1, S1, i, o, rfl, I1, G1, R1, ho, hP, hC, e⟩ := hI
  obtain ⟨z1, z2⟩ := T.fz _ _ hP
  cases n with
  | zero => simp [forS] at e
  | succ n =>
    unfold forS at e
    split at e
    · cases e
    · rename_i ei
      cases e
      refine T.last f ok (put s h1 tk1) m1 led1 ρ1 _ it i o I1 hC ho hP ei _ _ fun h' tk hx => ?_
      obtain ⟨I2, g2⟩ := I1.drop ho z1 z2 hx
      exact wpAny_execs_nil (Pq _ _ _ tk _ _ I2 (grow_drop G1 hit) (R1.mono2 g2) .next)
    · rename_i v ei
      refine T.next f ok (put s h1 tk1) m1 led1 ρ1 S1.st it i o v I1 hC ho hP ei _ _ fun w h2 o' tk2 hsb ho' hP' X => ?_
      obtain ⟨I2, g2⟩ := I1.iter ho z1 z2 hsb ho'
      have hm2 : (it, o') ∈ updL it o' led1 := updL_self ho
      obtain ⟨z1', z2'⟩ := T.fz _ _ hP'
      refine T.go f.A (put s h2 tk2) it (i + 1) o' w (I2.at_ hm2).1 hP' _ _ ?_
      split at e
      · cases e
      · rename_i S2 e2
        refine hu.1 f ok (put s h2 tk2) m1 _ ρ1 S1 I2 (R1.mono2 g2) v w (X.mono2 g2) S2 e2 _ _ fun m3 h3 tk3 led3 ρ3 I3 G3 R3 => ?_
        have G03 : Grow led0 ρ0 led3 ρ3 := (grow_upd G1 hit).trans G3
        have hC3 := T.ctx _ _ _ _ G3.to2 (T.ctx _ _ _ _ g2 hC)
        have hm3 := G3.fz _ hm2 z1'
        split at e
        · rename_i S4 e4
          refine hb.1 f ok (put s h3 tk3) m3 led3 ρ3 S2 I3 R3 _ _ e4 _ _ fun fw m4 h4 tk4 led4 ρ4 I4 G4 R4 X4 => ?_
          cases X4
          exact ⟨n, Nat.lt_succ_self _, h4, tk4, m4, led4, ρ4, S4, i + 1, o', rfl, I4, G03.trans G4, R4, G4.fz _ hm3 z1', hP', T.ctx _ _ _ _ G4.to2 hC3, e⟩
        · rename_i S4 e4
          refine hb.1 f ok (put s h3 tk3) m3 led3 ρ3 S2 I3 R3 _ _ e4 _ _ fun fw m4 h4 tk4 led4 ρ4 I4 G4 R4 X4 => ?_
          cases X4
          exact ⟨n, Nat.lt_succ_self _, h4, tk4, m4, led4, ρ4, S4, i + 1, o', rfl, I4, G03.trans G4, R4, G4.fz _ hm3 z1', hP', T.ctx _ _ _ _ G4.to2 hC3, e⟩
        · rename_i S4 e4
          cases e
          refine hb.1 f ok (put s h3 tk3) m3 led3 ρ3 S2 I3 R3 _ _ e4 _ _ fun fw m4 h4 tk4 led4 ρ4 I4 G4 R4 X4 => ?_
          cases X4
          exact Pq _ _ _ _ _ _ I4 (G03.trans G4) R4 .next
        · rename_i v4 S4 e4
          cases e
          refine hb.1 f ok (put s h3 tk3) m3 led3 ρ3 S2 I3 R3 _ _ e4 _ _ fun fw m4 h4 tk4 led4 ρ4 I4 G4 R4 X4 => ?_
          cases X4 with
          | ret X4 => exact Pq _ _ _ _ _ _ I4 (G03.trans G4) R4 (.ret X4)
        · cases e
end
end Mp
namespace Mp
noncomputable def GoT (t : Expr) : Prop := (∀ it v, letOwnedTupleGo t it v = pure ()) ∨ ∃ es k p, t = .Tuple es k p
theorem go_ok {M : Model} {A : Around} {s : Shared} {it : Addr} {o : Obj} {w : Value} {t : Expr} (ht : GoT t) (ho : s.heap.get? it = some o) {T : String} (hc : o.cls = .type T)
    (hT : ["enumerate", "zip", "dict_itemiterator", "dict_reverseitemiterator", "odict_iterator", "itertools.zip_longest", "itertools.pairwise"].contains T = false)
    {Q : Unit → Shared → Prop} {E} (h : Q () s) : wpAny M A (letOwnedTupleGo t (.ref it) w) Q E s := by
  rcases ht with ht | ⟨es, k, p, rfl⟩
  · rw [ht]; exact wpAny_pure h
  · unfold letOwnedTupleGo
    cases w with
    | ref a =>
      refine wpAny_bind (wpAny_load ho ?_)
      rw [hc]
      split
      · rename_i n vs e1 e2
        cases e1
        simp only [hT, Bool.false_and, Bool.false_eq_true, if_false]
        exact wpAny_pure h
      · exact wpAny_pure h
    | _ => exact wpAny_pure h
section
variable {cx : Cx} {d : Nat} {sc : Sc}
noncomputable def itemV (v : V) (i : Nat) (st : List Ob) : Option (Option V) := match v with
  | .tup vs => some vs[i]?
  | .ref r => match gt st r with
    | some (.list vs) => some vs[i]?
    | _ => none
  | .str cs => if cs.all (· < 128) then some (cs[i]?.map fun c => .str [c]) else none
  | _ => none
theorem it_tup {t : Addr} {vs : List V} {ws : List Value} {n : Nat} {tg : Expr} (hg : GoT tg) :
    ItOk cx d sc (itemV (.tup vs)) (fun i o => o.cls = .type "tuple_iterator" ∧ o.data = .fields #[.ref t, .int (i : Nat) 0]) (fun led ρ => ((t, tupObj ws n) ∈ led ∨ cx.K.lookup t = some (tupObj ws n)) ∧ VRs cx led ρ vs ws) tg where
  ctx := fun led ρ led' ρ' g h => ⟨h.1.elim (fun h => .inl (g.fz _ h rfl)) .inr, h.2.mono2 g⟩
  fz := fun i o h => by unfold Frz Frz2; rw [h.2, h.1]; exact ⟨rfl, rfl⟩
  next := by
    intro f ok s m led ρ st it i o v I hC ho hP e Q E P
    have ht := tup_at ok I hC.1
    simp only [itemV, Option.some.injEq, gt_eq, pt_eq, ad_eq, ln_eq] at e
    obtain ⟨w, hw, X⟩ := hC.2.get e
    refine wpAny_pyNext_tuple_item ⟨o, (I.at_ ho).1, hP.1, hP.2⟩ ht (by simpa using hw) fun h' hi hs => ?_
    obtain ⟨o', q1, q2, q3⟩ := hi
    exact P w h' o' s.toks hs q1 ⟨q2, q3⟩ X
  last := by
    intro f ok s m led ρ st it i o I hC ho hP e Q E P
    have ht := tup_at ok I hC.1
    simp only [itemV, Option.some.injEq, gt_eq, pt_eq, ad_eq, ln_eq] at e
    refine wpAny_pyNext_tuple_end ok.hh ⟨o, (I.at_ ho).1, hP.1, hP.2⟩ ht ?_ fun h' hs => P h' s.toks hs
    have := hC.2.length
    simp only [List.getElem?_eq_none_iff] at e
    simp
    omega
  go := fun A s it i o w ho hP Q E h => go_ok hg ho hP.1 (by decide) h
theorem it_list {r : Nat} {l : Addr} {tg : Expr} (hg : GoT tg) :
    ItOk cx d sc (itemV (.ref r)) (fun i o => o.cls = .type "list_iterator" ∧ o.data = .fields #[.ref l, .int (i : Nat) 0]) (fun led ρ => ρ[r]? = some (l, l)) tg where
  ctx := fun led ρ led' ρ' g h => g.at h
  fz := fun i o h => by unfold Frz Frz2; rw [h.2, h.1]; exact ⟨rfl, rfl⟩
  next := by
    intro f ok s m led ρ st it i o v I hC ho hP e Q E P
    simp only [itemV, gt_eq, pt_eq, ad_eq, ln_eq] at e
    split at e
    · rename_i vs hst
      simp only [Option.some.injEq] at e
      obtain ⟨a, ws, n, h1, h2, h3⟩ := I.ob _ _ hst
      rw [hC] at h1
      cases h1
      obtain ⟨w, hw, X⟩ := h3.get e
      refine wpAny_pyNext_list_item ⟨o, (I.at_ ho).1, hP.1, hP.2⟩ (list_at I h2) (by simpa using hw) fun h' hi hs => ?_
      obtain ⟨o', q1, q2, q3⟩ := hi
      exact P w h' o' s.toks hs q1 ⟨q2, q3⟩ X
    · cases e
  last := by
    intro f ok s m led ρ st it i o I hC ho hP e Q E P
    simp only [itemV, gt_eq, pt_eq, ad_eq, ln_eq] at e
    split at e
    · rename_i vs hst
      simp only [Option.some.injEq] at e
      obtain ⟨a, ws, n, h1, h2, h3⟩ := I.ob _ _ hst
      rw [hC] at h1
      cases h1
      refine wpAny_pyNext_list_end ok.hh ⟨o, (I.at_ ho).1, hP.1, hP.2⟩ (list_at I h2) ?_ fun h' hs => P h' s.toks hs
      have := h3.length
      simp only [List.getElem?_eq_none_iff] at e
      simp at this ⊢
      omega
    · cases e
  go := fun A s it i o w ho hP Q E h => go_ok hg ho hP.1 (by decide) h
theorem it_str {cs : List Nat} {t : Tok} {tg : Expr} (hg : GoT tg) :
    ItOk cx d sc (itemV (.str cs)) (fun i o => o.cls = .type "str_ascii_iterator" ∧ o.data = .fields #[.str ⟨cs.toArray⟩ t, .int (i : Nat) 0]) (fun led ρ => True) tg where
  ctx := fun led ρ led' ρ' g h => h
  fz := fun i o h => by unfold Frz Frz2; rw [h.2, h.1]; exact ⟨rfl, rfl⟩
  next := by
    intro f ok s m led ρ st it i o v I hC ho hP e Q E P
    simp only [itemV, gt_eq, pt_eq, ad_eq, ln_eq] at e
    split at e
    · simp only [Option.some.injEq] at e
      obtain ⟨c, hc, rfl⟩ := Option.map_eq_some_iff.mp e
      refine wpAny_pyNext_ascii_item ⟨o, (I.at_ ho).1, hP.1, hP.2⟩ (c := c) (by simpa using hc) fun h' hi hs => ?_
      obtain ⟨o', q1, q2, q3⟩ := hi
      exact P _ h' o' _ hs q1 ⟨q2, q3⟩ (.str [c] _)
    · cases e
  last := by
    intro f ok s m led ρ st it i o I hC ho hP e Q E P
    simp only [itemV, gt_eq, pt_eq, ad_eq, ln_eq] at e
    split at e
    · simp only [Option.some.injEq, Option.map_eq_none_iff] at e
      refine wpAny_pyNext_ascii_end ok.hh ⟨o, (I.at_ ho).1, hP.1, hP.2⟩ (by simpa using e) fun h' hs => P h' s.toks hs
    · cases e
  go := fun A s it i o w ho hP Q E h => go_ok hg ho hP.1 (by decide) h
noncomputable def forVS (g : SE) (asg : V → S → Option S) (b : SS) (n : Nat) : SS := fun S => match g S with
  | some (v, st) => forS (itemV v) asg b n 0 ⟨S.lo, S.ce, st⟩
  | none => none
theorem forS_item {item asg b n i S r} (h : forS item asg b n i S = some r) : ∃ x, item i S.st = some x := by
  cases n with
  | zero => simp [forS] at h
  | succ n =>
    unfold forS at h
    split at h
    · cases h
    · exact ⟨_, ‹_›⟩
    · exact ⟨_, ‹_›⟩
theorem s_for {t iter : Expr} {body : List Stmt} {g : SE} {asg b} {pos : Pos} (n : Nat) (hi : SoundE cx d sc iter g) (hu : SoundU cx d sc t asg) (hb : SoundB cx d sc body b) (hg : GoT t)
    (hs : ∀ env x, foldedSetIterable iter env x = pure x) : SoundS cx d sc (.For t iter body [] pos) (forVS g asg b n) := by
  refine ⟨?_⟩
  intro f ok s m led ρ S I R fl S' hg' Q E P
  unfold forVS at hg'
  split at hg'
  · rename_i v st1 e1
    refine wpAny_For (hi.1 f ok s m led ρ S I R _ _ e1 _ _ fun w h1 tk1 led1 ρ1 I1 G1 X1 => ?_) (hs _)
    obtain ⟨x0, hx0⟩ := forS_item hg'
    cases X1 with
    | tup vs ws a k hm r =>
      refine wpAny_pyIter_tuple (tup_at ok I1 hm) ?_
      obtain ⟨I2, G2⟩ := I1.push (Fr.size_ne I1.N) (I1.F.push _) (I1.N.push I1.F ({ cls := .type "tuple_iterator", data := .fields #[.ref a, .int 0 0] } : Obj))
      exact for_loop (s := s) (led0 := led1) (ρ0 := ρ1) (S1 := ⟨S.lo, S.ce, st1⟩) (it_tup (t := a) (ws := ws) (n := k) hg) hu hb ok (fun p hp => Fr.size_ne I1.N p (List.mem_append_left _ hp)) (fun fw m' h' tk' led' ρ' I' G' => P fw m' h' tk' led' ρ' I' (G1.trans G')) n (i := 0) I2 G2 ((R.mono G1).mono G2) (.head _) ⟨rfl, rfl⟩
        ⟨hm.elim (fun h => .inl (.tail _ h)) .inr, r.mono G2⟩ hg'
    | ref r a dd hr =>
      simp only [itemV, gt_eq, pt_eq, ad_eq, ln_eq] at hx0
      split at hx0
      · rename_i vs hst
        obtain ⟨a', ws, k, q1, q2, q3⟩ := I1.ob _ _ hst
        rw [hr] at q1
        cases q1
        refine wpAny_pyIter_list (list_at I1 q2) ?_
        obtain ⟨I2, G2⟩ := I1.push (Fr.size_ne I1.N) (I1.F.push _) (I1.N.push I1.F ({ cls := .type "list_iterator", data := .fields #[.ref a, .int 0 0] } : Obj))
        exact for_loop (s := s) (led0 := led1) (ρ0 := ρ1) (S1 := ⟨S.lo, S.ce, st1⟩) (it_list (r := r) (l := a) hg) hu hb ok (fun p hp => Fr.size_ne I1.N p (List.mem_append_left _ hp)) (fun fw m' h' tk' led' ρ' I' G' => P fw m' h' tk' led' ρ' I' (G1.trans G')) n (i := 0) I2 G2 ((R.mono G1).mono G2) (.head _) ⟨rfl, rfl⟩
          hr hg'
      · cases hx0
    | str cs tk =>
      simp only [itemV, gt_eq, pt_eq, ad_eq, ln_eq] at hx0
      split at hx0
      · rename_i hall
        refine wpAny_pyIter_ascii (by simpa using hall) ?_
        obtain ⟨I2, G2⟩ := I1.push (Fr.size_ne I1.N) (I1.F.push _) (I1.N.push I1.F ({ cls := .type "str_ascii_iterator", data := .fields #[.str ⟨cs.toArray⟩ tk, .int 0 0] } : Obj))
        exact for_loop (s := s) (led0 := led1) (ρ0 := ρ1) (S1 := ⟨S.lo, S.ce, st1⟩) (it_str (cs := cs) (t := tk) hg) hu hb ok (fun p hp => Fr.size_ne I1.N p (List.mem_append_left _ hp)) (fun fw m' h' tk' led' ρ' I' G' => P fw m' h' tk' led' ρ' I' (G1.trans G')) n (i := 0) I2 G2 ((R.mono G1).mono G2) (.head _) ⟨rfl, rfl⟩
          trivial hg'
      · cases hx0
    | _ => simp only [itemV, reduceCtorEq, gt_eq, pt_eq, ad_eq, ln_eq] at hx0
  · cases hg'
structure GlOk (cx : Cx) (n : Nat) (vs : List V) (ws : List Value) (k : Nat) : Prop where
  at_ : cx.K.lookup (cx.ga n) = some (PySem.W.listOf ws.toArray k)
  is : ∀ led ρ, VRs cx led ρ vs ws
noncomputable def itemG (vs : List V) (i : Nat) (_ : List Ob) : Option (Option V) := some vs[i]?
theorem it_gl {n k : Nat} {vs : List V} {ws : List Value} {tg : Expr} (hl : GlOk cx n vs ws k) (hg : GoT tg) :
    ItOk cx d sc (itemG vs) (fun i o => o.cls = .type "list_iterator" ∧ o.data = .fields #[.ref (cx.ga n), .int (i : Nat) 0]) (fun led ρ => True) tg where
  ctx := fun led ρ led' ρ' g h => h
  fz := fun i o h => by unfold Frz Frz2; rw [h.2, h.1]; exact ⟨rfl, rfl⟩
  next := by
    intro f ok s m led ρ st it i o v I hC ho hP e Q E P
    simp only [itemG, Option.some.injEq] at e
    obtain ⟨w, hw, X⟩ := (hl.is led ρ).get e
    refine wpAny_pyNext_list_item ⟨o, (I.at_ ho).1, hP.1, hP.2⟩ ⟨_, I.F.keep _ _ (ok.X _ _ hl.at_), rfl, _, rfl⟩ (by simpa using hw) fun h' hi hs => ?_
    obtain ⟨o', q1, q2, q3⟩ := hi
    exact P w h' o' s.toks hs q1 ⟨q2, q3⟩ X
  last := by
    intro f ok s m led ρ st it i o I hC ho hP e Q E P
    simp only [itemG, Option.some.injEq] at e
    refine wpAny_pyNext_list_end ok.hh ⟨o, (I.at_ ho).1, hP.1, hP.2⟩ ⟨_, I.F.keep _ _ (ok.X _ _ hl.at_), rfl, _, rfl⟩ ?_ fun h' hs => P h' s.toks hs
    have := (hl.is led ρ).length
    simp only [List.getElem?_eq_none_iff] at e
    simp
    omega
  go := fun A s it i o w ho hP Q E h => go_ok hg ho hP.1 (by decide) h
noncomputable def forGS (vs : List V) (asg : V → S → Option S) (b : SS) (n : Nat) : SS := fun S => forS (itemG vs) asg b n 0 S
theorem s_forG {t : Expr} {x : Str} {xp : Pos} {body : List Stmt} {asg b} {pos : Pos} {gn k : Nat} {vs : List V} {ws : List Value} (n : Nat) (hx : GloName cx sc x (.ref (cx.ga gn))) (hl : GlOk cx gn vs ws k) (hu : SoundU cx d sc t asg) (hb : SoundB cx d sc body b) (hg : GoT t)
    (hs : ∀ env v, foldedSetIterable (.Name x xp) env v = pure v) : SoundS cx d sc (.For t (.Name x xp) body [] pos) (forGS vs asg b n) := by
  refine ⟨?_⟩
  intro f ok s m led ρ S I R fl S' hg' Q E P
  unfold forGS at hg'
  refine wpAny_For (nameG_K I.F ok.X (topRead_of ok.T) hx.at_ ?_ ok.evg ok.evk (ok.kind hx.kind) hx.dbg) (hs _)
  refine wpAny_pyIter_list ⟨_, I.F.keep _ _ (ok.X _ _ hl.at_), rfl, _, rfl⟩ ?_
  obtain ⟨I2, G2⟩ := I.push (Fr.size_ne I.N) (I.F.push _) (I.N.push I.F ({ cls := .type "list_iterator", data := .fields #[.ref (cx.ga gn), .int 0 0] } : Obj))
  exact for_loop (s := s) (led0 := led) (ρ0 := ρ) (tk1 := s.toks) (it_gl hl hg) hu hb ok (fun p hp => Fr.size_ne I.N p (List.mem_append_left _ hp)) P n (i := 0) I2 G2 (R.mono G2) (.head _) ⟨rfl, rfl⟩ trivial hg'
noncomputable def itemR (a b : Int) (i : Nat) (_ : List Ob) : Option (Option V) := some (if a + i < b then some (.int (a + i)) else none)
theorem it_range {a b : Int} {tg : Expr} (hg : GoT tg) :
    ItOk cx d sc (itemR a b) (fun i o => o = { cls := .type "range_iterator", dict := none, data := .fields #[rawInt (a + i), rawInt (max 0 (b - a) - i), rawInt 1], slots := #[] }) (fun led ρ => True) tg where
  ctx := fun led ρ led' ρ' g h => h
  fz := fun i o h => by subst h; exact ⟨rfl, rfl⟩
  next := by
    intro f ok s m led ρ st it i o v I hC ho hP e Q E P
    subst hP
    simp only [itemR, Option.some.injEq] at e
    split at e
    · rename_i hlt
      cases e
      refine wpAny_pyNext_range_item (I.at_ ho).1 (by omega) fun h' hi hs => ?_
      refine P _ h' _ _ hs hi ?_ (.int _ _)
      have e1 : a + (i : Int) + 1 = a + ((i + 1 : Nat) : Int) := by omega
      have e2 : max 0 (b - a) - (i : Int) - 1 = max 0 (b - a) - ((i + 1 : Nat) : Int) := by omega
      rw [e1, e2]
    · cases e
  last := by
    intro f ok s m led ρ st it i o I hC ho hP e Q E P
    subst hP
    simp only [itemR, Option.some.injEq] at e
    split at e
    · cases e
    · exact wpAny_pyNext_range_end ok.hh (I.at_ ho).1 (by omega) fun h' hs => P h' s.toks hs
  go := fun A s it i o w ho hP Q E h => go_ok (T := "range_iterator") hg ho (by subst hP; rfl) (by decide) h
noncomputable def forRS (lo hi : SE) (asg : V → S → Option S) (b : SS) (n : Nat) : SS := fun S => match lo S with
  | some (.int i, st) => match hi ⟨S.lo, S.ce, st⟩ with
    | some (.int j, st) => if i.natAbs ≤ 1000000 ∧ j.natAbs ≤ 1000000 then forS (itemR i j) asg b n 0 ⟨S.lo, S.ce, st⟩ else none
    | _ => none
  | _ => none
theorem range_small {a b : Int} (h1 : a.natAbs ≤ 1000000) (h2 : b.natAbs ≤ 1000000) : Builtin.Range.small a b 1 = true ∧ Builtin.Range.rangeSize a b 1 = max 0 (b - a) := by
  have hs : Builtin.Range.rangeSize a b 1 = max 0 (b - a) := by
    unfold Builtin.Range.rangeSize
    simp
    split <;> omega
  refine ⟨?_, hs⟩
  unfold Builtin.Range.small
  rw [hs]
  unfold Builtin.Range.rangeFitsLong
  simp
  omega
structure BltName (cx : Cx) (sc : Sc) (x : Str) (v : Value) : Prop where
  no : nsIn cx.K mainGlobals x = some none
  boot : bootBuiltins x = some v
  name : x ≠ "__name__"
  kind : sc.cs.names.lookup x = some .globalImplicit
  dbg : (x == ("__debug__" : Str)) = false
theorem for_range {f : Fm} (ok : f.Ok cx d sc) {t : Expr} {body : List Stmt} {asg b} {r : Addr} {i j : Int} {t₁ u₁ v₁ : Tok} (n : Nat) (hu : SoundU cx d sc t asg) (hb : SoundB cx d sc body b) (hg : GoT t) {s : Shared} {h1 : Heap} {tk : Nat} {m led0 ρ0 led1 ρ1} {S : S} (I1 : Inv cx f h1 m led1 ρ1 S.st)
    (G1 : Grow led0 ρ0 led1 ρ1) (R1 : LR cx sc f m led1 ρ1 S.lo S.ce) (hr : IsRange h1 r i j 1 t₁ u₁ v₁) (h2 : i.natAbs ≤ 1000000) (h3 : j.natAbs ≤ 1000000) {fl S' Q} {E E' : Value → Shared → Prop} (P : PostS cx sc f led0 ρ0 S' fl Q s) (e : forS (itemR i j) asg b n 0 S = some (fl, S')) :
    wpAny cx.M f.A (pyIter (.ref r)) (fun it s₂ => codeAny cx.M f.A (.forLoop t it body [] (f.env sc)) (fun r s' => match r with | .ok fl => Q fl s' | .error e => E' e s') s₂) E (put s h1 tk) := by
  obtain ⟨q1, q2⟩ := range_small h2 h3
  refine wpAny_pyIter_range hr q1 ?_
  rw [q2]
  obtain ⟨I2, G2⟩ := I1.push (Fr.size_ne I1.N) (I1.F.push _) (I1.N.push I1.F ({ cls := .type "range_iterator", data := .fields #[rawInt i, rawInt (max 0 (j - i)), rawInt 1] } : Obj))
  exact for_loop (s := s) (led0 := led1) (ρ0 := ρ1) (tk1 := tk) (it_range hg) hu hb ok (fun p hp => Fr.size_ne I1.N p (List.mem_append_left _ hp)) (fun fw m' h' tk' led' ρ' I' G' => P fw m' h' tk' led' ρ' I' (G1.trans G')) n (i := 0) I2 G2 (R1.mono G2) (.head _) (by simp) trivial e
theorem s_for1 {t e1 : Expr} {x : Str} {xp cp : Pos} {body : List Stmt} {g : SE} {asg b} {pos : Pos} (n : Nat) (hx : BltName cx sc x (.type "range")) (h1 : SoundE cx d sc e1 g) (hu : SoundU cx d sc t asg) (hb : SoundB cx d sc body b) (hg : GoT t)
    (hs : ∀ env v, foldedSetIterable (.Call (.Name x xp) [e1] [] cp) env v = pure v) (hns : NoStars [e1])
    (hq : ∀ env, eval (.Call (.Name x xp) [e1] [] cp) env = (do
          let f ← eval (.Name x xp) env
          callWith cp f [] (backTo cp (starEach [e1] env)) (backToKw cp (keywordEach [] env)))) : SoundS cx d sc (.For t (.Call (.Name x xp) [e1] [] cp) body [] pos) (forRS (cE (.int 0)) g asg b n) := by
  refine ⟨?_⟩
  intro f ok s m led ρ S I R fl S' hg' Q E P
  unfold forRS cE at hg'
  simp only at hg'
  split at hg'
  · rename_i j st1 ej
    split at hg'
    · rename_i hb'
      refine wpAny_For (Call_ (nameB ok I hx.no hx.boot hx.name hx.kind hx.dbg ?_) (hq _)) (hs _)
      refine PyProof.Rows.callWith_type1 ?_ (hns _).2 rfl
      refine wpAny_items_cons (h1.1 f ok s m led ρ S I R _ _ ej _ _ fun w h1 tk1 led1 ρ1 I1 G1 X1 => wpAny_items_nil ?_) (hns _).2
      cases X1
      refine range1_rows (s := put s h1 tk1) I1.F I1.N fun h' tk t₁ u₁ v₁ hr F' N' _ => ?_
      exact for_range (s := s) (S := ⟨S.lo, S.ce, st1⟩) ok n hu hb hg (I1.turn F' N') G1 (R.mono G1) hr hb'.1 hb'.2 P hg'
    · cases hg'
  · cases hg'
end
end Mp
namespace Mp
section
variable {cx : Cx} {d : Nat} {sc : Sc}
noncomputable def iaddV : V → V → Option V
  | .int a, .int b => some (.int (a + b))
  | _, _ => none
noncomputable def isubV : V → V → Option V
  | .int a, .int b => some (.int (a - b))
  | _, _ => none
theorem bin_iadd : Bin cx iaddV (inplaceOp .Add) := bin_int (f := fun a b => some (.int (a + b))) fun A hh s led ρ a b t u z e Q E P => by
  cases e
  exact iadd_int (P _ _ (.int _ _))
theorem bin_isub : Bin cx isubV (inplaceOp .Sub) := bin_int (f := fun a b => some (.int (a - b))) fun A hh s led ρ a b t u z e Q E P => by
  cases e
  exact isub_int (P _ _ (.int _ _))
noncomputable def augL (i : Nat) (op : V → V → Option V) (g : SE) : SS := fun S => match bE op (lE i) g S with
  | some (v, st) => some (.next, ⟨pt S.lo i v, S.ce, st⟩)
  | none => none
theorem s_augL {i : Nat} {x : Str} {o : Operator} {op : V → V → Option V} {e : Expr} {g : SE} {np pos : Pos} (hx : LocName sc i x) (h : SoundE cx d sc e g) (hop : Bin cx op (inplaceOp o)) : SoundS cx d sc (.AugAssign (.Name x np) o e pos) (augL i op g) := by
  refine ⟨?_⟩
  intro f ok s m led ρ S I R fl S' hg Q E P
  unfold augL at hg
  try simp only [gt_eq, pt_eq, ad_eq, ln_eq] at hg
  split at hg
  · rename_i v st1 e1
    cases hg
    refine wpAny_AugAssign_Name ?_
    unfold bE lE at e1
    try simp only [gt_eq, pt_eq, ad_eq, ln_eq] at e1
    split at e1
    · rename_i x' st2 e2
      split at e2
      · cases e2
      · rename_i v' hne hv
        cases e2
        obtain ⟨w, hw, hr⟩ := R.loc i x _ hx.at_ hv hne
        refine wpAny_loadName_local ok.evk (ok.kind hx.kind) (by rw [ok.evl]; exact I.F.ns) hw ?_
        split at e1
        · rename_i y st3 e3
          split at e1
          · rename_i z ez
            cases e1
            refine h.1 f ok s m led ρ S I R _ _ e3 _ _ fun wy h2 tk2 led2 ρ2 I2 G2 X2 => ?_
            refine hop f.A ok.hh (put s h2 tk2) led2 ρ2 _ _ _ _ _ (hr.mono G2) X2 ez _ _ fun wz tk3 X3 => ?_
            exact store_loc hx ok (s := put s h2 tk3) (S := ⟨S.lo, S.ce, st1⟩) I2 (R.mono G2) X3 fun m4 h4 tk4 led4 ρ4 I4 G4 R4 => P _ _ _ _ _ _ I4 (G2.trans G4) R4 .next
          · cases e1
        · cases e1
      · cases e2
    · cases e1
  · cases hg
noncomputable def augA (c i : Nat) (op : V → V → Option V) (o g : SE) : SS := fun S => match o S with
  | some (x, st) => match getA c i x st with
    | some old => match g ⟨S.lo, S.ce, st⟩ with
      | some (y, st) => match op old y with
        | some z => match setA c i x z st with
          | some st => some (.next, ⟨S.lo, S.ce, st⟩)
          | none => none
        | none => none
      | none => none
    | none => none
  | none => none
theorem s_augA {c i : Nat} {name : Str} {o e : Expr} {op' : Operator} {op : V → V → Option V} {go g : SE} {tp pos : Pos} (ho : SoundE cx d sc o go) (a : AttrOk cx c i name) (b : SetOk cx c i name) (h : SoundE cx d sc e g) (hop : Bin cx op (inplaceOp op')) :
    SoundS cx d sc (.AugAssign (.Attribute o name tp) op' e pos) (augA c i op go g) := by
  refine ⟨?_⟩
  intro f ok s m led ρ S I R fl S' hg Q E P
  unfold augA at hg
  split at hg
  · rename_i x st1 e1
    split at hg
    · rename_i old e2
      split at hg
      · rename_i y st3 e3
        split at hg
        · rename_i z e4
          split at hg
          · rename_i st5 e5
            cases hg
            refine wpAny_AugAssign_AttributeAny (ho.1 f ok s m led ρ S I R _ _ e1 _ _ fun wo h1 tk1 led1 ρ1 I1 G1 X1 => ?_)
            refine getA_sound ok (s := put s h1 tk1) I1 a X1 e2 fun wold h2 tk2 led2 ρ2 I2 G2 X2 => ?_
            refine h.1 f ok (put s h2 tk2) m led2 ρ2 ⟨S.lo, S.ce, st1⟩ I2 (R.mono (G1.trans G2)) _ _ e3 _ _ fun wy h3 tk3 led3 ρ3 I3 G3 X3 => ?_
            refine hop f.A ok.hh (put s h3 tk3) led3 ρ3 _ _ _ _ _ (X2.mono G3) X3 e4 _ _ fun wz tk4 X4 => ?_
            refine setA_sound ok (s := put s h3 tk4) I3 b ((X1.mono G2).mono G3) X4 e5 fun h5 tk5 led5 ρ5 I5 G5 => ?_
            exact P _ _ _ _ _ _ I5 (((G1.trans G2).trans G3).trans G5) (R.mono (((G1.trans G2).trans G3).trans G5)) .next
          · cases hg
        · cases hg
      · cases hg
    · cases hg
  · cases hg
noncomputable def FnStep (cx : Cx) (id : Value) (g : List V → List Ob → Option V) : Prop :=
  ∀ (d : Nat) (sc : Sc) (f : Fm), f.Ok cx d sc → ∀ (s : Shared) m led ρ st, Inv cx f s.heap m led ρ st → ∀ vs ws, VRs cx led ρ vs ws → ∀ v, g vs st = some v →
    ∀ Q E, PostE cx f m led ρ st v Q s → wpAny cx.M f.A (call id ws) Q E s
noncomputable def bltE (g : List V → List Ob → Option V) (a : SEs) : SE := fun S => match a S with
  | some (vs, st) => match g vs st with
    | some v => some (v, st)
    | none => none
  | none => none
theorem b_blt {x : Str} {id : String} {xp pos : Pos} {e : Expr} {es : List Expr} {g} {ga : SEs} (hx : BltName cx sc x (.builtin id)) (hf : FnStep cx (.builtin id) g) (hes : SoundEs cx d sc (e :: es) ga) (hs : NoStars (e :: es)) (hs2 : NoStars es)
    (hq : ∀ env, eval (.Call (.Name x xp) (e :: es) [] pos) env = (do
          let f ← eval (.Name x xp) env
          callWith pos f [] (backTo pos (starEach (e :: es) env)) (backToKw pos (keywordEach [] env)))) : SoundE cx d sc (.Call (.Name x xp) (e :: es) [] pos) (bltE g ga) := by
  refine ⟨?_⟩
  intro f ok s m led ρ S I R v st' hg Q E P
  unfold bltE at hg
  split at hg
  · rename_i vs st1 e1
    split at hg
    · rename_i v' e2
      cases hg
      refine Call_ (nameB ok I hx.no hx.boot hx.name hx.kind hx.dbg ?_) (hq _)
      have hb2 : ∀ (p : Pos) (l : List (Bool × Sem Value)), (backTo p l).any (·.1) = l.any (·.1) := by
        intro p l
        show (l.map _).any _ = _
        rw [List.any_map]
        rfl
      refine PyProof.Rows.callWith_builtin1 ?_ (hs _).2 (by rw [hb2]; exact (hs2 _).1)
      exact hes.1 f ok s m led ρ S I R _ _ e1 _ _ _ fun ws h1 tk1 led1 ρ1 I1 G1 X1 => hf d sc f ok (put s h1 tk1) m led1 ρ1 _ I1 _ _ X1 _ e2 _ _ (P.next G1)
    · cases hg
  · cases hg
noncomputable def lenG (vs : List V) (st : List Ob) : Option V := match vs with
  | [.str cs] => if cs.length ≤ 1000000 then some (.int cs.length) else none
  | [.tup xs] => if xs.length ≤ 1000000 then some (.int xs.length) else none
  | [.ref r] => match gt st r with
    | some (.list xs) => if xs.length ≤ 1000000 then some (.int xs.length) else none
    | some (.nums xs) => if xs.length ≤ 1000000 then some (.int xs.length) else none
    | _ => none
  | _ => none
theorem f_len : FnStep cx (.builtin "len") lenG := by
  intro d sc f ok s m led ρ st I vs ws X v e Q E P
  cases X with
  | nil => simp [lenG] at e
  | cons a r =>
    cases r with
    | cons b r => cases a <;> simp [lenG] at e
    | nil =>
      cases a <;> simp only [lenG, reduceCtorEq, gt_eq, pt_eq, ad_eq, ln_eq] at e
      · split at e
        · rename_i hl
          cases e
          rename_i cs t
          have hlen : Str.length ⟨cs.toArray⟩ = cs.length := by show cs.toArray.size = _; simp
          refine len_str (by rw [hlen]; omega) ?_
          rw [hlen]
          exact P _ _ _ _ _ I (.refl _ _) (.int _ _)
        · cases e
      · rename_i r a dd hr
        split at e
        · rename_i xs hst
          split at e
          · rename_i hl
            cases e
            obtain ⟨a', ws, n, h1, h2, h3⟩ := I.ob _ _ hst
            rw [hr] at h1
            cases h1
            have hsz : ws.size = xs.length := by rw [h3.length]; simp
            refine call_len_list (list_at I h2) (by rw [hsz]; omega) ?_
            rw [hsz]
            exact P _ _ _ _ _ I (.refl _ _) (.int _ _)
          · cases e
        · rename_i xs hst
          split at e
          · rename_i hl
            cases e
            obtain ⟨a', ws, n, h1, h2, h3⟩ := I.ob _ _ hst
            rw [hr] at h1
            cases h1
            have hsz : ws.size = xs.length := by have := (h3 led ρ).length; simp at this; omega
            refine call_len_list (list_at I h2) (by rw [hsz]; omega) ?_
            rw [hsz]
            exact P _ _ _ _ _ I (.refl _ _) (.int _ _)
          · cases e
        · cases e
      · rename_i xs ws a n hm r
        split at e
        · rename_i hl
          cases e
          have hsz : ws.length = xs.length := r.length.symm
          refine len_tuple (tup_at ok I hm) (by rw [List.size_toArray, hsz]; omega) ?_
          rw [List.size_toArray, hsz]
          exact P _ _ _ _ _ I (.refl _ _) (.int _ _)
        · cases e
noncomputable def minG (vs : List V) (_ : List Ob) : Option V := match vs with
  | [.int a, .int b] => some (.int (if b < a then b else a))
  | _ => none
theorem f_min : FnStep cx (.builtin "min") minG := by
  intro d sc f ok s m led ρ st I vs ws X v e Q E P
  unfold minG at e
  split at e
  · rename_i a b
    cases e
    cases X with
    | cons X1 X =>
      cases X with
      | cons X2 X =>
        cases X
        cases X1
        cases X2
        exact min_two_N ok.hh I.F I.N fun h' tk F' N' => P _ _ _ _ _ (I.turn F' N') (.refl _ _) (.int _ _)
  · cases e
noncomputable def inV : V → V → Option V
  | .str [c], .str x => some (.bool (x.contains c))
  | _, _ => none
theorem bin_in : Bin cx inV (compareOp .In) := by
  intro A hh s led ρ x y z wx wy X Y e Q E P
  unfold inV at e
  split at e
  · rename_i c xs
    cases e
    cases X
    cases Y
    refine in_str ?_
    have := StrLaws.found_one ⟨xs.toArray⟩ c
    rw [show (⟨[c].toArray⟩ : Str) = ⟨#[c]⟩ from rfl, this]
    have hd : decide (c ∈ (⟨xs.toArray⟩ : Str).cps.toList) = xs.contains c := by
      rw [Bool.eq_iff_iff]
      simp
    rw [hd]
    exact P _ s.toks (.bool _)
  · cases e
theorem notIn_of {M : Model} {A : Around} {a b : Value} {Q : Value → Shared → Prop} {E} {s : Shared} (h : wpAny M A (compareOp .In a b) (fun v s' => ∀ c, v = .bool c → Q (.bool (!c)) s') E s) : wpAny M A (compareOp .NotIn a b) Q E s := by
  intro Γ p hΓ
  have := h Γ p hΓ
  show Sem.wp M Γ (contains b a >>= fun r => pure (Value.bool !r)) _ _ p s
  rw [Sem.wp_bind']
  have h2 : Sem.wp M Γ (contains b a >>= fun r => pure (Value.bool r)) (fun v x s' => ∀ c, v = .bool c → Q (.bool (!c)) s') (fun e x s' => E e s') p s := this
  rw [Sem.wp_bind'] at h2
  refine Sem.wp_mono M Γ _ (fun r p' s' hr => ?_) (fun _ _ _ x => x) p s h2
  simp only [Sem.wp_pure'] at hr ⊢
  exact hr r rfl
noncomputable def notV (op : V → V → Option V) : V → V → Option V := fun a b => match op a b with
  | some (.bool c) => some (.bool (!c))
  | _ => none
theorem bin_notIn {op} (h : Bin cx op (compareOp .In)) : Bin cx (notV op) (compareOp .NotIn) := by
  intro A hh s led ρ x y z wx wy X Y e Q E P
  unfold notV at e
  split at e
  · rename_i c e1
    cases e
    refine notIn_of (h A hh s led ρ x y _ wx wy X Y e1 _ _ fun w tk X' c' hc => ?_)
    cases X'
    cases hc
    exact P _ tk (.bool _)
  · cases e
end
end Mp
namespace Mp
theorem list_ne_lengths (l b : Addr) (items items2 : Array Value) (n n2 : Nat) (hc0 : (items.size != items2.size) = true) :
    Meets (Builtin.«list.__ne__» ⟨[.ref l, .ref b], []⟩)
      (fun _ R s => s.heap.get? l = some { cls := .type "list", data := .seq items n } ∧ s.heap.get? b = some { cls := .type "list", data := .seq items2 n2 } ∧
        R (.ok (.ret (.bool true))) s) :=
  .of_wp fun prog w A R s h => by
    obtain ⟨hp, g, d, tk, os⟩ := s; obtain ⟨hl, hb, h⟩ := h
    have f3 := AutoSeq1.sub_list_list
    wp_walk using wpAny_loadPart' hl, wpAny_loadPart' hb
    exact ⟨_, rfl, h⟩
theorem eq_loop_plain : plainId "list.__eq__.loop" = true := by decide +kernel
theorem eq_loop_entry : entryFor table "list.__eq__.loop" = some Builtin.«list.__eq__.loop» := entryFor_of_fast (by kernel_rfl)
theorem ne_loop_empty (l b : Addr) (n n2 : Nat) :
    Meets (Builtin.«list.__eq__.loop» ⟨[.ref l, .ref b, rawInt 0, rawInt 3], []⟩)
      (fun _ R s => s.heap.get? l = some { cls := .type "list", data := .seq #[] n } ∧ s.heap.get? b = some { cls := .type "list", data := .seq #[] n2 } ∧
        R (.ok (.ret (.bool false))) s) := by
  intro prog w A R s h
  obtain ⟨hp, g, d, tk, os⟩ := s; obtain ⟨hl, hb, h⟩ := h
  wp_walk using wpAny_loadPart' hl, wpAny_loadPart' hb
  exact h
theorem list_ne_empty (l b : Addr) (n n2 : Nat) :
    Meets (Builtin.«list.__ne__» ⟨[.ref l, .ref b], []⟩)
      (fun _ R s => s.heap.get? l = some { cls := .type "list", data := .seq #[] n } ∧ s.heap.get? b = some { cls := .type "list", data := .seq #[] n2 } ∧
        R (.ok (.ret (.bool false))) s) := by
  intro prog w A R s h
  obtain ⟨hp, g, d, tk, os⟩ := s; obtain ⟨hl, hb, h⟩ := h
  have f3 := AutoSeq1.sub_list_list
  wp_walk using wpAny_loadPart' hl, wpAny_loadPart' hb
  exact ⟨plainId_quiet eq_loop_plain _, codeAny_builtin eq_loop_entry (by
    rw [Around.under_plainId eq_loop_plain _]
    exact ne_loop_empty l b n n2 prog w A R _ ⟨hl, hb, by simpa using h⟩)⟩
end Mp
namespace Mp
noncomputable def BinH (cx : Cx) (op : V → V → List Ob → Option (V × List Ob)) (tree : Value → Value → Sem Value) : Prop :=
  ∀ (d : Nat) (sc : Sc) (f : Fm), f.Ok cx d sc → ∀ (s : Shared) m led ρ st, Inv cx f s.heap m led ρ st → ∀ x y z st' wx wy, VR cx led ρ x wx → VR cx led ρ y wy → op x y st = some (z, st') →
    ∀ Q E, PostE cx f m led ρ st' z Q s → wpAny cx.M f.A (tree wx wy) Q E s
noncomputable def hE (op : V → V → List Ob → Option (V × List Ob)) (a b : SE) : SE := fun S => match a S with
  | some (x, st) => match b ⟨S.lo, S.ce, st⟩ with
    | some (y, st) => op x y st
    | none => none
  | none => none
section
variable {cx : Cx} {d : Nat} {sc : Sc}
theorem two_h {a b : Expr} {ga gb : SE} {op} {tree : Value → Value → Sem Value} (ha : SoundE cx d sc a ga) (hb : SoundE cx d sc b gb) (hop : BinH cx op tree) :
    ∀ (f : Fm), f.Ok cx d sc → ∀ (s : Shared) m led ρ (S₀ : S), Inv cx f s.heap m led ρ S₀.st → LR cx sc f m led ρ S₀.lo S₀.ce → ∀ v st', hE op ga gb S₀ = some (v, st') →
    ∀ Q E, PostE cx f m led ρ st' v Q s → wpAny cx.M f.A (eval a (f.env sc)) (fun x s₁ => wpAny cx.M f.A (eval b (f.env sc)) (fun y s₂ => wpAny cx.M f.A (tree x y) Q E s₂) E s₁) E s := by
  intro f ok s m led ρ S I R v st' hg Q E P
  unfold hE at hg
  split at hg
  · rename_i x st1 ea
    split at hg
    · rename_i y st2 eb
      refine ha.1 f ok s m led ρ S I R x st1 ea _ _ fun wx h1 tk1 led1 ρ1 I1 G1 X1 => ?_
      refine hb.1 f ok (put s h1 tk1) m led1 ρ1 ⟨S.lo, S.ce, st1⟩ I1 (R.mono G1) y _ eb _ _ fun wy h2 tk2 led2 ρ2 I2 G2 X2 => ?_
      exact hop d sc f ok (put s h2 tk2) m led2 ρ2 st2 I2 x y _ _ wx wy (X1.mono G2) X2 hg _ _ (P.next (G1.trans G2))
    · cases hg
  · cases hg
theorem h_op {l r : Expr} {gl gr : SE} {o : Operator} {op} {pos : Pos} (hl : SoundE cx d sc l gl) (hr : SoundE cx d sc r gr) (hop : BinH cx op (binaryOp o)) :
    SoundE cx d sc (.BinOp l o r pos) (hE op gl gr) := ⟨fun f ok s m led ρ S I R v st' hg Q E P =>
  wpAny_BinOp (two_h hl hr hop f ok s m led ρ S I R v st' hg Q E P)⟩
theorem ht_cmp {l r : Expr} {gl gr : SE} {o : CmpOp} {op} {pos : Pos} (hl : SoundE cx d sc l gl) (hr : SoundE cx d sc r gr) (hop : BinH cx op (compareOp o)) (hm : behindInMarks o r = false) :
    SoundT cx d sc (.Compare l [o] [r] pos) (tE (hE op gl gr)) := by
  refine ⟨?_⟩
  intro f ok s m led ρ S I R b st' hg Q E P
  unfold tE at hg
  split at hg
  · rename_i b' st1 e1
    cases hg
    refine wpAny_isTrue_Compare1 ?_ hm
    refine wpAny_mono (two_h hl hr hop f ok s m led ρ S I R _ _ e1 (fun c s₃ => wpAny cx.M f.A (truthy c) Q E s₃) E fun w h' tk' led' ρ' I' G' X' => ?_) (fun x s₁ hx => ?_) fun _ _ x => x
    · cases X'
      exact wpAny_truthy_bool (P _ _ _ _ I' G')
    · exact wpAny_mono hx (fun y s₂ hy => hy) fun _ _ x => x
  · cases hg
theorem PostE.here {f : Fm} {m led ρ st v Q} {s : Shared} {tk} (I : Inv cx f s.heap m led ρ st) (P : PostE cx f m led ρ st v Q s) {w} (X : VR cx led ρ v w) : Q w (put s s.heap tk) := P _ _ _ _ _ I (.refl _ _) X
noncomputable def neL (a b : V) (st : List Ob) : Option (V × List Ob) := match a, b with
  | .ref r, .ref q => match gt st r, gt st q with
    | some (.list xs), some (.list ys) => if xs.length ≠ ys.length then some (.bool true, st) else if xs.length = 0 then some (.bool false, st) else none
    | _, _ => none
  | _, _ => none
noncomputable def eqL (a b : V) (st : List Ob) : Option (V × List Ob) := match a, b with
  | .ref r, .ref q => match gt st r, gt st q with
    | some (.list xs), some (.list ys) => if xs.length ≠ ys.length then some (.bool false, st) else if xs.length = 0 then some (.bool true, st) else none
    | _, _ => none
  | _, _ => none
theorem binh_ne : BinH cx neL (compareOp .NotEq) := by
  intro d sc f ok s m led ρ st I x y z st' wx wy X Y e Q E P
  unfold neL at e
  try simp only [gt_eq, pt_eq, ad_eq, ln_eq] at e
  split at e
  · rename_i r q
    split at e
    · rename_i xs ys h1 h2
      cases X with
      | ref _ a _ hr =>
        cases Y with
        | ref _ b _ hq =>
          obtain ⟨a', ws, n, p1, p2, p3⟩ := I.ob _ _ h1
          obtain ⟨b', us, k, q1, q2, q3⟩ := I.ob _ _ h2
          rw [hr] at p1
          rw [hq] at q1
          cases p1
          cases q1
          have hsz : ws.size = xs.length := by rw [p3.length]; simp
          have hsz2 : us.size = ys.length := by rw [q3.length]; simp
          have ha := (I.at_ p2).1
          have hb := (I.at_ q2).1
          have hu : f.A.units < 9900 := by have := ok.un; omega
          show wpAny cx.M f.A (richCompare .NotEq (.ref a) (.ref b)) Q E s
          split at e
          · rename_i hne
            cases e
            exact richCompare_meets_room (op := .NotEq) ⟨_, ha, rfl⟩ ⟨_, hb, rfl⟩ F.slot_list_ne F.entry_list_ne (F.args_list_ne_2 _ _) (list_ne_lengths a b ws us n k (by simp [hsz, hsz2, hne]))
              ⟨ha, hb, show Value.bool true ≠ Value.notImplemented ∧ Q (.bool true) s from ⟨(fun x => nomatch x), P.here (tk := s.toks) I (.bool _)⟩⟩ hu
          · split at e
            · rename_i hne h0
              cases e
              have : xs.length = ys.length := by omega
              have e1 : ws = #[] := Array.size_eq_zero_iff.mp (by omega)
              have e2 : us = #[] := Array.size_eq_zero_iff.mp (by omega)
              subst e1
              subst e2
              exact richCompare_meets_room (op := .NotEq) ⟨_, ha, rfl⟩ ⟨_, hb, rfl⟩ F.slot_list_ne F.entry_list_ne (F.args_list_ne_2 _ _) (list_ne_empty a b n k)
                ⟨ha, hb, show Value.bool false ≠ Value.notImplemented ∧ Q (.bool false) s from ⟨(fun x => nomatch x), P.here (tk := s.toks) I (.bool _)⟩⟩ hu
            · cases e
    · cases e
  · cases e
theorem binh_eq : BinH cx eqL (compareOp .Eq) := by
  intro d sc f ok s m led ρ st I x y z st' wx wy X Y e Q E P
  unfold eqL at e
  try simp only [gt_eq, pt_eq, ad_eq, ln_eq] at e
  split at e
  · rename_i r q
    split at e
    · rename_i xs ys h1 h2
      cases X with
      | ref _ a _ hr =>
        cases Y with
        | ref _ b _ hq =>
          obtain ⟨a', ws, n, p1, p2, p3⟩ := I.ob _ _ h1
          obtain ⟨b', us, k, q1, q2, q3⟩ := I.ob _ _ h2
          rw [hr] at p1
          rw [hq] at q1
          cases p1
          cases q1
          have hsz : ws.size = xs.length := by rw [p3.length]; simp
          have hsz2 : us.size = ys.length := by rw [q3.length]; simp
          have hu : f.A.units < cLine := by have := ok.un; show f.A.units < 9900; omega
          split at e
          · rename_i hne
            cases e
            exact SeqAt.eq_list_lengthsAt (list_at I p2) (list_at I q2) (by simp [hsz, hsz2, hne]) hu (P.here (tk := s.toks) I (.bool _))
          · split at e
            · rename_i hne h0
              cases e
              have : xs.length = ys.length := by omega
              have e1 : ws = #[] := Array.size_eq_zero_iff.mp (by omega)
              have e2 : us = #[] := Array.size_eq_zero_iff.mp (by omega)
              subst e1
              subst e2
              exact SeqAt.eq_listAt (e := fun _ => true) (list_at I p2) (list_at I q2) rfl hu (fun j h1 => absurd h1 (Nat.not_lt_zero _)) (P.here (tk := s.toks) I (.bool true))
            · cases e
    · cases e
  · cases e
noncomputable def strsOf : List V → Option (List (List Nat))
  | [] => some []
  | .str a :: r => (strsOf r).map (a :: ·)
  | _ => none
theorem strsAre_of {cx led ρ vs ws ys} (X : VRs cx led ρ vs ws) (h : strsOf vs = some ys) : StrsAre ws (ys.map fun y => ⟨y.toArray⟩) := by
  induction vs generalizing ws ys with
  | nil => cases X; cases h; exact .nil
  | cons v vs ih =>
    cases X with
    | cons a r =>
      cases a <;> simp only [strsOf, reduceCtorEq] at h
      obtain ⟨zs, hz, rfl⟩ := Option.map_eq_some_iff.mp h
      exact .cons _ _ (ih r hz)
noncomputable def inT (a b : V) (st : List Ob) : Option (V × List Ob) := match a, b with
  | .str x, .tup vs => match strsOf vs with
    | some ys => some (.bool (ys.contains x), st)
    | none => none
  | _, _ => none
theorem binh_in : BinH cx inT (compareOp .In) := by
  intro d sc f ok s m led ρ st I x y z st' wx wy X Y e Q E P
  unfold inT at e
  split at e
  · rename_i xs vs
    split at e
    · rename_i ys hy
      cases e
      cases X
      cases Y with
      | tup _ ws a n hm r =>
        refine in_tuple_strs (tup_at ok I hm) (by simpa using strsAre_of r hy) ?_
        have : ((ys.map fun y => (⟨y.toArray⟩ : Str)).any fun z => z == ⟨xs.toArray⟩) = ys.contains xs := by
          rw [List.any_map, Bool.eq_iff_iff]
          simp [Function.comp_def]
        rw [this]
        exact P.here (tk := s.toks) I (.bool _)
    · cases e
  · cases e
noncomputable def notH (op : V → V → List Ob → Option (V × List Ob)) : V → V → List Ob → Option (V × List Ob) := fun a b st => match op a b st with
  | some (.bool c, st) => some (.bool (!c), st)
  | _ => none
theorem binh_notIn {op} (h : BinH cx op (compareOp .In)) : BinH cx (notH op) (compareOp .NotIn) := by
  intro d sc f ok s m led ρ st I x y z st' wx wy X Y e Q E P
  unfold notH at e
  split at e
  · rename_i c st1 e1
    cases e
    refine notIn_of (h d sc f ok s m led ρ st I x y _ _ wx wy X Y e1 _ _ fun w h' tk led' ρ' I' G' X' c' hc => ?_)
    cases X'
    cases hc
    exact P _ _ _ _ _ I' G' (.bool _)
  · cases e
noncomputable def addL (a b : V) (st : List Ob) : Option (V × List Ob) := match a, b with
  | .ref r, .ref q => match gt st r, gt st q with
    | some (.list xs), some (.list ys) => if xs.length + ys.length ≤ 100000 then some (.ref (ln st), ad st (.list (xs ++ ys))) else none
    | _, _ => none
  | _, _ => none
theorem binh_add : BinH cx addL (binaryOp .Add) := by
  intro d sc f ok s m led ρ st I x y z st' wx wy X Y e Q E P
  unfold addL at e
  try simp only [gt_eq, pt_eq, ad_eq, ln_eq] at e
  split at e
  · rename_i r q
    split at e
    · rename_i xs ys h1 h2
      split at e
      · rename_i hlen
        cases e
        cases X with
        | ref _ a _ hr =>
          cases Y with
          | ref _ b _ hq =>
            obtain ⟨a', ws, n, p1, p2, p3⟩ := I.ob _ _ h1
            obtain ⟨b', us, k, q1, q2, q3⟩ := I.ob _ _ h2
            rw [hr] at p1
            rw [hq] at q1
            cases p1
            cases q1
            have hsz : ws.size = xs.length := by rw [p3.length]; simp
            have hsz2 : us.size = ys.length := by rw [q3.length]; simp
            refine add_arrays I.F I.N (list_at I p2) (list_at I q2) (fun h' F' N' => ?_) (by rw [sizeLine_eq]; omega)
            obtain ⟨I', G'⟩ := I.newList F' N' (fun p hp => Heap.lt_size (I.N p hp).1) (p3.append q3)
            exact P _ _ s.toks _ _ I' G' (.ref _ _ s.heap.objs.size (by rw [← I.len]; simp))
      · cases e
    · cases e
  · cases e
noncomputable def mulL (a b : V) (st : List Ob) : Option (V × List Ob) := match a, b with
  | .ref r, .int n => match gt st r with
    | some (.list [v]) => if 0 ≤ n ∧ n ≤ 1000 then some (.ref (ln st), ad st (.list (List.replicate n.toNat v))) else none
    | _ => none
  | _, _ => none
theorem VRs.replicate {cx led ρ v w} (X : VR cx led ρ v w) : ∀ n, VRs cx led ρ (List.replicate n v) (List.replicate n w)
  | 0 => .nil
  | n + 1 => .cons X (VRs.replicate X n)
theorem binh_mul : BinH cx mulL (binaryOp .Mult) := by
  intro d sc f ok s m led ρ st I x y z st' wx wy X Y e Q E P
  unfold mulL at e
  try simp only [gt_eq, pt_eq, ad_eq, ln_eq] at e
  split at e
  · rename_i r n
    split at e
    · rename_i v h1
      split at e
      · rename_i hn
        cases e
        cases X with
        | ref _ a _ hr =>
          cases Y
          obtain ⟨a', ws, k, p1, p2, p3⟩ := I.ob _ _ h1
          rw [hr] at p1
          cases p1
          have hsz : ws.size = 1 := by have := p3.length; simp at this; omega
          obtain ⟨w, hw⟩ : ∃ w, ws = #[w] := by
            obtain ⟨l⟩ := ws
            cases l with
            | nil => simp at hsz
            | cons w l => cases l with
              | nil => exact ⟨w, rfl⟩
              | cons _ _ => simp at hsz
          subst hw
          cases p3 with
          | cons X1 _ =>
            refine mul_list I.F I.N (I.at_ p2).1 (by omega) (by omega) (by simp; omega) fun h' F' N' => ?_
            have hfold : List.foldl (fun x1 x2 => x1 ++ x2) #[] (List.replicate (if (#[w] : Array Value).isEmpty = true then 0 else n.toNat) #[w]) = (List.replicate n.toNat w).toArray := by
              have key : ∀ (k : Nat) (acc : List Value), List.foldl (fun x1 x2 => x1 ++ x2) acc.toArray (List.replicate k #[w]) = (acc ++ List.replicate k w).toArray := by
                intro k
                induction k with
                | zero => intro acc; simp
                | succ k ih =>
                  intro acc
                  rw [List.replicate_succ, List.foldl_cons]
                  have : acc.toArray ++ #[w] = (acc ++ [w]).toArray := by simp
                  rw [this, ih]
                  simp [List.replicate_succ]
              have := key n.toNat []
              simpa using this
            rw [hfold] at N'
            obtain ⟨I', G'⟩ := I.newList F' N' (fun p hp => Heap.lt_size (I.N p hp).1) (VRs.replicate X1 n.toNat)
            exact P _ _ s.toks _ _ I' G' (.ref _ _ s.heap.objs.size (by rw [← I.len]; simp))
      · cases e
    · cases e
  · cases e
end
end Mp
namespace Mp
noncomputable def MethForm (o : Expr) (name : Str) (apos pos : Pos) (es : List Expr) (pl : Env → Sem Bool) : Prop := ∀ env, eval (.Call (.Attribute o name apos) es [] pos) env = (do
      let ov ← eval o env
      standAt apos.atName
      let (f, first) ← holding [ov] (getMethod ov name (pl env))
      callWith pos f first (backTo pos (starEach es env)) [])
section
variable {cx : Cx} {d : Nat} {sc : Sc}
noncomputable def isListAt (r : Nat) (st : List Ob) : Bool := match gt st r with
  | some (.list _) => true
  | _ => false
theorem isListAt_get {f : Fm} {h m led ρ st} (I : Inv cx f h m led ρ st) {r : Nat} {a dd : Addr} (hr : ρ[r]? = some (a, dd)) (hl : isListAt r st = true) : ∃ ws n, (a, PySem.W.listOf ws n) ∈ led := by
  unfold isListAt at hl
  try simp only [gt_eq, pt_eq, ad_eq, ln_eq] at hl
  split at hl
  · rename_i vs hst
    obtain ⟨a', ws, n, h1, h2, _⟩ := I.ob _ _ hst
    rw [hr] at h1
    cases h1
    exact ⟨ws, n, h2⟩
  · cases hl
noncomputable def appendE (o a : SE) : SE := fun S => match o S with
  | some (.ref r, st) => if isListAt r st then (match a ⟨S.lo, S.ce, st⟩ with
    | some (v, st) => match gt st r with
      | some (.list vs) => if vs.length ≤ 1000000 then some (.none, pt st r (.list (vs ++ [v]))) else none
      | _ => none
    | none => none) else none
  | _ => none
theorem b_append {o e : Expr} {apos pos : Pos} {go ga : SE} {pl : Env → Sem Bool} (ho : SoundE cx d sc o go) (he : SoundE cx d sc e ga) (hs : NoStars [e]) (hq : MethForm o "append" apos pos [e] pl) : SoundE cx d sc (.Call (.Attribute o "append" apos) [e] [] pos) (appendE go ga) := by
  refine ⟨?_⟩
  intro f ok s m led ρ S I R v st' hg Q E P
  unfold appendE at hg
  try simp only [gt_eq, pt_eq, ad_eq, ln_eq] at hg
  split at hg
  · rename_i r st1 e1
    split at hg
    · rename_i hl1
      split at hg
      · rename_i v2 st2 e2
        split at hg
        · rename_i vs hst
          split at hg
          · rename_i hlen
            cases hg
            refine MethodCall_ (pl := pl f.ev) (ho.1 f ok s m led ρ S I R _ _ e1 _ _ fun w h1 tk1 led1 ρ1 I1 G1 X1 => ?_) (hq _)
            cases X1 with
            | ref _ a dd hr =>
              obtain ⟨ws0, n0, hm0⟩ := isListAt_get I1 hr hl1
              refine kl_method I1.N (List.mem_append_left _ hm0) F.slot_list_append F.type_list_append ?_
              refine PyProof.Rows.callWith_method1 ?_ (hs _).2 rfl
              refine wpAny_items_cons (he.1 f ok (put s h1 tk1) m led1 ρ1 ⟨S.lo, S.ce, st1⟩ I1 (R.mono G1) _ _ e2 _ _ fun w2 h2 tk2 led2 ρ2 I2 G2 X2 => wpAny_items_nil ?_) (hs _).2
              obtain ⟨a', ws, n, q1, q2, q3⟩ := I2.ob _ _ hst
              rw [G2.at hr] at q1
              cases q1
              refine append_K (s := put s h2 tk2) I2.F I2.N (I2.upd q2) (fun h' F' N' => ?_) (by have := q3.length; simp at this; rw [sizeLine_eq]; omega)
              obtain ⟨I', G'⟩ := I2.store (G2.at hr) q2 rfl F' N' (ob := .list (vs ++ [v2])) fun g => ⟨a, _, _, G2.at hr, updL_self q2, by
                have := (q3.append (VRs.cons X2 .nil)).mono g
                simpa using this⟩
              exact P _ _ _ _ _ I' ((G1.trans G2).trans G') .none
          · cases hg
        · cases hg
      · cases hg
    · cases hg
  · cases hg
noncomputable def popE (o : SE) : SE := fun S => match o S with
  | some (.ref r, st) => match gt st r with
    | some (.list vs) => match vs.getLast? with
      | some v => if vs.length ≤ 1000000 then some (v, pt st r (.list vs.dropLast)) else none
      | none => none
    | _ => none
  | _ => none
theorem VRs.last {cx led ρ} {vs ws} {v : V} (X : VRs cx led ρ vs ws) (h : vs.getLast? = some v) : ∃ p w, ws = p ++ [w] ∧ VR cx led ρ v w ∧ VRs cx led ρ vs.dropLast p := by
  have hne : vs ≠ [] := by rintro rfl; simp at h
  have hl := X.length
  have hpos : 0 < vs.length := List.length_pos_iff.mpr hne
  have hwne : ws ≠ [] := by intro hws; rw [hws] at hl; simp at hl; exact hne hl
  obtain ⟨w, hw, hws⟩ : ∃ w, ws.getLast? = some w ∧ ws = ws.dropLast ++ [w] := ⟨ws.getLast hwne, List.getLast?_eq_some_getLast hwne, (List.dropLast_concat_getLast hwne).symm⟩
  refine ⟨ws.dropLast, w, hws, ?_, ?_⟩
  · rw [List.getLast?_eq_getElem?] at h hw
    obtain ⟨w', q1, q2⟩ := X.get h
    rw [hl] at q1
    rw [hw] at q1
    cases q1
    exact q2
  · rw [List.dropLast_eq_take, List.dropLast_eq_take, ← hl]
    exact X.take _
theorem b_pop {o : Expr} {apos pos : Pos} {go : SE} {pl : Env → Sem Bool} (ho : SoundE cx d sc o go) (hq : MethForm o "pop" apos pos [] pl) : SoundE cx d sc (.Call (.Attribute o "pop" apos) [] [] pos) (popE go) := by
  refine ⟨?_⟩
  intro f ok s m led ρ S I R v st' hg Q E P
  unfold popE at hg
  try simp only [gt_eq, pt_eq, ad_eq, ln_eq] at hg
  split at hg
  · rename_i r st1 e1
    split at hg
    · rename_i vs hst
      split at hg
      · rename_i v2 hlast
        split at hg
        · rename_i hlen
          cases hg
          refine MethodCall_ (pl := pl f.ev) (ho.1 f ok s m led ρ S I R _ _ e1 _ _ fun w h1 tk1 led1 ρ1 I1 G1 X1 => ?_) (hq _)
          cases X1 with
          | ref _ a dd hr =>
            obtain ⟨a', ws, n, q1, q2, q3⟩ := I1.ob _ _ hst
            rw [hr] at q1
            cases q1
            obtain ⟨p, w', hw, X2, X3⟩ := q3.last hlast
            refine kl_method I1.N (List.mem_append_left _ q2) F.slot_list_pop F.type_list_pop ?_
            refine PyProof.Rows.callWith_method0 ?_
            refine kl_pop (s := put s h1 tk1) I1.F I1.N (p := p) (y := w') (by rw [hw]; exact kpa_last w' p) (I1.upd q2) (by have := q3.length; rw [sizeLine_eq]; omega) fun h' F' N' => ?_
            obtain ⟨I', G'⟩ := I1.store hr q2 rfl F' N' (ob := .list vs.dropLast) fun g => ⟨a, _, _, hr, updL_self q2, by simpa using X3.mono g⟩
            exact P _ _ _ _ _ I' (G1.trans G') (X2.mono G')
        · cases hg
      · cases hg
    · cases hg
  · cases hg
end
end Mp
namespace Mp
theorem join_empty (ys : List (List Nat)) : Txt.join ⟨([] : List Nat).toArray⟩ (ys.map fun y => ⟨y.toArray⟩) = ⟨ys.flatten.toArray⟩ := by
  unfold Txt.join PySem.Builtin.Str.glued
  cases ys with
  | nil => rfl
  | cons y r =>
    have key : ∀ (r : List (List Nat)) (acc : List Nat), List.foldl (fun (acc : Array Nat) (p : Str) => acc ++ (⟨([] : List Nat).toArray⟩ : Str).cps ++ p.cps) acc.toArray (r.map fun y => (⟨y.toArray⟩ : Str)) = (acc ++ r.flatten).toArray := by
      intro r
      induction r with
      | nil => intro acc; simp
      | cons z r ih =>
        intro acc
        rw [List.map_cons, List.foldl_cons]
        have : acc.toArray ++ (⟨([] : List Nat).toArray⟩ : Str).cps ++ (⟨z.toArray⟩ : Str).cps = (acc ++ z).toArray := by simp
        rw [this, ih]
        simp
    have := key r y
    simpa using this
section
variable {cx : Cx} {d : Nat} {sc : Sc}
noncomputable def joinE (o a : SE) : SE := fun S => match o S with
  | some (.str [], st) => match a ⟨S.lo, S.ce, st⟩ with
    | some (.ref r, st) => match gt st r with
      | some (.list vs) => match strsOf vs with
        | some ys => if (ys.map List.length).sum ≤ 100000 then some (.str ys.flatten, st) else none
        | none => none
      | _ => none
    | _ => none
  | _ => none
theorem b_join {o e : Expr} {apos pos : Pos} {go ga : SE} {pl : Env → Sem Bool} (ho : SoundE cx d sc o go) (he : SoundE cx d sc e ga) (hs : NoStars [e]) (hq : MethForm o "join" apos pos [e] pl) : SoundE cx d sc (.Call (.Attribute o "join" apos) [e] [] pos) (joinE go ga) := by
  refine ⟨?_⟩
  intro f ok s m led ρ S I R v st' hg Q E P
  unfold joinE at hg
  try simp only [gt_eq, pt_eq, ad_eq, ln_eq] at hg
  split at hg
  · rename_i st1 e1
    split at hg
    · rename_i r st2 e2
      split at hg
      · rename_i vs hst
        split at hg
        · rename_i ys hy
          split at hg
          · rename_i hlen
            cases hg
            refine MethodCall_ (pl := pl f.ev) (ho.1 f ok s m led ρ S I R _ _ e1 _ _ fun w h1 tk1 led1 ρ1 I1 G1 X1 => ?_) (hq _)
            cases X1
            refine GM.join ?_
            refine PyProof.Rows.callWith_method1 ?_ (hs _).2 rfl
            refine wpAny_items_cons (he.1 f ok (put s h1 tk1) m led1 ρ1 ⟨S.lo, S.ce, st1⟩ I1 (R.mono G1) _ _ e2 _ _ fun w2 h2 tk2 led2 ρ2 I2 G2 X2 => wpAny_items_nil ?_) (hs _).2
            cases X2 with
            | ref _ a dd hr =>
              obtain ⟨a', ws, n, q1, q2, q3⟩ := I2.ob _ _ hst
              rw [hr] at q1
              cases q1
              refine join_list (list_at I2 q2) (strsAre_of q3 hy) ?_ fun t' k => ?_
              · have e1 : (⟨([] : List Nat).toArray⟩ : Str).length = 0 := rfl
                rw [e1, List.map_map]
                have e2 : (Str.length ∘ fun (y : List Nat) => (⟨y.toArray⟩ : Str)) = List.length := by funext y; show y.toArray.size = _; simp
                rw [e2]
                omega
              · rw [join_empty]
                exact P _ _ _ _ _ I2 (G1.trans G2) (.str _ _)
          · cases hg
        · cases hg
      · cases hg
    · cases hg
  · cases hg
noncomputable def lowerE (o : SE) : SE := fun S => match o S with
  | some (.str cs, st) => if cs.length ≤ 1000 ∧ cs.all (fun c => 48 ≤ c && c ≤ 57) then some (.str cs, st) else none
  | _ => none
theorem b_lower {o : Expr} {apos pos : Pos} {go : SE} {pl : Env → Sem Bool} (ho : SoundE cx d sc o go) (hq : MethForm o "lower" apos pos [] pl) : SoundE cx d sc (.Call (.Attribute o "lower" apos) [] [] pos) (lowerE go) := by
  refine ⟨?_⟩
  intro f ok s m led ρ S I R v st' hg Q E P
  unfold lowerE at hg
  split at hg
  · rename_i cs st1 e1
    split at hg
    · rename_i hcs
      cases hg
      refine MethodCall_ (pl := pl f.ev) (ho.1 f ok s m led ρ S I R _ _ e1 _ _ fun w h1 tk1 led1 ρ1 I1 G1 X1 => ?_) (hq _)
      cases X1 with
      | str _ t =>
        refine GM.lower ?_
        refine PyProof.Rows.callWith_method0 ?_
        have hd : ∀ c ∈ cs, 48 ≤ c ∧ c ≤ 57 := by simpa using hcs.2
        have hl : Txt.lower ⟨cs.toArray⟩ = ⟨cs.toArray⟩ := by
          rw [lower_ascii (fun c hc => by have := hd c (by simpa using hc); omega)]
          congr 1
          have : List.map lo1 cs = cs := by
            refine (List.map_congr_left (g := id) fun c hc => ?_).trans (List.map_id cs)
            have := hd c hc
            unfold lo1
            rw [if_neg (by omega)]
            rfl
          simp [this]
        refine SC.lower (by rw [hl]; show PySem.Builtin.Str.tooLong cs.toArray.size = false; unfold PySem.Builtin.Str.tooLong; rw [decide_eq_false_iff_not, sizeLine_eq]; simp; omega) ?_
        rw [hl]
        exact P _ _ _ _ _ I1 G1 (.str _ _)
    · cases hg
  · cases hg
noncomputable def indexE (o a : SE) : SE := fun S => match o S with
  | some (.str cs, st) => match a ⟨S.lo, S.ce, st⟩ with
    | some (.str [c], st) => match cs.findIdx? (· == c) with
      | some i => some (.int i, st)
      | none => none
    | _ => none
  | _ => none
theorem b_index {o e : Expr} {apos pos : Pos} {go ga : SE} {pl : Env → Sem Bool} (ho : SoundE cx d sc o go) (he : SoundE cx d sc e ga) (hs : NoStars [e]) (hq : MethForm o "index" apos pos [e] pl) : SoundE cx d sc (.Call (.Attribute o "index" apos) [e] [] pos) (indexE go ga) := by
  refine ⟨?_⟩
  intro f ok s m led ρ S I R v st' hg Q E P
  unfold indexE at hg
  split at hg
  · rename_i cs st1 e1
    split at hg
    · rename_i c st2 e2
      split at hg
      · rename_i i hi
        cases hg
        refine MethodCall_ (pl := pl f.ev) (ho.1 f ok s m led ρ S I R _ _ e1 _ _ fun w h1 tk1 led1 ρ1 I1 G1 X1 => ?_) (hq _)
        cases X1
        refine GM.index ?_
        refine PyProof.Rows.callWith_method1 ?_ (hs _).2 rfl
        refine wpAny_items_cons (he.1 f ok (put s h1 tk1) m led1 ρ1 ⟨S.lo, S.ce, st1⟩ I1 (R.mono G1) _ _ e2 _ _ fun w2 h2 tk2 led2 ρ2 I2 G2 X2 => wpAny_items_nil ?_) (hs _).2
        cases X2
        obtain ⟨hlt, hc, hno⟩ := List.findIdx?_eq_some_iff_getElem.mp hi
        have hc' : cs[i] = c := by simpa using hc
        have hat : (⟨cs.toArray⟩ : Str).cps.toList[i]? = some c := by simp [hlt, hc']
        have hlen : (⟨cs.toArray⟩ : Str).length = cs.length := by show cs.toArray.size = _; simp
        rcases StrLaws.occ_head_from ⟨cs.toArray⟩ ⟨[c].toArray⟩ 0 1 (Nat.le_refl 1) with ⟨h0, hn⟩ | ⟨k, r, h0, hlo, hk, hn⟩
        · exact absurd ((StrLaws.subAt_one _ c i).mpr hat) (hn i (Nat.zero_le _))
        · have hm := (StrLaws.subAt_one _ c k).mp hk
          have hm' : cs[k]? = some c := by simpa using hm
          have hki : k = i := by
            rcases Nat.lt_trichotomy k i with h | h | h
            · have := hno k h
              have hk2 : k < cs.length := by omega
              rw [List.getElem?_eq_getElem hk2] at hm'
              cases hm'
              simp at this
            · exact h
            · exact absurd ((StrLaws.subAt_one _ c i).mpr hat) (hn i (Nat.zero_le _) h)
          subst hki
          exact SC.index h0 (P _ _ _ _ _ I2 (G1.trans G2) (.int _ _))
      · cases hg
    · cases hg
  · cases hg
noncomputable def oneG (vs : List V) (st : List Ob) : Option V := match vs with
  | [.ref r] => match gt st r with
    | some (.list [.int a]) => some (.int a)
    | _ => none
  | _ => none
theorem oneG_is {f : Fm} {h m led ρ st} (I : Inv cx f h m led ρ st) {vs ws v} (X : VRs cx led ρ vs ws) (e : oneG vs st = some v) : ∃ (a : Int) (t : Tok) (l : Addr), v = .int a ∧ ws = [.ref l] ∧ h.IsList l [Value.int a t].toArray ∧ IntsAre [Value.int a t] [a] := by
  unfold oneG at e
  try simp only [gt_eq, pt_eq, ad_eq, ln_eq] at e
  split at e
  · rename_i r
    split at e
    · rename_i a hst
      cases e
      cases X with
      | cons X1 X2 =>
        cases X2
        cases X1 with
        | ref _ l dd hr =>
          obtain ⟨a', us, n, q1, q2, q3⟩ := I.ob _ _ hst
          rw [hr] at q1
          cases q1
          obtain ⟨ul⟩ := us
          cases q3 with
          | cons Y1 Y2 =>
            cases Y2
            cases Y1 with
            | int _ t => exact ⟨a, t, l, rfl, rfl, list_at I q2, .cons _ _ .nil⟩
    · cases e
  · cases e
theorem f_min1 : FnStep cx (.builtin "min") oneG := by
  intro d sc f ok s m led ρ st I vs ws X v e Q E P
  obtain ⟨a, t, l, rfl, rfl, hl, hi⟩ := oneG_is I X e
  exact kso_min I.F I.N hl hi (Nat.zero_lt_succ _) ok.hh fun h' M t' tk F' N' hM _ => by
    have : M = a := by simpa using hM
    subst this
    exact P _ _ _ _ _ (I.turn F' N') (.refl _ _) (.int _ _)
theorem f_max1 : FnStep cx (.builtin "max") oneG := by
  intro d sc f ok s m led ρ st I vs ws X v e Q E P
  obtain ⟨a, t, l, rfl, rfl, hl, hi⟩ := oneG_is I X e
  exact kso_max I.F I.N hl hi (Nat.zero_lt_succ _) ok.hh fun h' M t' tk F' N' hM _ => by
    have : M = a := by simpa using hM
    subst this
    exact P _ _ _ _ _ (I.turn F' N') (.refl _ _) (.int _ _)
structure DiOk (cx : Cx) (n : Nat) (es : List (List Nat × V)) : Prop where
  at_ : ∃ (ds : Array DictEntry) (k : Nat), cx.K.lookup (cx.ga n) = some ⟨.type "dict", none, .dict ds k, #[]⟩ ∧ PairsR cx [] [] es ds.toList
  no : (cx.ga n == sysModules) = false
theorem VR.nil_mono {led ρ v w} (h : VR cx [] [] v w) : VR cx led ρ v w := h.mono2 ⟨(fun _ h => absurd h (List.not_mem_nil)), ⟨ρ, rfl⟩⟩
theorem PairsR.none {led ρ} {key : List Nat} {es : List (List Nat × V)} {ds : List DictEntry} (h0 : PairsR cx led ρ es ds) : es.lookup key = Option.none → findBy Value.isStrOf ds.toArray ⟨key.toArray⟩ = Option.none := by
  induction h0 with
  | nil => intro _; rfl
  | @cons k t v' w es ds a r ih =>
    intro h
    rw [List.lookup_cons] at h
    unfold findBy at ih ⊢
    rw [List.find?_toArray] at ih ⊢
    rw [List.find?_cons]
    dsimp only
    rw [isStrOf_lists]
    cases hk : key == k with
    | true => rw [hk] at h; cases h
    | false =>
      rw [hk] at h
      exact ih h
noncomputable def inDE (es : List (List Nat × V)) (n : Nat) (a : SE) : SE := fun S => match a S with
  | some (.str key, st) => some (.bool (es.lookup key).isSome, st)
  | _ => none
theorem dict_K {n : Nat} {es} (h : DiOk cx n es) {f : Fm} (ok : f.Ok cx d sc) {hp m led ρ st} (I : Inv cx f hp m led ρ st) :
    ∃ ds k, hp.MapOf (PySem.strKind cx.prog cx.w) (cx.ga n) (fun k => findBy Value.isStrOf ds k) ∧ cx.K.lookup (cx.ga n) = some ⟨.type "dict", Option.none, .dict ds k, #[]⟩ ∧ PairsR cx [] [] es ds.toList := by
  obtain ⟨⟨ds, k, h1, h2⟩, h3⟩ := h
  exact ⟨ds, k, mapOf_K (prog := cx.prog) (ok.X.keeps I.F.keep) h1 h2.keys, h1, h2⟩
noncomputable def itemDE (es : List (List Nat × V)) (n : Nat) (a : SE) : SE := fun S => match a S with
  | some (.str key, st) => match es.lookup key with
    | some v => some (v, st)
    | Option.none => Option.none
  | _ => Option.none
theorem b_itemD {a : Expr} {x : Str} {ga : SE} {n : Nat} {es} {np pos : Pos} (ha : SoundE cx d sc a ga) (hx : GloName cx sc x (.ref (cx.ga n))) (h : DiOk cx n es) (hs : ∀ o i, subscripted a false o i = operate [o, i] (getItem o i)) :
    SoundE cx d sc (.Subscript (.Name x np) a pos) (itemDE es n ga) := by
  refine ⟨?_⟩
  intro f ok s m led ρ S I R v st' hg Q E P
  unfold itemDE at hg
  split at hg
  · rename_i key st1 e1
    split at hg
    · rename_i v' hl
      cases hg
      refine Subscript_ ?_
      refine nameG_K I.F ok.X (topRead_of ok.T) hx.at_ ?_ ok.evg ok.evk (ok.kind hx.kind) hx.dbg
      refine ha.1 f ok s m led ρ S I R _ _ e1 _ _ fun w h1 tk1 led1 ρ1 I1 G1 X1 => ?_
      cases X1 with
      | str _ t =>
        obtain ⟨ds, k, hmap, _, hp⟩ := dict_K h ok I1
        obtain ⟨dl⟩ := ds
        obtain ⟨w, hw, X⟩ := hp.find hl
        exact tail_any hmap.typeIs slot_dict_getitem.lookup (wpAny_getItem_of (PySem.strKind_is cx.prog cx.w _ t) hmap hw (P _ _ _ _ _ I1 G1 X.nil_mono)) (hs _ _)
    · cases hg
  · cases hg
end
end Mp
namespace Mp
section
variable {cx : Cx} {d : Nat} {sc : Sc}
noncomputable def noE : SE := fun _ => none
noncomputable def noT : ST := fun _ => none
noncomputable def noS : SS := fun _ => none
noncomputable def noF : FnG := fun _ _ => none
theorem no_e {e : Expr} : SoundE cx d sc e noE := by
  refine ⟨?_⟩
  intro f ok s m led ρ S I R v st' hg
  cases hg
theorem no_t {e : Expr} : SoundT cx d sc e noT := by
  refine ⟨?_⟩
  intro f ok s m led ρ S I R v st' hg
  cases hg
theorem no_b {t : List Stmt} : SoundB cx d sc t noS := by
  refine ⟨?_⟩
  intro f ok s m led ρ S I R v st' hg
  cases hg
theorem no_f {fv : Value} : CallOk cx d fv noF := by
  refine ⟨?_⟩
  intro sc f ok s m led ρ st I vs ws X v st' e
  cases e
theorem CallOk.up {d' : Nat} {fv g} (h : CallOk cx d fv g) (hd : Nat.ble d d' = true) : CallOk cx d' fv g := h.le (Nat.le_of_ble_eq_true hd)
theorem t_inD {a : Expr} {x : Str} {ga : SE} {n : Nat} {es} {np pos : Pos} (ha : SoundE cx d sc a ga) (hx : GloName cx sc x (.ref (cx.ga n))) (h : DiOk cx n es) (hm : behindInMarks .In (.Name x np) = false) :
    SoundT cx d sc (.Compare a [.In] [.Name x np] pos) (tE (inDE es n ga)) := by
  refine ⟨?_⟩
  intro f ok s m led ρ S I R b st' hg Q E P
  unfold tE inDE at hg
  split at hg
  · rename_i b' st1 e1
    cases hg
    split at e1
    · rename_i key st2 e2
      cases e1
      refine wpAny_isTrue_Compare1 ?_ hm
      refine ha.1 f ok s m led ρ S I R _ _ e2 _ _ fun w h1 tk1 led1 ρ1 I1 G1 X1 => ?_
      refine nameG_K I1.F ok.X (topRead_of ok.T) hx.at_ ?_ ok.evg ok.evk (ok.kind hx.kind) hx.dbg
      cases X1 with
      | str _ t =>
        obtain ⟨ds, k, hmap, _, hp⟩ := dict_K h ok I1
        obtain ⟨dl⟩ := ds
        refine wpAny_in_of (PySem.strKind_is cx.prog cx.w _ t) h.no hmap ?_
        have : (findBy Value.isStrOf ⟨dl⟩ ⟨key.toArray⟩).isSome = (es.lookup key).isSome := by
          cases hl : es.lookup key with
          | none => rw [hp.none hl]; rfl
          | some v => obtain ⟨w, hw, _⟩ := hp.find hl; rw [hw]; rfl
        rw [this]
        exact wpAny_truthy_bool (P _ _ _ _ I1 G1)
    · cases e1
  · cases hg
noncomputable def tabOf (l : List (Nat × FnG)) : Nat → Option FnG := fun n => l.lookup n
theorem tab_nil : TabOk cx d (tabOf []) := ⟨fun n g h => (by cases h), fun n g h => (by cases h)⟩
theorem tab_cons {n : Nat} {g : FnG} {l} (h : CallOk cx d (.ref (cx.ga n)) g) (k : keepIn cx.K (.ref (cx.ga n)) = true) (r : TabOk cx d (tabOf l)) : TabOk cx d (tabOf ((n, g) :: l)) := by
  have key : ∀ n' g', tabOf ((n, g) :: l) n' = some g' → (n' = n ∧ g' = g) ∨ tabOf l n' = some g' := by
    intro n' g' e
    unfold tabOf at e ⊢
    rw [List.lookup_cons] at e
    by_cases hn : n' = n
    · subst hn
      simp at e
      exact .inl ⟨rfl, e.symm⟩
    · have : (n' == n) = false := by simpa using hn
      rw [this] at e
      exact .inr e
  constructor
  · intro n' g' e
    rcases key n' g' e with ⟨rfl, rfl⟩ | e
    · exact h
    · exact r.call _ _ e
  · intro n' g' e
    rcases key n' g' e with ⟨rfl, rfl⟩ | e
    · exact k
    · exact r.keep _ _ e
noncomputable def dictN : SE := fun S => some (.ref (ln S.st), ad S.st (.dict []))
theorem Inv.newDict {f : Fm} {h h' : Heap} {m led ρ st} (I : Inv cx f h m led ρ st) {o : Obj} {ds : List (Str × Value)} {es} {l : Addr} (F' : Fr f.h₀ f.L h' m) (N' : News f.h₀ f.L h' ((l, o) :: (led ++ f.kept)))
    (hl : ∀ p ∈ led ++ f.kept, p.1 < l) (hd : o.IsDictOf (PySem.strKind cx.prog cx.w) ds) (X : KvsR cx led ρ es ds) :
    Inv cx f h' m ((l, o) :: led) (ρ ++ [(l, l)]) (st ++ [.dict es]) ∧ Grow led ρ ((l, o) :: led) (ρ ++ [(l, l)]) := by
  have g0 : Grow led ρ ((l, o) :: led) (ρ ++ [(l, l)]) := ⟨fun p hp _ => List.mem_cons_of_mem _ hp, ⟨_, rfl⟩⟩
  refine I.make (new := [(l, o)]) F' N' ?_ (fun q hq e => ?_) ⟨l, o, ds, by rw [← I.len]; simp, List.mem_append_left _ (.head _), hd, ?_⟩
  · show ((l, o) :: (led ++ f.kept)).map (·.1) |>.Nodup
    rw [List.map_cons, List.nodup_cons]
    refine ⟨fun hm => ?_, I.nd⟩
    obtain ⟨p, hp, e⟩ := List.mem_map.mp hm
    exact absurd (hl p hp) (by rw [e]; exact Nat.lt_irrefl _)
  · obtain ⟨o', ho'⟩ := I.rho_mem q hq
    exact absurd (hl _ (List.mem_append_left _ ho')) (by rw [e]; exact Nat.lt_irrefl _)
  · clear hd
    induction X with
    | nil => exact .nil
    | cons a _ ih => exact .cons (a.mono g0) ih
theorem b_dict0 {pos : Pos} : SoundE cx d sc (.Dict [] [] pos) dictN := by
  refine ⟨?_⟩
  intro f ok s m led ρ S I R v st' hg Q E P
  unfold dictN at hg
  simp only [ad_eq, ln_eq] at hg
  cases hg
  refine newDict_K I.F I.N (Top.nolimit ok.T) fun D h' o F' N' hlt _ hd _ _ _ => ?_
  obtain ⟨I', G'⟩ := I.newDict F' N' hlt hd .nil
  exact P _ _ s.toks _ _ I' G' (.ref _ D D (by rw [← I.len]; simp))
end
end Mp
namespace Mp
noncomputable abbrev SV := Sem Value × Sem Value
theorem gather1 (f : (Option (Sem Value) × Sem Value) → (Option Addr × List SV) → Sem (ForInStep (Option Addr × List SV))) (m : Option Addr)
    (hf : ∀ (p : SV) (run : List SV), run.length + 1 < 17 → f (some p.1, p.2) (m, run) = pure (.yield (m, run ++ [p]))) (rest : List (Option (Sem Value) × Sem Value)) :
    ∀ (items run : List SV), run.length + items.length < 17 → forIn (items.map (fun p => (some p.1, p.2)) ++ rest) (m, run) f = forIn rest (m, run ++ items) f
  | [], run, _ => by simp
  | p :: it, run, h => by
    rw [List.map_cons, List.cons_append, List.forIn_cons, hf p run (by simp at h; omega), pure_bind]
    have := gather1 f m hf rest it (run ++ [p]) (by simp at h ⊢; omega)
    simpa using this
theorem display_two (a b : List SV) (p : SV) (ha : a.length = 16) (hb : b.length < 17) (hb0 : b ≠ []) :
    dictDisplay ((a ++ p :: b).map fun p => (some p.1, p.2)) = (do
      let d ← subDict (a ++ [p])
      let sub ← holding [.ref d] (subDict b)
      (holding [.ref d, .ref sub] (mergeMapping d (.ref sub) false)).onRaise fun x => do let _ ← holding [.ref d, x] (runValue (.builtin "proto.let_go" {}))
      pure (.ref d)) := by
  unfold dictDisplay
  dsimp only
  rw [List.map_append, List.map_cons]
  rw [gather1 _ _ (fun p run h => by
    have hne : ((run ++ [(p.1, p.2)]).length == 17) = false := by simp; omega
    simp only [hne, Bool.false_eq_true, if_false]) _ a [] (by simp [ha])]
  rw [List.forIn_cons]
  have h17 : (([] ++ a ++ [(p.1, p.2)]).length == 17) = true := by simp [ha]
  have hne : ([] ++ a ++ [(p.1, p.2)]).isEmpty = false := by simp
  simp only [h17, hne, if_true, Bool.false_eq_true, if_false, bind_assoc, pure_bind]
  refine congrArg _ (funext fun d => ?_)
  rw [← List.append_nil (List.map (fun (p : SV) => (some p.1, p.2)) b), gather1 _ (some d) (fun p run h => by
    have hne : ((run ++ [(p.1, p.2)]).length == 17) = false := by simp; omega
    simp only [hne, Bool.false_eq_true, if_false]) [] b [] (by simpa using hb)]
  simp [hb0]
end Mp
namespace Mp
theorem KvsR.append {cx led ρ es ds k v w} (h : KvsR cx led ρ es ds) (X : VR cx led ρ v w) : KvsR cx led ρ (es ++ [(k, v)]) (ds ++ [(⟨k.toArray⟩, w)]) := by
  induction h with
  | nil => exact .cons X .nil
  | cons a _ ih => exact .cons a ih
theorem KvsR.mono {cx led ρ led' ρ' es ds} (g : Grow led ρ led' ρ') (h : KvsR cx led ρ es ds) : KvsR cx led' ρ' es ds := by
  induction h with
  | nil => exact .nil
  | cons a _ ih => exact .cons (a.mono g) ih
theorem KvsR.length {cx led ρ es ds} (h : KvsR cx led ρ es ds) : es.length = ds.length := by
  induction h with
  | nil => rfl
  | cons _ _ ih => simp [ih]
theorem strNe {a b : List Nat} (h : a ≠ b) : (⟨a.toArray⟩ : Str) ≠ ⟨b.toArray⟩ := by
  intro e
  have := congrArg Str.cps e
  simp at this
  exact h this
theorem KvsR.fresh {cx led ρ es ds} {k : List Nat} (h : KvsR cx led ρ es ds) (hk : es.lookup k = none) : (⟨k.toArray⟩ : Str) ∉ ds.map (·.1) := by
  induction h with
  | nil => simp
  | @cons k' v w es ds a r ih =>
    rw [List.lookup_cons] at hk
    by_cases e : k = k'
    · subst e; simp at hk
    · have : (k == k') = false := by simpa using e
      rw [this] at hk
      simp only [List.map_cons, List.mem_cons, not_or]
      exact ⟨strNe e, ih hk⟩
section
variable {prog : Program} {w : World} {K : Type} [DecidableEq K] {knd : KeyKind prog w K} {A : Around} {E : Value → Shared → Prop} {s : Shared}
theorem wp_dictPut {d : Addr} {kvs : List (K × Value)} {k : K} {key v : Value} {Q : Unit → Shared → Prop} (hkey : knd.is k key = true) (hm : s.heap.DictOf knd d kvs) (hf : k ∉ kvs.map (·.1))
    (hQ : ∀ h', h'.DictOf knd d (kvs ++ [(k, v)]) → Heap.SameBut d s.heap h' → Q () { s with heap := h' }) (hsz : kvs.length ≤ sizeLine) :
    wpAny (model prog w) A (dictPut d (knd.hash k) key v) Q E s := by
  obtain ⟨o, es, ep, ho, hc, hd, hk, hp, hn⟩ := hm
  have hlen : es.size = kvs.length := by rw [← hp.length]; simp
  have hno : (es.findIdx? fun e => knd.is k e.key) = none := by
    have h1 := hp.findIdx k
    have h2 : (kvs.findIdx? fun kv => decide (kv.1 = k)) = none := by
      rw [List.findIdx?_eq_none_iff]
      intro kv hkv
      rw [decide_eq_false_iff_not]
      rintro rfl
      exact hf (List.mem_map.mpr ⟨kv, hkv, rfl⟩)
    rw [h2] at h1
    obtain ⟨l⟩ := es
    simpa using h1
  unfold dictPut
  refine wpAny_bind (wpAny_dictFind_of hkey ho hd hk ?_)
  rw [hno]
  refine wpAny_updateDictKeys (hz := by omega) ho hd (hQ _ ⟨_, _, ep + 1, Heap.get?_update_self _ ho (Obj.isFreed_of_dict (Obj.data_mapDictKeys hd _)), hc.mapDictKeys _, Obj.data_mapDictKeys hd _, hk.push hkey _, ?_, ?_⟩ (Heap.SameBut.update ..))
  · have := hp.append hkey (knd.hash k) v
    obtain ⟨l⟩ := es
    simpa using this
  · rw [List.map_append, List.nodup_append]
    refine ⟨hn, by simp, fun a ha b hb => ?_⟩
    simp only [List.map_cons, List.map_nil, List.mem_singleton] at hb
    subst hb
    rintro rfl
    exact hf ha
end
section
variable {cx : Cx} {d : Nat} {sc : Sc}
theorem Inv.putDict {f : Fm} {h : Heap} {m led ρ st} (I : Inv cx f h m led ρ st) {r : Nat} {a b : Addr} (hr : ρ[r]? = some (a, b)) {es} (hst : st[r]? = some (.dict es)) {k v w} :
    ∃ o ds, (a, o) ∈ led ∧ o.IsDictOf (PySem.strKind cx.prog cx.w) ds ∧ KvsR cx led ρ es ds ∧ b = a ∧
      ∀ (X : VR cx led ρ v w) {h' : Heap}, h'.DictOf (PySem.strKind cx.prog cx.w) a (ds ++ [(⟨k.toArray⟩, w)]) → Heap.SameBut a h h' →
        ∃ led', Inv cx f h' m led' ρ (st.set r (.dict (es ++ [(k, v)]))) ∧ Grow led ρ led' ρ := by
  obtain ⟨a', o, ds, p1, p2, p3, p4⟩ := I.ob _ _ hst
  rw [hr] at p1
  cases p1
  refine ⟨o, ds, p2, p3, p4, rfl, fun X h' hm hs => ?_⟩
  obtain ⟨o', ho', hd'⟩ := Heap.dictOf_iff.mp hm
  have z := I.at_ p2
  obtain ⟨pre, post, e1, e2, q1, q2⟩ := (I.upd (o' := o') p2).split
  have hz : Frz o = false := by
    obtain ⟨es', ep, _, h3, _⟩ := p3
    unfold Frz
    rw [h3]
  exact ⟨_, I.store hr p2 hz (I.F.change hs z.2.1 z.2.2) (by rw [e2]; exact news_set (e1 ▸ I.N) q1 q2 hs ho') fun g => ⟨_, o', _, hr, updL_self p2, hd', (p4.mono g).append (X.mono g)⟩⟩
theorem dict_set {f : Fm} {s : Shared} {m led ρ st} (I : Inv cx f s.heap m led ρ st) {r : Nat} {a b : Addr} (hr : ρ[r]? = some (a, b)) {es} (hst : st[r]? = some (.dict es)) {k : List Nat} {t v w} (X : VR cx led ρ v w) (hk : es.lookup k = none) (hl : es.length ≤ 1000)
    {Q E} (P : PostU cx f m led ρ (st.set r (.dict (es ++ [(k, v)]))) Q s) : wpAny cx.M f.A (dictSet a (.str ⟨k.toArray⟩ t) w) Q E s := by
  obtain ⟨o, ds, h1, h2, h3, rfl, h4⟩ := I.putDict hr hst (k := k) (v := v) (w := w)
  have hl2 := h3.length
  refine wpAny_dictSet_pairs (hsz := by rw [sizeLine_eq]; omega) (PySem.strKind_is cx.prog cx.w _ t) (dict_at I h1 h2) fun h' hm hs => ?_
  have hany : ¬ (ds.any fun kv => decide (kv.1 = (⟨k.toArray⟩ : Str))) = true := by
    rw [List.any_eq_true]
    rintro ⟨kv, hkv, he⟩
    exact h3.fresh hk (List.mem_map.mpr ⟨kv, hkv, of_decide_eq_true he⟩)
  rw [stored, if_neg hany] at hm
  obtain ⟨led', I', G'⟩ := h4 X hm hs
  exact P _ _ _ _ I' G'
noncomputable def PairT (cx : Cx) (sc : Sc) (f : Fm) (lo : List V) (ce : List Nat) (p : SV) (kv : List Nat × V) : Prop :=
  (∀ (s : Shared) (Q : Value → Shared → Prop) E, (∀ t tk, Q (.str ⟨kv.1.toArray⟩ t) (put s s.heap tk)) → wpAny cx.M f.A p.1 Q E s) ∧
  (∀ (s : Shared) m led ρ st, Inv cx f s.heap m led ρ st → LR cx sc f m led ρ lo ce → ∀ Q E, PostE cx f m led ρ st kv.2 Q s → wpAny cx.M f.A p.2 Q E s)
inductive PairsT (cx : Cx) (sc : Sc) (f : Fm) (lo : List V) (ce : List Nat) : List SV → List (List Nat × V) → Prop
  | nil : PairsT cx sc f lo ce [] []
  | cons {p kv ps kvs} : PairT cx sc f lo ce p kv → PairsT cx sc f lo ce ps kvs → PairsT cx sc f lo ce (p :: ps) (kv :: kvs)
theorem pairs_long {f : Fm} {lo ce} (r : Nat) {a b : Addr} : ∀ {ps kvs} (T : PairsT cx sc f lo ce ps kvs) {s : Shared} {m led ρ st es} (I : Inv cx f s.heap m led ρ st) (R : LR cx sc f m led ρ lo ce) (hr : ρ[r]? = some (a, b)) (hst : st[r]? = some (.dict es))
    (nd : ((es ++ kvs).map (·.1)).Nodup) (hl : (es ++ kvs).length ≤ 1000) {Q : PUnit → Shared → Prop} {E}
    (P : PostU cx f m led ρ (st.set r (.dict (es ++ kvs))) Q s),
    wpAny cx.M f.A (forIn ps PUnit.unit fun (x : SV) (_ : PUnit) => (do
        let kv ← x.1
        let vv ← holding [kv] x.2
        holding [kv, vv] (dictSet a kv vv)
        pure (ForInStep.yield PUnit.unit) : Sem (ForInStep PUnit))) Q E s := by
  intro ps kvs T
  induction T with
  | nil =>
    intro s m led ρ st es I R hr hst nd hl Q E P
    rw [List.forIn_nil]
    have : st.set r (.dict (es ++ [])) = st := by
      rw [List.append_nil]
      obtain ⟨h1, h2⟩ := List.getElem?_eq_some_iff.mp hst
      rw [← h2, List.set_getElem_self]
    rw [this] at P
    exact wpAny_pure (P _ s.toks _ _ I (.refl _ _))
  | @cons p kv ps kvs hp T ih =>
    intro s m led ρ st es I R hr hst nd hl Q E P
    obtain ⟨k, v⟩ := kv
    rw [List.forIn_cons]
    refine wpAny_bind ?_
    refine wpAny_bind (hp.1 _ _ _ fun t tk => ?_)
    refine wpAny_bind (wpAny_holding (hp.2 (put s s.heap tk) m led ρ st I R _ _ fun w h1 tk1 led1 ρ1 I1 G1 X1 => ?_))
    have hrr : ρ1[r]? = some (a, b) := G1.at hr
    have hk : es.lookup k = none := by
      rw [List.lookup_eq_none_iff]
      intro q hq
      rw [List.map_append, List.nodup_append] at nd
      have := nd.2.2 q.1 (List.mem_map_of_mem hq) k (by simp)
      simpa using fun e : k = q.1 => this e.symm
    refine wpAny_bind (wpAny_holding (dict_set (s := put s h1 tk1) I1 hrr hst X1 hk (by rw [List.length_append] at hl; omega) fun h2 tk2 led2 ρ2 I2 G2 => wpAny_pure ?_))
    have hst2 : (st.set r (.dict (es ++ [(k, v)])))[r]? = some (.dict (es ++ [(k, v)])) := by
      have := (List.getElem?_eq_some_iff.mp hst).1
      simp [this]
    refine ih (s := put s h2 tk2) I2 (R.mono (G1.trans G2)) (G2.at hrr) hst2 (by simpa using nd) (by simpa using hl) fun h3 tk3 led3 ρ3 I3 G3 => ?_
    refine P _ _ _ _ ?_ ((G1.trans G2).trans G3)
    simpa using I3
end
end Mp
namespace Mp
theorem range_loop {M : Model} {A : Around} {E : Value → Shared → Prop} {f : Nat → PUnit → Sem (ForInStep PUnit)} (n : Nat) (J : Nat → Shared → Prop)
    (hstep : ∀ i s, i < n → J i s → wpAny M A (f i PUnit.unit) (fun r s' => r = ForInStep.yield PUnit.unit ∧ J (i + 1) s') E s) :
    ∀ k i, i + k = n → ∀ s, J i s → wpAny M A (forIn (List.range' i k) PUnit.unit f) (fun _ s' => J n s') E s := by
  intro k
  induction k with
  | zero =>
    intro i hi s hJ
    have : i = n := by omega
    subst this
    show wpAny M A (forIn [] PUnit.unit f) _ E s
    rw [List.forIn_nil]
    exact wpAny_pure hJ
  | succ k ih =>
    intro i hi s hJ
    rw [List.range'_succ, List.forIn_cons]
    refine wpAny_bind (wpAny_mono (hstep i s (by omega) hJ) (fun r s' h => ?_) fun _ _ e => e)
    obtain ⟨rfl, hJ'⟩ := h
    exact ih (i + 1) (by omega) s' hJ'
theorem KvsR.get {cx led ρ es ds} (X : KvsR cx led ρ es ds) {i : Nat} {k v} (h : es[i]? = some (k, v)) : ∃ w, ds[i]? = some (⟨k.toArray⟩, w) ∧ VR cx led ρ v w := by
  induction X generalizing i with
  | nil => cases h
  | cons a r ih =>
    cases i with
    | zero => cases h; exact ⟨_, rfl, a⟩
    | succ i => exact ih h
section
variable {cx : Cx} {d : Nat} {sc : Sc}
inductive KvV (cx : Cx) (led : Led) (ρ : Rho) : List (List Nat × V) → List (Value × Value) → Prop
  | nil : KvV cx led ρ [] []
  | cons {k v t w kvs vs} : VR cx led ρ v w → KvV cx led ρ kvs vs → KvV cx led ρ ((k, v) :: kvs) ((.str ⟨k.toArray⟩ t, w) :: vs)
theorem KvV.mono {led ρ led' ρ' es ds} (g : Grow led ρ led' ρ') (h : KvV cx led ρ es ds) : KvV cx led' ρ' es ds := by
  induction h with
  | nil => exact .nil
  | cons a _ ih => exact .cons (a.mono g) ih
theorem pairs_eval {f : Fm} {lo ce} : ∀ {ps kvs} (T : PairsT cx sc f lo ce ps kvs) {s : Shared} {m led ρ st} (I : Inv cx f s.heap m led ρ st) (R : LR cx sc f m led ρ lo ce) {Q : List (Value × Value) → Shared → Prop} {E}
    (P : ∀ vs h' tk' led' ρ', Inv cx f h' m led' ρ' st → Grow led ρ led' ρ' → KvV cx led' ρ' kvs vs → Q vs (put s h' tk')), wpAny cx.M f.A (evalPairs ps) Q E s := by
  intro ps kvs T
  induction T with
  | nil =>
    intro s m led ρ st I R Q E P
    exact evalPairs_nil (P _ _ s.toks _ _ I (.refl _ _) .nil)
  | @cons p kv ps kvs hp T ih =>
    intro s m led ρ st I R Q E P
    obtain ⟨k, v⟩ := kv
    refine evalPairs_cons (hp.1 _ _ _ fun t tk => ?_)
    refine hp.2 (put s s.heap tk) m led ρ st I R _ _ fun w h1 tk1 led1 ρ1 I1 G1 X1 => ?_
    refine ih (s := put s h1 tk1) I1 (R.mono G1) fun vs h2 tk2 led2 ρ2 I2 G2 X2 => ?_
    exact P _ _ _ _ _ I2 (G1.trans G2) (.cons (X1.mono G2) X2)
theorem pairs_store {f : Fm} (r : Nat) {a b : Addr} : ∀ {kvs vs} {s : Shared} {m led ρ st es} (T : KvV cx led ρ kvs vs) (I : Inv cx f s.heap m led ρ st) (hr : ρ[r]? = some (a, b)) (hst : st[r]? = some (.dict es))
    (nd : ((es ++ kvs).map (·.1)).Nodup) (hl : (es ++ kvs).length ≤ 1000) {Q : PUnit → Shared → Prop} {E}
    (P : PostU cx f m led ρ (st.set r (.dict (es ++ kvs))) Q s),
    wpAny cx.M f.A (forIn vs PUnit.unit fun (x : Value × Value) (_ : PUnit) => (do dictSet a x.1 x.2; pure (ForInStep.yield PUnit.unit) : Sem (ForInStep PUnit))) Q E s := by
  intro kvs
  induction kvs with
  | nil =>
    intro vs s m led ρ st es T I hr hst nd hl Q E P
    cases T
    rw [List.forIn_nil]
    have : st.set r (.dict (es ++ [])) = st := by
      rw [List.append_nil]
      obtain ⟨h1, h2⟩ := List.getElem?_eq_some_iff.mp hst
      rw [← h2, List.set_getElem_self]
    rw [this] at P
    exact wpAny_pure (P _ s.toks _ _ I (.refl _ _))
  | cons kv kvs ih =>
    intro vs s m led ρ st es T I hr hst nd hl Q E P
    obtain ⟨k, v⟩ := kv
    cases T with | cons X T =>
    rw [List.forIn_cons]
    have hk : es.lookup k = none := by
      rw [List.lookup_eq_none_iff]
      intro q hq
      rw [List.map_append, List.nodup_append] at nd
      have := nd.2.2 q.1 (List.mem_map_of_mem hq) k (by simp)
      simpa using fun e : k = q.1 => this e.symm
    refine wpAny_bind (wpAny_bind (dict_set I hr hst X hk (by rw [List.length_append] at hl; omega) fun h2 tk2 led2 ρ2 I2 G2 => wpAny_pure ?_))
    have hst2 : (st.set r (.dict (es ++ [(k, v)])))[r]? = some (.dict (es ++ [(k, v)])) := by
      have := (List.getElem?_eq_some_iff.mp hst).1
      simp [this]
    refine ih (s := put s h2 tk2) (T.mono G2) I2 (G2.at hr) hst2 (by simpa using nd) (by simpa using hl) fun h3 tk3 led3 ρ3 I3 G3 => ?_
    refine P _ _ _ _ ?_ (G2.trans G3)
    simpa using I3
theorem alloc_dict {f : Fm} {s : Shared} {m led ρ st} (I : Inv cx f s.heap m led ρ st) :
    ∃ o, Inv cx f (s.heap.push { cls := .type "dict", data := .dict #[] }) m ((s.heap.objs.size, o) :: led) (ρ ++ [(s.heap.objs.size, s.heap.objs.size)]) (st ++ [.dict []]) ∧ Grow led ρ ((s.heap.objs.size, o) :: led) (ρ ++ [(s.heap.objs.size, s.heap.objs.size)]) := by
  obtain ⟨o, ho, hd⟩ := Heap.dictOf_iff.mp (Heap.DictOf.new (knd := PySem.strKind cx.prog cx.w) s.heap)
  exact ⟨o, I.newDict (I.F.push _) (news_pushed I.F I.N (fun b x e => Heap.get?_push_of_some _ e) ho rfl) (fun p hp => Heap.lt_size (I.N p hp).1) hd .nil⟩
theorem sub_long {f : Fm} {lo ce ps kvs} (T : PairsT cx sc f lo ce ps kvs) (h15 : 15 < ps.length) {s : Shared} {m led ρ st} (I : Inv cx f s.heap m led ρ st) (R : LR cx sc f m led ρ lo ce) (nd : (kvs.map (·.1)).Nodup) (hl : kvs.length ≤ 1000) {Q : Addr → Shared → Prop} {E}
    (P : ∀ a h' tk' led' ρ', Inv cx f h' m led' ρ' (st ++ [.dict kvs]) → Grow led ρ led' ρ' → ρ'[st.length]? = some (a, a) → Q a (put s h' tk')) : wpAny cx.M f.A (subDict ps) Q E s := by
  unfold subDict
  obtain ⟨o, I1, G1⟩ := alloc_dict I (s := s)
  refine wpAny_bind (wpAny_alloc ?_)
  refine wpAny_bind (wpAny_holding ?_)
  rw [if_neg (by omega)]
  refine wpAny_bind (wpAny_rule ?_)
  have hr : (ρ ++ [(s.heap.objs.size, s.heap.objs.size)])[st.length]? = some (s.heap.objs.size, s.heap.objs.size) := by rw [← I.len]; simp
  refine wpAny_bind ?_
  refine pairs_long (es := []) (s := put s _ s.toks) st.length T I1 (R.mono G1) hr (by simp) (by simpa using nd) (by simpa using hl) fun h2 tk2 led2 ρ2 I2 G2 => ?_
  refine wpAny_pure (wpAny_pure (P _ _ _ _ _ ?_ (G1.trans G2) (G2.at hr)))
  simpa using I2
theorem sub_short {f : Fm} {lo ce ps kvs} (T : PairsT cx sc f lo ce ps kvs) (h15 : ps.length ≤ 15) {s : Shared} {m led ρ st} (I : Inv cx f s.heap m led ρ st) (R : LR cx sc f m led ρ lo ce) (nd : (kvs.map (·.1)).Nodup) (hl : kvs.length ≤ 1000) (hbig : sysModules < f.h₀.objs.size) {Q : Addr → Shared → Prop} {E}
    (P : ∀ a h' tk' led' ρ', (a == sysModules) = false → Inv cx f h' m led' ρ' (st ++ [.dict kvs]) → Grow led ρ led' ρ' → ρ'[st.length]? = some (a, a) → Q a (put s h' tk')) : wpAny cx.M f.A (subDict ps) Q E s := by
  unfold subDict
  obtain ⟨o, I1, G1⟩ := alloc_dict I (s := s)
  refine wpAny_bind (wpAny_alloc ?_)
  refine wpAny_bind (wpAny_holding ?_)
  rw [if_pos h15]
  have hr : (ρ ++ [(s.heap.objs.size, s.heap.objs.size)])[st.length]? = some (s.heap.objs.size, s.heap.objs.size) := by rw [← I.len]; simp
  refine wpAny_bind ?_
  refine pairs_eval (s := put s _ s.toks) T I1 (R.mono G1) fun vs h2 tk2 led2 ρ2 I2 G2 X2 => ?_
  refine wpAny_holding (wpAny_bind ?_)
  refine pairs_store (es := []) (s := put s h2 tk2) st.length X2 I2 (G2.at hr) (by simp) (by simpa using nd) (by simpa using hl) fun h3 tk3 led3 ρ3 I3 G3 => ?_
  refine wpAny_pure (wpAny_pure (P _ _ _ _ _ (I.F.notModules hbig) ?_ ((G1.trans G2).trans G3) (G3.at (G2.at hr))))
  simpa using I3
end
end Mp
namespace Mp
section
variable {cx : Cx} {d : Nat} {sc : Sc}
theorem merge_ok {f : Fm} {s : Shared} {m led ρ st} (I : Inv cx f s.heap m led ρ st) {r r2 : Nat} {a b : Addr} (hr : ρ[r]? = some (a, a)) (hr2 : ρ[r2]? = some (b, b)) (hne : r ≠ r2) (hlo : (b == sysModules) = false) {es es2} (hst : st[r]? = some (.dict es)) (hst2 : st[r2]? = some (.dict es2))
    (h0 : es ≠ []) (nd : ((es ++ es2).map (·.1)).Nodup) (hl : (es ++ es2).length ≤ 1000) {Q : Unit → Shared → Prop} {E} (P : PostU cx f m led ρ (st.set r (.dict (es ++ es2))) Q s) :
    wpAny cx.M f.A (mergeMapping a (.ref b) false) Q E s := by
  have hab : a ≠ b := fun e => by
    subst e
    have h1 : (ρ.map (·.2))[r]? = some a := by simp [hr]
    have h2 : (ρ.map (·.2))[r2]? = some a := by simp [hr2]
    exact hne (nodup_at I.sep h1 h2)
  obtain ⟨_, o, ds, p1, p2, p3, p4⟩ := I.ob _ _ hst
  rw [hr] at p1
  cases p1
  obtain ⟨_, o2, ds2, q1, q2, q3, q4⟩ := I.ob _ _ hst2
  rw [hr2] at q1
  cases q1
  have ho2 := dict_at I q2 q3
  obtain ⟨esa, epa, _, hda, _, hpa, _⟩ := p3
  obtain ⟨arr, ep, hex, hd2, hk2, hp2, hn2⟩ := id q3
  have hgb := (I.at_ q2).1
  unfold mergeMapping
  refine wpAny_bind (wpAny_isInstance ho2.typeIs isSubtype_dict_dict ?_)
  rw [if_pos rfl]
  refine wpAny_bind (wpAny_specialOf ho2.typeIs PySem.F.slot_dict_iter.lookup ?_)
  refine wpAny_bind (wpAny_pure ?_)
  have hb : ((some (Value.builtin "dict.__iter__") : Option Value) == some (.builtin "dict.__iter__")) = true := beq_self_eq_true _
  rw [hb]
  dsimp only
  rw [if_neg (by rw [hlo]; exact Bool.false_ne_true)]
  refine wpAny_bind (wpAny_dictEntries (I.at_ p2).1 hda ?_)
  have hne0 : esa.isEmpty = false := by
    have h1 := hpa.length
    have h2 := p4.length
    have h3 : 0 < es.length := List.length_pos_iff.mpr h0
    simp only [Array.length_toList] at h1
    rw [Array.isEmpty_eq_false_iff]
    intro e
    rw [e] at h1
    simp at h1
    omega
  rw [if_neg (by rw [hne0]; exact Bool.false_ne_true)]
  refine wpAny_bind (wpAny_dictEntries hgb hd2 ?_)
  refine wpAny_bind (wpAny_dictEpoch hgb hd2 ?_)
  have hsz : arr.size = es2.length := by
    have h1 := hp2.length
    rw [q4.length]
    simpa using h1
  rw [List.range_eq_range']
  refine wpAny_bind (wpAny_mono (range_loop arr.size (fun i s' => ∃ h tk led1 ρ1, s' = put s h tk ∧ Inv cx f h m led1 ρ1 (st.set r (.dict (es ++ es2.take i))) ∧ Grow led ρ led1 ρ1 ∧ h.get? b = some o2) ?_ arr.size 0 (by omega) s ?_) (fun _ s' hJ => ?_) fun _ _ e => e)
  · rintro i s' hi ⟨h, tk, led1, ρ1, rfl, I1, G1, hb1⟩
    have hie : i < es2.length := by omega
    obtain ⟨⟨k, v⟩, hkv⟩ : ∃ kv, es2[i]? = some kv := ⟨_, List.getElem?_eq_getElem hie⟩
    obtain ⟨w, hw, X⟩ := q4.get hkv
    refine wpAny_bind (wpAny_dictEntries hb1 hd2 ?_)
    rw [Array.getElem?_eq_getElem hi]
    dsimp only
    obtain ⟨hkey, hval⟩ := hp2.get? (e := arr[i]) (by simp [hi]) hw
    obtain ⟨k', hkey', hhash⟩ := hk2 arr[i] (Array.getElem_mem hi)
    obtain rfl : k' = ⟨k.toArray⟩ := (PySem.strKind cx.prog cx.w).inj _ _ _ hkey' hkey
    have hst1 : (st.set r (.dict (es ++ es2.take i)))[r]? = some (.dict (es ++ es2.take i)) := by
      have := (List.getElem?_eq_some_iff.mp hst).1
      simp [this]
    have hr1 := G1.at hr
    obtain ⟨oo, dd, u1, u2, u3, _, u5⟩ := I1.putDict hr1 hst1 (k := k) (v := v) (w := w)
    have hmem : (k, v) ∈ es2 := List.mem_of_getElem? hkv
    have hfresh : (es ++ es2.take i).lookup k = none := by
      rw [List.lookup_eq_none_iff]
      intro q hq
      have hsplit : es ++ es2 = (es ++ es2.take i) ++ (es2.drop i) := by rw [List.append_assoc, List.take_append_drop]
      rw [hsplit, List.map_append, List.nodup_append] at nd
      have hd : (k, v) ∈ es2.drop i := by
        have : (es2.drop i)[0]? = some (k, v) := by rw [List.getElem?_drop]; simpa using hkv
        exact List.mem_of_getElem? this
      have := nd.2.2 q.1 (List.mem_map_of_mem hq) k (List.mem_map.mpr ⟨_, hd, rfl⟩)
      simpa using fun e : k = q.1 => this e.symm
    refine wpAny_bind (wpAny_holding ?_)
    rw [if_neg Bool.false_ne_true]
    rw [hhash, hval]
    have hlen1 := u3.length
    have hsml : dd.length ≤ sizeLine := by
      rw [List.length_append] at hl hlen1
      have : (es2.take i).length ≤ es2.length := by rw [List.length_take]; exact Nat.min_le_right _ _
      rw [sizeLine_eq]
      omega
    refine wp_dictPut hkey (dict_at I1 u1 u2) (u3.fresh hfresh) (fun h' hm hs => ?_) hsml
    have hb2 : h'.get? b = some o2 := (hs.2 b hab.symm).trans hb1
    refine wpAny_bind (wpAny_dictEpoch hb2 hd2 ?_)
    rw [if_neg (by simp)]
    refine wpAny_pure ⟨rfl, ?_⟩
    obtain ⟨led', I', G'⟩ := u5 (X.mono G1) hm hs
    refine ⟨h', tk, led', ρ1, rfl, ?_, G1.trans G', hb2⟩
    have e1 : es2.take (i + 1) = es2.take i ++ [(k, v)] := by rw [List.take_add_one, hkv]; rfl
    rw [e1, ← List.append_assoc]
    simpa using I'
  · refine ⟨s.heap, s.toks, led, ρ, rfl, ?_, .refl _ _, hgb⟩
    have : st.set r (.dict (es ++ es2.take 0)) = st := by
      rw [List.take_zero, List.append_nil]
      obtain ⟨h1, h2⟩ := List.getElem?_eq_some_iff.mp hst
      rw [← h2, List.set_getElem_self]
    rw [this]
    exact I
  · obtain ⟨h, tk, led1, ρ1, rfl, I1, G1, _⟩ := hJ
    refine wpAny_pure (P _ _ _ _ ?_ G1)
    rw [hsz, List.take_length] at I1
    exact I1
inductive PairsE (cx : Cx) (d : Nat) (sc : Sc) : List (Option Expr) → List Expr → List (List Nat × V) → Prop
  | nil : PairsE cx d sc [] [] []
  | cons {x : Str} {cs : List Nat} {k : Nat} {p : Pos} {e : Expr} {v : V} {ks vs es} : x = ⟨cs.toArray⟩ → SoundE cx d sc e (cE v) →
      PairsE cx d sc ks vs es → PairsE cx d sc (some (.Constant (.str x) k p) :: ks) (e :: vs) ((cs, v) :: es)
theorem each_opt (k : Expr) (ks : List (Option Expr)) (env : Env) : evalEachOpt (some k :: ks) env = some (eval k env) :: evalEachOpt ks env := by
  rfl
theorem pairs_of {ks vs es} (h : PairsE cx d sc ks vs es) {f : Fm} (ok : f.Ok cx d sc) (lo : List V) (ce : List Nat) (pos : Pos) :
    ∃ ps : List SV, (evalEachOpt ks f.ev).zip ((evalEach vs f.ev).map fun v => do let x ← v; standAt pos; pure x) = ps.map (fun p => (some p.1, p.2)) ∧ PairsT cx sc f lo ce ps es := by
  induction h with
  | nil => exact ⟨[], rfl, .nil⟩
  | @cons x cs k p e v ks vs es hx hv _ ih =>
    obtain ⟨ps, h1, h2⟩ := ih
    refine ⟨(eval (.Constant (.str x) k p) f.ev, do let x ← eval e f.ev; standAt pos; pure x) :: ps, ?_, .cons ⟨?_, ?_⟩ h2⟩
    · rw [each_opt, List.map_cons, ← h1]
      rfl
    · intro s Q E P
      subst hx
      show wpAny cx.M f.A (eval (.Constant (.str ⟨cs.toArray⟩) k p) f.ev) Q E s
      exact wpAny_Constant_str (P _ _)
    · intro s m led ρ st I R Q E P
      refine wpAny_bind (hv.1 f ok s m led ρ ⟨lo, ce, st⟩ I R _ _ rfl _ _ fun w h' tk' led' ρ' I' G' X' => wpAny_bind (wpAny_standAt (wpAny_pure (P _ _ _ _ _ I' G' X'))))
noncomputable def dictC (es : List (List Nat × V)) : SE := fun S => some (.ref (ln S.st), ad (ad S.st (.dict es)) (.dict (es.drop 17)))
theorem PairsT.append_inv {f : Fm} {lo ce} : ∀ {ps es} (T : PairsT cx sc f lo ce ps es) (n : Nat), PairsT cx sc f lo ce (ps.take n) (es.take n) ∧ PairsT cx sc f lo ce (ps.drop n) (es.drop n)
  | _, _, .nil, n => by simp; exact .nil
  | _, _, .cons a r, 0 => ⟨.nil, .cons a r⟩
  | _, _, .cons a r, n + 1 => ⟨.cons a (r.append_inv n).1, (r.append_inv n).2⟩
theorem PairsT.length {f : Fm} {lo ce} : ∀ {ps es} (T : PairsT cx sc f lo ce ps es), ps.length = es.length
  | _, _, .nil => rfl
  | _, _, .cons _ r => by simp [r.length]
theorem b_dictC {ks vs es} {pos : Pos} (h : PairsE cx d sc ks vs es) (h1 : 17 < es.length) (h2 : es.length ≤ 32) (nd : (es.map (·.1)).Nodup) : SoundE cx d sc (.Dict ks vs pos) (dictC es) := by
  refine ⟨?_⟩
  intro f ok s m led ρ S I R v st' hg Q E P
  unfold dictC at hg
  simp only [ad_eq, ln_eq, List.append_assoc, List.singleton_append] at hg
  cases hg
  obtain ⟨ps, e1, T⟩ := pairs_of h ok S.lo S.ce pos
  have hl := T.length
  show wpAny _ _ (eval (.Dict ks vs pos) f.ev) _ _ _
  rw [arm_eval_Dict, e1]
  refine wpAny_bind (wpAny_standAt ?_)
  obtain ⟨p, hp⟩ : ∃ p, ps[16]? = some p := ⟨_, List.getElem?_eq_getElem (by omega)⟩
  have hps : ps = ps.take 16 ++ p :: ps.drop 17 := by
    have h3 : ps.drop 16 = p :: ps.drop 17 := by
      have := List.drop_eq_getElem_cons (l := ps) (i := 16) (by omega)
      rw [this]
      have h4 := List.getElem?_eq_getElem (l := ps) (i := 16) (by omega)
      rw [hp] at h4
      rw [Option.some.inj h4]
    rw [← h3, List.take_append_drop]
  have ht : ps.take 17 = ps.take 16 ++ [p] := by rw [List.take_add_one, hp]; rfl
  have hd2 := display_two (ps.take 16) (ps.drop 17) p (by simp; omega) (by simp; omega) (by intro e; have := congrArg List.length e; simp at this; omega)
  rw [← hps, ← ht] at hd2
  rw [hd2]
  have hT := T.append_inv 17
  have nd' : ((es.take 17 ++ es.drop 17).map (·.1)).Nodup := by rw [List.take_append_drop]; exact nd
  have nda := nd'
  rw [List.map_append, List.nodup_append] at nda
  refine wpAny_bind (sub_long hT.1 (by simp; omega) I R nda.1 (by simp; omega) fun a h1' tk1 led1 ρ1 I1 G1 hr1 => ?_)
  refine wpAny_bind (wpAny_holding (sub_short (s := put s h1' tk1) hT.2 (by simp; omega) I1 (R.mono G1) nda.2.1 (by simp; omega) (modules_low (Top.nolimit ok.T)) fun b h2' tk2 led2 ρ2 hlo I2 G2 hr2 => ?_))
  refine wpAny_bind (wpAny_onRaise (wpAny_holding (merge_ok (s := put s h2' tk2) I2 (r := S.st.length) (r2 := (S.st ++ [Ob.dict (es.take 17)]).length) (G2.at hr1) hr2 (by simp) hlo (by simp) (by simp) ?_ nd' (by simp; omega) fun h3 tk3 led3 ρ3 I3 G3 => wpAny_pure ?_)))
  · intro e
    have := congrArg List.length e
    rw [List.length_take, List.length_nil] at this
    omega
  · refine P _ _ _ _ _ ?_ ((G1.trans G2).trans G3) (.ref _ a a (G3.at (G2.at hr1)))
    rw [List.take_append_drop] at I3
    simpa using I3
end
end Mp
namespace Mp
theorem len0 {α : Type} {ws : List α} (h : ws.length = 0) : ws = [] ∧ True := ⟨List.length_eq_zero_iff.mp h, trivial⟩
theorem lenS {α : Type} {ws : List α} {n : Nat} (h : ws.length = n + 1) : ∃ a r, ws = a :: r ∧ r.length = n := by
  match ws, h with
  | a :: r, h => exact ⟨a, r, rfl, by simpa using h⟩
theorem len1 {α : Type} {ws : List α} (h : ws.length = 1) : ∃ a, ws = [a] := by
  obtain ⟨a, r, rfl, h'⟩ := lenS h
  obtain ⟨rfl, _⟩ := len0 h'
  exact ⟨a, rfl⟩
theorem len2 {α : Type} {ws : List α} (h : ws.length = 2) : ∃ a b, ws = [a, b] := by
  obtain ⟨a, r, rfl, h'⟩ := lenS h
  obtain ⟨b, rfl⟩ := len1 h'
  exact ⟨a, b, rfl⟩
theorem len3 {α : Type} {ws : List α} (h : ws.length = 3) : ∃ a b c, ws = [a, b, c] := by
  obtain ⟨a, r, rfl, h'⟩ := lenS h
  obtain ⟨b, c, rfl⟩ := len2 h'
  exact ⟨a, b, c, rfl⟩
theorem len4 {α : Type} {ws : List α} (h : ws.length = 4) : ∃ a b c d, ws = [a, b, c, d] := by
  obtain ⟨a, r, rfl, h'⟩ := lenS h
  obtain ⟨b, c, d, rfl⟩ := len3 h'
  exact ⟨a, b, c, d, rfl⟩
theorem len5 {α : Type} {ws : List α} (h : ws.length = 5) : ∃ a b c d e, ws = [a, b, c, d, e] := by
  obtain ⟨a, r, rfl, h'⟩ := lenS h
  obtain ⟨b, c, d, e, rfl⟩ := len4 h'
  exact ⟨a, b, c, d, e, rfl⟩
theorem len6 {α : Type} {ws : List α} (h : ws.length = 6) : ∃ a b c d e f, ws = [a, b, c, d, e, f] := by
  obtain ⟨a, r, rfl, h'⟩ := lenS h
  obtain ⟨b, c, d, e, f, rfl⟩ := len5 h'
  exact ⟨a, b, c, d, e, f, rfl⟩
theorem len7 {α : Type} {ws : List α} (h : ws.length = 7) : ∃ a b c d e f g, ws = [a, b, c, d, e, f, g] := by
  obtain ⟨a, r, rfl, h'⟩ := lenS h
  obtain ⟨b, c, d, e, f, g, rfl⟩ := len6 h'
  exact ⟨a, b, c, d, e, f, g, rfl⟩
theorem bindD {cx : Cx} {fd : FuncData} {params : List Str} {ars : List Nat} {dflt : List V} {ds : List Value} (hd : ∀ led ρ, VRs cx led ρ dflt ds)
    (h : ∀ k ∈ ars, ∀ S (ws : List Value), ws.length = k → peek cx.K S (bindArgs fd ⟨ws, []⟩) = some (params.zip (ws ++ ds.drop (k + ds.length - params.length)))) :
    ∀ (h : Heap), cx.K.In h → ∀ led ρ (s : Shared) vs ws, s.heap = h → VRs cx led ρ vs ws → vs.length ∈ ars →
    ∃ es, VRs cx led ρ (dflt.drop (vs.length + dflt.length - params.length)) es ∧ BindsTo s fd ⟨ws, []⟩ (params.zip (ws ++ es)) := by
  intro hp X led ρ s vs ws hs V hl
  refine ⟨ds.drop (vs.length + dflt.length - params.length), (hd led ρ).drop _, kp_binds (hs ▸ X) fun S => ?_⟩
  rw [(hd led ρ).length]
  exact h _ hl S ws V.length.symm
theorem one_ar {P : Nat → Prop} {n : Nat} (h : P n) : ∀ k ∈ [n], P k := fun k hk => by
  rw [List.mem_singleton.mp hk]; exact h
end Mp
namespace Mp
section
variable {cx : Cx} {d : Nat} {sc : Sc}
noncomputable def cutS (v : V) (lo hi : Option Int) (st : List Ob) : Option (V × List Ob) := match v with
  | .str cs => if cs.length ≤ 100000 then some (.str (sliceL cs lo hi), st) else none
  | _ => none
noncomputable def sliS (a : SE) (lo hi : S → Option (Option Int × List Ob)) : SE := fun S => match a S with
  | some (x, st) => match lo ⟨S.lo, S.ce, st⟩ with
    | some (i, st) => match hi ⟨S.lo, S.ce, st⟩ with
      | some (j, st) => cutS x i j st
      | none => none
    | none => none
  | none => none
theorem b_sliceS {a : Expr} {lo hi : Option Expr} {ga : SE} {gl gh : S → Option (Option Int × List Ob)} {pos p : Pos} (ha : SoundE cx d sc a ga) (hl : SoundP cx d sc lo gl) (hh : SoundP cx d sc hi gh)
    (hs : ∀ o i, subscripted (.Slice lo hi none p) false o i = operate [i, o] (getItem o i)) : SoundE cx d sc (.Subscript a (.Slice lo hi none p) pos) (sliS ga gl gh) := by
  refine ⟨?_⟩
  intro f ok s m led ρ S I R v st' hg Q E P
  refine Subscript_ ?_
  unfold sliS at hg
  split at hg
  · rename_i x st1 ea
    split at hg
    · rename_i i st2 el
      split at hg
      · rename_i j st3 eh
        refine ha.1 f ok s m led ρ S I R x st1 ea _ _ fun wx h1 tk1 led1 ρ1 I1 G1 X1 => wpAny_Slice ?_
        refine hl.1 f ok (put s h1 tk1) m led1 ρ1 ⟨S.lo, S.ce, st1⟩ I1 (R.mono G1) i _ el _ _ fun wi h2 tk2 led2 ρ2 I2 G2 X2 => ?_
        refine hh.1 f ok (put s h2 tk2) m led2 ρ2 ⟨S.lo, S.ce, st2⟩ I2 (R.mono (G1.trans G2)) j _ eh _ _ fun wj h3 tk3 led3 ρ3 I3 G3 X3 => ?_
        refine evalPart_none_step ?_
        have X1' := X1.mono (G2.trans G3)
        unfold cutS at hg
        cases X1' with
        | str cs t =>
          simp only at hg
          split at hg
          · rename_i hlen
            cases hg
            refine sl_str (s := put s h3 tk3) I3.F I3.N X2 X3 (fun h' t' k F' N' => ?_) (hs _ _) (by show cs.toArray.size ≤ _; rw [List.size_toArray, sizeLine_eq]; omega)
            rw [slice_str]
            exact P _ _ _ _ _ (I3.turn F' N') ((G1.trans G2).trans G3) (.str _ _)
          · cases hg
        | _ => simp only [reduceCtorEq] at hg
      · cases hg
    · cases hg
  · cases hg
end
end Mp
namespace Mp
noncomputable def ceE (i : Nat) : SE := fun S => match gt S.ce i with
  | some k => match gt S.st k with
    | some (.cell v) => if v.isUndef then none else some (v, S.st)
    | _ => none
  | none => none
noncomputable def asgC (i : Nat) : V → S → Option S := fun v S => match gt S.ce i with
  | some k => match gt S.st k with
    | some (.cell _) => some ⟨S.lo, S.ce, pt S.st k (.cell v)⟩
    | _ => none
  | none => none
noncomputable def pick (vs : List V) : Option Nat → V
  | some i => vs.getD i .undef
  | none => .undef
noncomputable def runC (np : Nat) (ls cs : List (Option Nat)) (g : SS) : FnG := fun vs st =>
  if vs.length = np then
    match g ⟨ls.map (pick vs), List.range' (ln st) cs.length, st ++ cs.map fun o => .cell (pick vs o)⟩ with
    | some (.ret v, S) => some (v, S.st)
    | some (.next, S) => some (.none, S.st)
    | _ => none
  else none
noncomputable abbrev CloG := List Nat → FnG
noncomputable def runK (np ns : Nat) (g : SS) : CloG := fun cells vs st =>
  if vs.length = np then
    match g ⟨vs ++ List.replicate (ns - np) .undef, cells, st⟩ with
    | some (.ret v, S) => some (v, S.st)
    | some (.next, S) => some (.none, S.st)
    | _ => none
  else none
noncomputable def dyn2E (tab : Nat → Option FnG) (ct : Nat → Option CloG) (fe : SE) (a : SEs) : SE := fun S => match fe S with
  | some (.g n, st) => match tab n with
    | some g => match a ⟨S.lo, S.ce, st⟩ with
      | some (vs, st) => g vs st
      | none => none
    | none => none
  | some (.ref r, st) => match gt st r with
    | some (.clo n cells) => match ct n with
      | some g => match a ⟨S.lo, S.ce, st⟩ with
        | some (vs, st) => g cells vs st
        | none => none
      | none => none
    | _ => none
  | _ => none
noncomputable def picks (ce : List Nat) : List Nat → Option (List Nat)
  | [] => some []
  | i :: r => match gt ce i with
    | some k => match picks ce r with
      | some ks => some (k :: ks)
      | none => none
    | none => none
noncomputable def compS (item : Nat → List Ob → Option (Option V)) (t : ST) (e : SE) (ce : List Nat) : Nat → Nat → List V → List Ob → Option (List V × List Ob)
  | 0, _, _, _ => none
  | n + 1, i, acc, st => match item i st with
    | none => none
    | some none => some (acc, st)
    | some (some v) => match t ⟨[v], ce, st⟩ with
      | some (true, st) => match e ⟨[v], ce, st⟩ with
        | some (y, st) => compS item t e ce n (i + 1) (acc ++ [y]) st
        | none => none
      | some (false, st) => compS item t e ce n (i + 1) acc st
      | none => none
noncomputable def compV (g : SE) (t : ST) (e : SE) (is : List Nat) (n : Nat) : SE := fun S => match picks S.ce is with
  | some ce => match g S with
    | some (.str cs, st) => match compS (itemV (.str cs)) t e ce n 0 [] st with
      | some (ys, st) => some (.ref (ln st), ad st (.list ys))
      | none => none
    | _ => none
  | none => none
noncomputable def asgR (is : List Nat) : V → S → Option S := fun v S => match v with
  | .tup vs => if vs.length = is.length then some ⟨setAll S.lo is.reverse vs.reverse, S.ce, S.st⟩ else none
  | _ => none
noncomputable def swapS (is : List Nat) (g : SEs) : SS := asgS (asgR is) (tupE g)
noncomputable def datEq : V → V → Bool
  | .int a, .int b => a == b
  | .str a, .str b => a == b
  | _, _ => false
noncomputable def plainV : V → Bool
  | .int _ => true
  | .str s => s.all fun c => Nat.blt c 128
  | _ => false
noncomputable def tupEq : List V → List V → Bool
  | [], [] => true
  | a :: r, b :: s => datEq a b && tupEq r s
  | _, _ => false
noncomputable def neT (a b : V) (st : List Ob) : Option (V × List Ob) := match a, b with
  | .tup vs, .tup ws => if vs.all plainV && ws.all plainV then some (.bool (!tupEq vs ws), st) else none
  | _, _ => none
noncomputable def defS (ti n : Nat) (is : List Nat) (asg : V → S → Option S) : SS := fun S => match picks S.ce is with
  | some cells => match gt S.st ti with
    | some (.tab n' _) => if n' = n then (match asg (.ref (ln S.st)) ⟨S.lo, S.ce, pt S.st ti (.tab n true) ++ [.clo n cells]⟩ with
      | some S' => some (.next, S')
      | none => none) else none
    | _ => none
  | none => none
mutual
noncomputable def V.under (n : Nat) : V → Bool
  | .ref i => Nat.blt i n
  | .tup vs => V.unders n vs
  | _ => true
noncomputable def V.unders (n : Nat) : List V → Bool
  | [] => true
  | v :: r => V.under n v && V.unders n r
end
noncomputable def Ob.under (n : Nat) : Ob → Bool
  | .list vs => V.unders n vs
  | .nums _ => true
  | .inst _ fs => V.unders n fs
  | .cell v => v.under n
  | .dict es => es.all fun e => e.2.under n
  | .clo _ cells => cells.all fun k => Nat.blt k n
  | .tab _ _ => true
  | .junk => true
noncomputable def gcG (g : FnG) : FnG := fun vs st => match g vs st with
  | some (v, st') => if v.under (ln st) && (st'.take (ln st)).all (Ob.under (ln st)) then some (v, st'.take (ln st)) else some (v, st')
  | none => none
noncomputable def Fl.under (n : Nat) : Fl → Bool
  | .ret v => v.under n
  | _ => true
noncomputable def gcS (g : SS) : SS := fun S => match g S with
  | some (fl, S') => if Fl.under (ln S.st) fl && V.unders (ln S.st) S'.lo && (S'.ce.all fun k => Nat.blt k (ln S.st)) && (S'.st.take (ln S.st)).all (Ob.under (ln S.st)) then
      some (fl, ⟨S'.lo, S'.ce, S'.st.take (ln S.st)⟩) else some (fl, S')
  | none => none
noncomputable def junkL (is : List Nat) (st : List Ob) : List Ob := is.foldl (fun st i => pt st i .junk) st
noncomputable def junkS (is : List Nat) (g : SS) : SS := fun S => match g S with
  | some (fl, S') => some (fl, ⟨S'.lo, S'.ce, junkL is S'.st⟩)
  | none => none
noncomputable def dropL (is : List Nat) (lo : List V) : List V := is.foldl (fun lo i => pt lo i .undef) lo
noncomputable def dropS (is : List Nat) (g : SS) : SS := fun S => match g S with
  | some (fl, S') => some (fl, ⟨dropL is S'.lo, S'.ce, S'.st⟩)
  | none => none
end Mp
namespace Mp
section
variable {cx : Cx} {d : Nat} {sc : Sc}
structure CelName (sc : Sc) (i : Nat) (x : Str) : Prop where
  at_ : sc.cns[i]? = some x
  kind : (match sc.cs.names.lookup x with
    | some .cell => true
    | some .free => true
    | _ => false) = true
  dbg : (x == ("__debug__" : Str)) = false
  dct : (x == ("__classdict__" : Str)) = false
theorem Inv.cell_at {f : Fm} {h m led ρ st} (I : Inv cx f h m led ρ st) {k : Nat} {c : Addr} {v : V} (hst : st[k]? = some (.cell v)) (hr : ρ[k]? = some (c, c)) (hv : v.isUndef = false) :
    ∃ w, h.IsCell c (some w) ∧ VR cx led ρ v w := by
  obtain ⟨a, o, w, h1, h2, h3, h4⟩ := I.ob _ _ hst
  rw [hr] at h1
  cases h1
  rcases h4 with rfl | ⟨w', rfl, X⟩
  · cases hv
  · exact ⟨w', ⟨o, (I.at_ h2).1, h3⟩, X⟩
theorem ce_name {i : Nat} {x : Str} {pos : Pos} (h : CelName sc i x) : SoundE cx d sc (.Name x pos) (ceE i) := by
  refine ⟨?_⟩
  intro f ok s m led ρ S I R v st' hg Q E P
  unfold ceE at hg
  try simp only [gt_eq, pt_eq, ad_eq, ln_eq] at hg
  split at hg
  · rename_i k hk
    split at hg
    · rename_i v' hst
      split at hg
      · cases hg
      · rename_i hu
        cases hg
        obtain ⟨c, k', hc, hk', hr⟩ := R.cel i x h.at_
        rw [hk] at hk'
        cases hk'
        obtain ⟨w, hw, X⟩ := I.cell_at hst hr (by simpa using hu)
        have fin : Q w s := P _ _ s.toks _ _ I (.refl _ _) X
        have hkd := h.kind
        split at hkd
        · rename_i hl
          exact wpAny_Name (wpAny_loadName_cell ok.evk (ok.kind hl) hc hw fin) h.dbg
        · rename_i hl
          exact wpAny_Name (wpAny_loadName_free ok.evk (ok.kind hl) hc hw fin h.dct) h.dbg
        · cases hkd
    · cases hg
  · cases hg
structure CelOwn (sc : Sc) (i : Nat) (x : Str) : Prop where
  at_ : sc.cns[i]? = some x
  kind : sc.cs.names.lookup x = some .cell
theorem u_cell {i : Nat} {x : Str} {pos : Pos} (h : CelOwn sc i x) : SoundU cx d sc (.Name x pos) (asgC i) := by
  refine ⟨?_⟩
  intro f ok s m led ρ S I R v w X S' e Q E P
  unfold asgC at e
  try simp only [gt_eq, pt_eq, ad_eq, ln_eq] at e
  split at e
  · rename_i k hk
    split at e
    · rename_i v0 hst
      cases e
      obtain ⟨c, k', hc, hk', hr⟩ := R.cel i x h.at_
      rw [hk] at hk'
      cases hk'
      obtain ⟨a, o, w0, h1, h2, h3, h4⟩ := I.ob _ _ hst
      rw [hr] at h1
      cases h1
      have z := I.at_ h2
      refine assign_Name (wpAny_storeName_cell ok.evk (ok.kind h.kind) hc ⟨o, z.1, h3⟩ fun h' hv hs => ?_)
      obtain ⟨o', ho', hd'⟩ := hv
      obtain ⟨pre, post, e1, e2, q1, q2⟩ := (I.upd (o' := o') h2).split
      obtain ⟨I', G'⟩ := I.store hr h2 (by unfold Frz; rw [h3]) (I.F.change hs z.2.1 z.2.2) (by rw [e2]; exact news_set (e1 ▸ I.N) q1 q2 hs ho') (ob := .cell v)
        fun g => ⟨c, o', some w, hr, updL_self h2, hd', .inr ⟨w, rfl, X.mono g⟩⟩
      exact P _ _ s.toks _ _ I' G' (R.mono G')
    · cases e
  · cases e
theorem VR.under' {n : Nat} {led : Led} {ρ ρ' t : Rho} (he : ρ' = ρ ++ t) (hl : ρ.length = n) {v w} (h : VR cx led ρ' v w) : V.under n v = true → VR cx led ρ v w :=
  @VR.rec cx led ρ' (fun v w _ => V.under n v = true → VR cx led ρ v w) (fun vs ws _ => V.unders n vs = true → VRs cx led ρ vs ws) (fun _ => .none) (fun b _ => .bool b) (fun i t _ => .int i t) (fun cs t _ => .str cs t)
    (fun i a d h hu => .ref i a d (by
      have : i < n := by simpa [V.under] using hu
      subst he
      rwa [List.getElem?_append_left (by omega)] at h)) (fun n _ => .g n) (fun vs ws a k h _ r hu => .tup vs ws a k h (r (by simpa [V.under] using hu))) (fun _ => .nil)
    (fun _ _ a r hu => .cons (a (by simp [V.unders] at hu; exact hu.1)) (r (by simp [V.unders] at hu; exact hu.2))) v w h
theorem VRs.under' {n : Nat} {led : Led} {ρ ρ' t : Rho} (he : ρ' = ρ ++ t) (hl : ρ.length = n) {vs ws} (h : VRs cx led ρ' vs ws) : V.unders n vs = true → VRs cx led ρ vs ws :=
  @VRs.rec cx led ρ' (fun v w _ => V.under n v = true → VR cx led ρ v w) (fun vs ws _ => V.unders n vs = true → VRs cx led ρ vs ws) (fun _ => .none) (fun b _ => .bool b) (fun i t _ => .int i t) (fun cs t _ => .str cs t)
    (fun i a d h hu => .ref i a d (by
      have : i < n := by simpa [V.under] using hu
      subst he
      rwa [List.getElem?_append_left (by omega)] at h)) (fun n _ => .g n) (fun vs ws a k h _ r hu => .tup vs ws a k h (r (by simpa [V.under] using hu))) (fun _ => .nil)
    (fun _ _ a r hu => .cons (a (by simp [V.unders] at hu; exact hu.1)) (r (by simp [V.unders] at hu; exact hu.2))) vs ws h
theorem VR.under {n : Nat} {led : Led} {ρ t : Rho} (hl : ρ.length = n) {v w} (hu : V.under n v = true) (h : VR cx led (ρ ++ t) v w) : VR cx led ρ v w := VR.under' rfl hl h hu
theorem VRs.under {n : Nat} {led : Led} {ρ t : Rho} (hl : ρ.length = n) {vs ws} (hu : V.unders n vs = true) (h : VRs cx led (ρ ++ t) vs ws) : VRs cx led ρ vs ws := VRs.under' rfl hl h hu
theorem under_get {n : Nat} : ∀ {vs : List V} {i : Nat} {v}, V.unders n vs = true → vs[i]? = some v → V.under n v = true
  | _ :: _, 0, _, h, e => by simp at e; subst e; simp [V.unders] at h; exact h.1
  | _ :: _, i + 1, _, h, e => by simp [V.unders] at h; exact under_get h.2 (by simpa using e)
theorem CelsR.under {n : Nat} {ρ t : Rho} (hl : ρ.length = n) {cl xs ks} (hu : ks.all (fun k => Nat.blt k n) = true) (h : CelsR (ρ ++ t) cl xs ks) : CelsR ρ cl xs ks := by
  induction h with
  | nil => exact .nil
  | cons a _ ih =>
    simp only [List.all_cons, Bool.and_eq_true] at hu
    refine .cons ?_ (ih hu.2)
    have := Nat.blt_eq.mp hu.1
    rwa [List.getElem?_append_left (by omega)] at a
theorem ObR.under {n i : Nat} {led : Led} {ρ t : Rho} {o : Ob} (hl : ρ.length = n) (hi : i < n) (hu : Ob.under n o = true) (h : ObR cx led (ρ ++ t) i o) : ObR cx led ρ i o := by
  have at' : ∀ {q : Addr × Addr}, (ρ ++ t)[i]? = some q → ρ[i]? = some q := fun e => by rwa [List.getElem?_append_left (by omega)] at e
  cases o with
  | list vs =>
    obtain ⟨a, ws, k, h1, h2, h3⟩ := h
    exact ⟨a, ws, k, at' h1, h2, VRs.under hl hu h3⟩
  | nums is =>
    obtain ⟨a, ws, k, h1, h2, h3⟩ := h
    exact ⟨a, ws, k, at' h1, h2, h3⟩
  | inst c fs =>
    obtain ⟨a, d, es, k, h1, h2, h3, h4, h5⟩ := h
    exact ⟨a, d, es, k, at' h1, h2, h3, h4, h5.len, h5.nref, h5.non, h5.un, fun j x v p q r => let ⟨w, y, X⟩ := h5.got j x v p q r; ⟨w, y, VR.under hl (under_get hu q) X⟩⟩
  | cell v =>
    obtain ⟨a, o, w, h1, h2, h3, h4⟩ := h
    exact ⟨a, o, w, at' h1, h2, h3, h4.imp id fun ⟨w', e, X⟩ => ⟨w', e, VR.under hl hu X⟩⟩
  | dict es =>
    obtain ⟨a, o, ds, h1, h2, h3, h4⟩ := h
    refine ⟨a, o, ds, at' h1, h2, h3, ?_⟩
    have hu' : es.all (fun e => e.2.under n) = true := hu
    clear h3 hu h2 h1
    induction h4 with
    | nil => exact .nil
    | cons a _ ih =>
      simp only [List.all_cons, Bool.and_eq_true] at hu'
      exact .cons (VR.under hl hu'.1 a) (ih hu'.2)
  | clo k cells =>
    obtain ⟨a, cl, c', doc, pm, ctv, h1, h2, h3, h4⟩ := h
    exact ⟨a, cl, c', doc, pm, ctv, at' h1, h2, h3, CelsR.under hl hu h4⟩
  | tab k made =>
    obtain ⟨P, ps, h1, h2, h3, h4⟩ := h
    exact ⟨P, ps, at' h1, h2, h3, h4⟩
  | junk =>
    obtain ⟨a, d, o, h1, h2, h3⟩ := h
    exact ⟨a, d, o, at' h1, h2, h3⟩
theorem Inv.under {f : Fm} {h m led led0 ρ ρ' st} {n : Nat} (I : Inv cx f h m led ρ' st) (G : Grow led0 ρ led ρ') (hn : ρ.length = n) (hu : (st.take n).all (Ob.under n) = true) : Inv cx f h m led ρ (st.take n) ∧ Grow led0 ρ led ρ := by
  obtain ⟨t, rfl⟩ := G.rho
  refine ⟨⟨I.F, I.N, I.nd, ?_, ?_, fun i o e => ?_⟩, G.fz, [], by simp⟩
  · have := I.sep
    rw [List.map_append, List.nodup_append] at this
    exact this.1
  · have := I.len
    rw [List.length_append] at this
    rw [List.length_take]
    omega
  · have hi : i < n := by
      have := (List.getElem?_eq_some_iff.mp e).1
      rw [List.length_take] at this
      omega
    rw [List.getElem?_take_of_lt hi] at e
    exact ObR.under hn hi (List.all_eq_true.mp hu _ (List.mem_of_getElem? (by rw [List.getElem?_take_of_lt hi]; exact e))) (I.ob i o e)
theorem gc_ok {fv : Value} {g : FnG} (h : CallOk cx d fv g) : CallOk cx d fv (gcG g) := by
  refine ⟨?_⟩
  intro sc f ok s m led ρ st I vs ws X v st' e R P
  unfold gcG at e
  try simp only [gt_eq, pt_eq, ad_eq, ln_eq] at e
  split at e
  · rename_i v1 st1 e1
    split at e
    · rename_i hu
      cases e
      simp only [Bool.and_eq_true] at hu
      refine h.1 sc f ok s m led ρ st I vs ws X _ _ e1 _ fun w h' tk' led' ρ' I' G' X' => ?_
      obtain ⟨I2, G2⟩ := I'.under G' I.len hu.2
      obtain ⟨t, rfl⟩ := G'.rho
      exact P _ _ _ _ _ I2 G2 (VR.under I.len hu.1 X')
    · cases e
      exact h.1 sc f ok s m led ρ st I vs ws X _ _ e1 _ P
  · cases e
theorem gc_s {t : Stmt} {g : SS} (h : SoundS cx d sc t g) : SoundS cx d sc t (gcS g) := by
  refine ⟨?_⟩
  intro f ok s m led ρ S I R fl S' hg Q E P
  unfold gcS at hg
  try simp only [gt_eq, pt_eq, ad_eq, ln_eq] at hg
  split at hg
  · rename_i fl1 S1 e1
    split at hg
    · rename_i hu
      cases hg
      simp only [Bool.and_eq_true] at hu
      obtain ⟨⟨⟨hu1, hu2⟩, hu3⟩, hu4⟩ := hu
      refine h.1 f ok s m led ρ S I R _ _ e1 _ _ fun fw m' h' tk' led' ρ' I' G' R' X' => ?_
      obtain ⟨I2, G2⟩ := I'.under G' I.len hu4
      obtain ⟨t, rfl⟩ := G'.rho
      refine P _ _ _ _ _ _ I2 G2 ⟨R'.nd, R'.len, fun i x v p q r => ?_, fun i x p => ?_⟩ ?_
      · obtain ⟨w, y, X⟩ := R'.loc i x v p q r
        exact ⟨w, y, VR.under I.len (under_get hu2 q) X⟩
      · obtain ⟨c, k, y, q, r⟩ := R'.cel i x p
        refine ⟨c, k, y, q, ?_⟩
        have := Nat.blt_eq.mp (List.all_eq_true.mp hu3 _ (List.mem_of_getElem? q))
        have hl := I.len
        have hl2 := ln_eq S.st
        rwa [List.getElem?_append_left (by omega)] at r
      · cases X' with
        | next => exact .next
        | brk => exact .brk
        | cont => exact .cont
        | ret X => exact .ret (VR.under I.len hu1 X)
    · cases hg
      exact h.1 f ok s m led ρ S I R _ _ e1 _ _ P
  · cases hg
theorem Inv.junk {f : Fm} {h m led ρ st} (I : Inv cx f h m led ρ st) (i : Nat) : Inv cx f h m led ρ (st.set i .junk) := by
  refine ⟨I.F, I.N, I.nd, I.sep, by simp [I.len], fun j x e => ?_⟩
  by_cases hj : i = j
  · subst hj
    have hlt := (List.getElem?_eq_some_iff.mp e).1
    rw [List.length_set] at hlt
    rw [List.getElem?_set_self hlt] at e
    cases e
    have hr : i < ρ.length := by rw [I.len]; exact hlt
    obtain ⟨o, ho, hz⟩ := I.rho_obj ρ[i] (List.getElem_mem hr)
    exact ⟨ρ[i].1, ρ[i].2, o, List.getElem?_eq_getElem hr, ho, hz⟩
  · rw [List.getElem?_set_ne hj] at e
    exact I.ob j x e
theorem Inv.junkL {f : Fm} {h m led ρ} : ∀ (is : List Nat) {st}, Inv cx f h m led ρ st → Inv cx f h m led ρ (Mp.junkL is st)
  | [], _, I => I
  | i :: r, _, I => Inv.junkL r (by dsimp only; rw [pt_eq]; exact I.junk i)
theorem junk_s {t : Stmt} {g : SS} {is : List Nat} (h : SoundS cx d sc t g) : SoundS cx d sc t (junkS is g) := by
  refine ⟨?_⟩
  intro f ok s m led ρ S I R fl S' hg Q E P
  unfold junkS at hg
  split at hg
  · rename_i fl1 S1 e1
    cases hg
    exact h.1 f ok s m led ρ S I R _ _ e1 _ _ fun fw m' h' tk' led' ρ' I' G' R' X' => P _ _ _ _ _ _ (Inv.junkL is I') G' R' X'
  · cases hg
theorem LR.drop {f : Fm} {m led ρ lo ce} (R : LR cx sc f m led ρ lo ce) (i : Nat) : LR cx sc f m led ρ (lo.set i .undef) ce := by
  refine ⟨R.nd, by rw [List.length_set]; exact R.len, fun j x v hx hv hne => ?_, R.cel⟩
  by_cases hj : i = j
  · subst hj
    have hlt := (List.getElem?_eq_some_iff.mp hv).1
    rw [List.length_set] at hlt
    rw [List.getElem?_set_self hlt] at hv
    cases hv
    exact absurd rfl hne
  · rw [List.getElem?_set_ne hj] at hv
    exact R.loc j x v hx hv hne
theorem LR.dropL {f : Fm} {m led ρ ce} : ∀ (is : List Nat) {lo}, LR cx sc f m led ρ lo ce → LR cx sc f m led ρ (Mp.dropL is lo) ce
  | [], _, R => R
  | i :: r, _, R => LR.dropL r (by dsimp only; rw [pt_eq]; exact R.drop i)
theorem drop_s {t : Stmt} {g : SS} {is : List Nat} (h : SoundS cx d sc t g) : SoundS cx d sc t (dropS is g) := by
  refine ⟨?_⟩
  intro f ok s m led ρ S I R fl S' hg Q E P
  unfold dropS at hg
  split at hg
  · rename_i fl1 S1 e1
    cases hg
    exact h.1 f ok s m led ρ S I R _ _ e1 _ _ fun fw m' h' tk' led' ρ' I' G' R' X' => P _ _ _ _ _ _ I' G' (LR.dropL is R') X'
  · cases hg
inductive NamesX (sc : Sc) : List Str → List Nat → Prop
  | nil : NamesX sc [] []
  | cons {i x xs is} : LocName sc i x → NamesX sc xs is → NamesX sc (x :: xs) (i :: is)
theorem NamesX.append {xs is ys js} (h : NamesX sc xs is) (k : NamesX sc ys js) : NamesX sc (xs ++ ys) (is ++ js) := by
  induction h with
  | nil => exact k
  | cons a _ ih => exact .cons a ih
theorem NamesX.reverse {xs is} (h : NamesX sc xs is) : NamesX sc xs.reverse is.reverse := by
  induction h with
  | nil => exact .nil
  | cons a _ ih => rw [List.reverse_cons, List.reverse_cons]; exact ih.append (.cons a .nil)
theorem NamesX.length {xs is} (h : NamesX sc xs is) : xs.length = is.length := by
  induction h with
  | nil => rfl
  | cons _ _ ih => simp [ih]
theorem binds_in {xs is} (h : NamesX sc xs is) : ∀ {f : Fm}, f.Ok cx d sc → ∀ {s : Shared} {m led ρ} {S : S}, Inv cx f s.heap m led ρ S.st → LR cx sc f m led ρ S.lo S.ce → ∀ {vs ws}, VRs cx led ρ vs ws →
    ∀ {Q : Unit → Shared → Prop} {E}, (∀ m' h' tk' led' ρ', Inv cx f h' m' led' ρ' S.st → Grow led ρ led' ρ' → LR cx sc f m' led' ρ' (setAll S.lo is vs) S.ce → Q () (put s h' tk')) →
    wpAny cx.M f.A (assignInOrder (xs.map fun n => bindName (f.env sc) n) ws) Q E s := by
  induction h with
  | nil =>
    intro f ok s m led ρ S I R vs ws X Q E P
    show wpAny _ _ (pure ()) Q E s
    exact wpAny_pure (P _ _ s.toks _ _ I (.refl _ _) (by unfold setAll; exact R))
  | @cons i x xs is hx _ ih =>
    intro f ok s m led ρ S I R vs ws X Q E P
    cases X with
    | nil =>
      show wpAny _ _ (pure ()) Q E s
      exact wpAny_pure (P _ _ s.toks _ _ I (.refl _ _) (by unfold setAll; exact R))
    | cons X Xs =>
      rename_i v w vs ws
      show wpAny _ _ (do holding ws (bindName (f.env sc) x w); assignInOrder (xs.map fun n => bindName (f.env sc) n) ws) Q E s
      refine wpAny_bind (wpAny_holding (bindName_ (store_loc hx ok I R X fun m1 h1 tk1 led1 ρ1 I1 G1 R1 => ?_)))
      refine ih ok (s := put s h1 tk1) (S := ⟨S.lo.set i v, S.ce, S.st⟩) I1 R1 (Xs.mono G1) fun m2 h2 tk2 led2 ρ2 I2 G2 R2 => ?_
      exact P _ _ _ _ _ I2 (G1.trans G2) (by unfold setAll; rw [pt_eq]; exact R2)
theorem VRs.reverse {led ρ} {vs ws} (h : VRs cx led ρ vs ws) : VRs cx led ρ vs.reverse ws.reverse := by
  induction vs generalizing ws with
  | nil => cases h; exact .nil
  | cons v vs ih =>
    cases h with
    | cons a r =>
      rw [List.reverse_cons, List.reverse_cons]
      exact (ih r).append (.cons a .nil)
theorem s_swap {ts es : List Expr} {k k' : Nat} {tp vp pos : Pos} {xs : List Str} {is : List Nat} {g : SEs} (hn : NamesX sc xs is) (h : SoundEs cx d sc es g)
    (hs : ∀ env, swapsWithSole [.Tuple ts k tp] (.Tuple es k' vp) pos.line env = pure false) (hw : ∀ env : Env, swappedStores [.Tuple ts k tp] (.Tuple es k' vp) { env with scope := sc.cs } = pure (some xs)) :
    SoundS cx d sc (.Assign [.Tuple ts k tp] (.Tuple es k' vp) pos) (swapS is g) := by
  refine ⟨?_⟩
  intro f ok s m led ρ S I R fl S' hg Q E P
  unfold swapS asgS at hg
  split at hg
  · rename_i v st1 e1
    split at hg
    · rename_i S1 e2
      cases hg
      refine Assign_Tuple_swapped (names := xs) ?_ (hs _) (by have := hw f.ev; rw [← ok.evs] at this; exact this)
      refine (b_tup h).1 f ok s m led ρ S I R _ _ e1 _ _ fun w h1 tk1 led1 ρ1 I1 G1 X1 => ?_
      unfold asgR at e2
      split at e2
      · rename_i vs
        split at e2
        · rename_i hl
          cases e2
          cases X1 with
          | tup _ ws a n hm r =>
            refine unpackItemsN_ (s := put s h1 tk1) I1.F I1.N (tup_at ok I1 hm) ok.hh (by rw [hn.length, ← hl, r.length]; simp) fun h' F' N' => ?_
            have I' := I1.turn F' N'
            have hrev : ws.toArray.toList.reverse = ws.reverse := by simp
            rw [hrev]
            exact binds_in (s := put s h' tk1) hn.reverse ok (S := ⟨S.lo, S.ce, st1⟩) I' (R.mono G1) r.reverse fun m2 h2 tk2 led2 ρ2 I2 G2 R2 => P _ _ _ _ _ _ I2 (G1.trans G2) R2 .next
        · cases e2
      · cases e2
    · cases hg
  · cases hg
end
end Mp
namespace Mp
noncomputable def relS (scope cs : Scope) : Scope :=
  { scope with names := scope.names.map fun (n, k) => if (k == .free && cs.kind == .function && cs.names.lookup n == some .cell) then (n, .cell) else (n, k) }
theorem relS_eq (scope : Scope) (env : Env) : relabel scope env = relS scope env.scope := rfl
noncomputable def freesL (names : List (Str × NameKind)) : List Str := (names.filter fun x => x.2 == .free).map (·.1)
noncomputable def freesOf (scope : Scope) : List Str := (freesL scope.names).reverse
theorem clos_loop (env : Env) (look : Str → Addr) : ∀ (names : List (Str × NameKind)) (acc : List (Str × Addr)), (∀ x ∈ freesL names, env.cells.lookup x = some (look x)) →
    (forIn names acc (fun (p : Str × NameKind) cs => (match p with
      | (name, kind) => if kind == .free then do
          let c ← cellOf env name
          pure (ForInStep.yield ((name, c) :: cs)) else pure (ForInStep.yield cs) : Sem (ForInStep (List (Str × Addr)))))) = pure ((freesL names).reverse.map (fun n => (n, look n)) ++ acc)
  | [], acc, _ => by simp [freesL]
  | (n, k) :: r, acc, h => by
    rw [List.forIn_cons]
    by_cases hk : (k == NameKind.free) = true
    · have hn : env.cells.lookup n = some (look n) := h n (by simp [freesL, hk])
      have hr : ∀ x ∈ freesL r, env.cells.lookup x = some (look x) := fun x hx => h x (by
        simp only [freesL, List.filter_cons, hk, if_true, List.map_cons]
        exact List.mem_cons_of_mem _ hx)
      have e : freesL ((n, k) :: r) = n :: freesL r := by simp [freesL, hk]
      rw [e]
      have hc : cellOf env n = pure (look n) := by unfold cellOf; rw [hn]
      simp only [hk, if_true, hc, pure_bind]
      rw [clos_loop env look r _ hr]
      simp
    · have hr : ∀ x ∈ freesL r, env.cells.lookup x = some (look x) := fun x hx => h x (by
        simp only [freesL, List.filter_cons, hk]
        exact hx)
      have e : freesL ((n, k) :: r) = freesL r := by simp [freesL, hk]
      rw [e]
      simp only [hk, Bool.false_eq_true, if_false, pure_bind]
      rw [clos_loop env look r _ hr]
theorem closureFor_of {scope : Scope} {env : Env} {cl : List (Str × Addr)} (h1 : cl.map (·.1) = freesOf scope) (h2 : ∀ p ∈ cl, env.cells.lookup p.1 = some p.2) : closureFor scope env = pure cl := by
  have key := clos_loop env (fun x => (env.cells.lookup x).getD 0) scope.names [] (fun x hx => by
    have : x ∈ cl.map (·.1) := by rw [h1]; unfold freesOf; simpa using hx
    obtain ⟨p, hp, rfl⟩ := List.mem_map.mp this
    rw [h2 p hp]
    rfl)
  have e : (freesL scope.names).reverse.map (fun n => (n, (env.cells.lookup n).getD 0)) = cl := by
    show (freesOf scope).map _ = cl
    rw [← h1, List.map_map]
    refine (List.map_congr_left (g := id) fun p hp => ?_).trans (List.map_id cl)
    simp only [Function.comp, h2 p hp, Option.getD_some, id]
  rw [e, List.append_nil] at key
  unfold closureFor
  exact (bind_pure _).trans key
section
variable {cx : Cx} {d : Nat} {sc : Sc}
theorem cels_of {f : Fm} {m led ρ} {S : S} (R : LR cx sc f m led ρ S.lo S.ce) : ∀ {fv : List Str} {is ks : List Nat}, fv.map some = is.map (fun i => sc.cns[i]?) → picks S.ce is = some ks →
    ∃ cl, CelsR ρ cl fv ks ∧ cl.map (·.1) = fv ∧ ∀ p ∈ cl, f.ev.cells.lookup p.1 = some p.2
  | [], [], ks, _, h => by simp [picks] at h; subst h; exact ⟨[], .nil, rfl, fun p hp => nomatch hp⟩
  | [], _ :: _, _, h, _ => by simp at h
  | _ :: _, [], _, h, _ => by simp at h
  | x :: fv, i :: is, ks, h, hp => by
    simp only [List.map_cons, List.cons.injEq] at h
    unfold picks at hp
    try simp only [gt_eq, pt_eq, ad_eq, ln_eq] at hp
    split at hp
    · rename_i k hk
      split at hp
      · rename_i ks' hks
        cases hp
        obtain ⟨cl, h1, h2, h3⟩ := cels_of R h.2 hks
        obtain ⟨c, k', a1, a2, a3⟩ := R.cel i x h.1.symm
        rw [hk] at a2
        cases a2
        exact ⟨(x, c) :: cl, .cons a3 h1, by simp [h2], fun p hp => by
          rcases List.mem_cons.mp hp with rfl | hp
          · exact a1
          · exact h3 p hp⟩
      · cases hp
    · cases hp
theorem CelsR.look {ρ : Rho} {cl xs ks} (h : CelsR ρ cl xs ks) (nd : xs.Nodup) : ∀ {i : Nat} {x : Str}, xs[i]? = some x → ∃ (c : Addr) (k : Nat), cl.lookup x = some c ∧ ks[i]? = some k ∧ ρ[k]? = some (c, c) := by
  induction h with
  | nil => intro i x e; simp at e
  | @cons y c k cl xs ks a r ih =>
    intro i x e
    rw [List.nodup_cons] at nd
    cases i with
    | zero => simp at e; subst e; exact ⟨c, k, by simp, by simp, a⟩
    | succ i =>
      simp only [List.getElem?_cons_succ] at e
      obtain ⟨c', k', q1, q2, q3⟩ := ih nd.2 e
      have hne : (x == y) = false := by
        have : x ≠ y := by rintro rfl; exact nd.1 (List.mem_of_getElem? e)
        simpa using this
      exact ⟨c', k', by rw [List.lookup_cons, hne]; exact q1, by simpa using q2, q3⟩
structure SoundI (cx : Cx) (d : Nat) (sc : Sc) (ifs : List Expr) (g : ST) : Prop where
  out : ∀ (f : Fm), f.Ok cx d sc → ∀ (s : Shared) m led ρ (S₀ : S), Inv cx f s.heap m led ρ S₀.st → LR cx sc f m led ρ S₀.lo S₀.ce → ∀ b st', g S₀ = some (b, st') →
    ∀ Q E, PostT cx f m led ρ st' b Q s → wpAny cx.M f.A (forIn ifs true fun c r => if r = true then do let ok ← isTrue c f.ev (eval c f.ev); pure (ForInStep.yield ok) else pure (ForInStep.yield r)) Q E s
theorem i_one {c : Expr} {t : ST} (h : SoundT cx d sc c t) : SoundI cx d sc [c] t := by
  refine ⟨?_⟩
  intro f ok s m led ρ S I R b st' e Q E P
  exact wpAny_tests_one (h.1 f ok s m led ρ S I R b st' e Q E P)
noncomputable def compFm (f : Fm) (scope : Scope) (cl : List (Str × Addr)) (C D : Addr) (oL : Obj) (ys : List Value) : Fm :=
  { f with L := C, kept := (f.L, oL) :: (D, LCg.lst ys) :: f.kept, ev := compEnvC scope cl C f.ev }
structure CompOk (sc sc' : Sc) (scope : Scope) (x : Str) (is : List Nat) : Prop where
  cs : sc'.cs = relS scope sc.cs
  ns : sc'.ns = [x]
  cns : sc'.cns = freesOf scope
  is : (freesOf scope).map some = is.map fun i => sc.cns[i]?
  nd : (freesOf scope).Nodup
  ex : ∀ e, sc'.ex e
  kind : scope.kind = .function
  ncell : (scope.names.all fun y => decide (y.2 ≠ .cell)) = true
  loc : (scope.names.all fun y => !(y.2 == .local) || (scope.names.lookup y.1 == some .local)) = true
  at_ : scope.names.lookup x = some .local
  dbg : (x == ("__debug__" : Str)) = false
theorem compFm_ok {sc' : Sc} {scope : Scope} {x : Str} {is : List Nat} (k : CompOk sc sc' scope x is) {f : Fm} (ok : f.Ok cx d sc) {cl : List (Str × Addr)} {C D : Addr} {oL : Obj} {mo : Str → Option Value} {ys : List Value}
    (hL : NsObj oL mo) (habove : f.h₀.objs.size ≤ f.L) : (compFm f scope cl C D oL ys).Ok cx d sc' where
  hA := ok.hA
  B := ok.B
  X := ok.X
  T := ok.T
  hk := by rw [k.cs]; exact k.kind
  evs := by
    show relabel scope f.ev = _
    rw [relS_eq, ok.evs, k.cs]
  evl := rfl
  evg := ok.evg
  evb := ok.evb
  evx := k.ex _
  fek := ok.fek
  fr := by
    rcases ok.fr with h | ⟨Lr, oLr, mr, h1, h2, h3, h4⟩
    · exact .inr ⟨f.L, oL, mo, h, .head _, hL, habove⟩
    · exact .inr ⟨Lr, oLr, mr, h1, .tail _ (.tail _ h2), h3, h4⟩
  dep := ok.dep
  un := ok.un
  hh := ok.hh
end
end Mp
namespace Mp
section
variable {cx : Cx} {d : Nat} {sc : Sc}
theorem CompOk.name {sc' : Sc} {scope : Scope} {x : Str} {is : List Nat} (k : CompOk sc sc' scope x is) {f : Fm} (ok : f.Ok cx d sc) : LocName sc' 0 x where
  at_ := by rw [k.ns]; rfl
  kind := by
    rw [k.cs, ← ok.evs, ← relS_eq]
    exact lookup_relabel_local (env := f.ev) k.at_
  dbg := k.dbg
theorem Inv.with_ {f f' : Fm} {h h' m m' led ρ st} (I : Inv cx f h m led ρ st) (F : Fr f'.h₀ f'.L h' m') (N : News f'.h₀ f'.L h' (led ++ f'.kept)) (nd : ((led ++ f'.kept).map (·.1)).Nodup) : Inv cx f' h' m' led ρ st := ⟨F, N, nd, I.sep, I.len, I.ob⟩
theorem LR.blank {sc' : Sc} {scope : Scope} {x : Str} {is : List Nat} (k : CompOk sc sc' scope x is) {f : Fm} {cl : List (Str × Addr)} {ks : List Nat} {ρ : Rho} (hc : CelsR ρ cl (freesOf scope) ks) {C D : Addr} {oL : Obj} {ys : List Value} {m led} :
    LR cx sc' (compFm f scope cl C D oL ys) m led ρ [.undef] ks := by
  refine ⟨by rw [k.ns]; simp, by rw [k.ns]; rfl, fun i y v hy hv hne => ?_, fun i y hy => ?_⟩
  · cases i with
    | zero => simp at hv; exact absurd hv.symm hne
    | succ i => simp at hv
  · rw [k.cns] at hy
    exact hc.look k.nd hy
theorem Inv.acc {f : Fm} {scope : Scope} {cl : List (Str × Addr)} {C D : Addr} {oL : Obj} {ys : List Value} {y : Value} {h h' m led ρ st} (I : Inv cx (compFm f scope cl C D oL ys) h m led ρ st) (hs : Heap.SameBut D h h')
    (hD : h'.get? D = some (LCg.lst (ys ++ [y]))) : Inv cx (compFm f scope cl C D oL (ys ++ [y])) h' m led ρ st := by
  have hmem : (D, LCg.lst ys) ∈ led ++ (compFm f scope cl C D oL ys).kept := List.mem_append_right _ (.tail _ (.head _))
  have z := I.N _ hmem
  have key : (led ++ (compFm f scope cl C D oL ys).kept) = (led ++ [(f.L, oL)]) ++ (D, LCg.lst ys) :: f.kept := by simp [compFm]
  have key' : (led ++ (compFm f scope cl C D oL (ys ++ [y])).kept) = (led ++ [(f.L, oL)]) ++ (D, LCg.lst (ys ++ [y])) :: f.kept := by simp [compFm]
  have nd := I.nd
  rw [key, List.map_append, List.map_cons, List.nodup_append] at nd
  obtain ⟨n1, n2, n3⟩ := nd
  rw [List.nodup_cons] at n2
  refine ⟨I.F.change hs z.2.1 z.2.2, ?_, ?_, I.sep, I.len, I.ob⟩
  · rw [key']
    refine news_set (o := LCg.lst ys) (key ▸ I.N) (fun p hp e => n3 p.1 (List.mem_map_of_mem hp) D (.head _) e) (fun p hp e => n2.1 (by rw [← e]; exact List.mem_map_of_mem (f := (·.1)) hp)) hs hD
  · have := I.nd
    rw [key] at this
    rw [key']
    simpa using this
theorem comp_loop {item P Cc} {sc' : Sc} {scope : Scope} {x : Str} {px : Pos} {is : List Nat} {elt iter : Expr} {ifs : List Expr} {pos : Pos} {t : ST} {e : SE} (k : CompOk sc sc' scope x is) (T : ItOk cx d sc' item P Cc (.Name x px)) (ht : SoundI cx d sc' ifs t) (he : SoundE cx d sc' elt e)
    {f : Fm} (ok : f.Ok cx d sc) (hab : f.h₀.objs.size ≤ f.L) {cl : List (Str × Addr)} {ks : List Nat} {C D : Addr} {oL : Obj} {mo : Str → Option Value} (hL : NsObj oL mo) {s : Shared} {led0 ρ0} (hc0 : CelsR ρ0 cl (freesOf scope) ks)
    {it : Addr} (hit : ∀ p ∈ led0, p.1 ≠ it) {vs : List V} {st' : List Ob} {R : Result → Shared → Prop}
    (fin : ∀ h' tk' m' led' ρ' ys, Inv cx (compFm f scope cl C D oL ys) h' m' led' ρ' st' → Grow led0 ρ0 led' ρ' → VRs cx led' ρ' vs ys → R (.ok .next) (put s h' tk'))
    (n : Nat) {i : Nat} {acc : List V} {ys : List Value} {h1 : Heap} {tk1 : Nat} {m1 led1 ρ1} {st : List Ob} {o : Obj} (I1 : Inv cx (compFm f scope cl C D oL ys) h1 m1 led1 ρ1 st) (G1 : Grow led0 ρ0 led1 ρ1) (X1 : VRs cx led1 ρ1 acc ys)
    (ho : (it, o) ∈ led1) (hP : P i o) (hC : Cc led1 ρ1) (hsz : acc.length + n ≤ 100000) (hg : compS item t e ks n i acc st = some (vs, st')) :
    codeAny cx.M f.A (.compLoop (.ListComp elt [⟨.Name x px, iter, ifs, 0⟩] scope pos) 0 (.ref it) (.ref D) (compEnvC scope cl C f.ev)) R (put s h1 tk1) := by
  refine codeAny_compLoop_tests (fun n s' => ∃ h tk m1 led1 ρ1 st i o acc ys, s' = put s h tk ∧ Inv cx (compFm f scope cl C D oL ys) h m1 led1 ρ1 st ∧ Grow led0 ρ0 led1 ρ1 ∧ VRs cx led1 ρ1 acc ys ∧ (it, o) ∈ led1 ∧ P i o ∧ Cc led1 ρ1 ∧
    acc.length + n ≤ 100000 ∧ compS item t e ks n i acc st = some (vs, st')) ?_ n ⟨h1, tk1, m1, led1, ρ1, st, i, o, acc, ys, rfl, I1, G1, X1, ho, hP, hC, hsz, hg⟩
  clear hg hsz hC hP ho X1 G1 I1
  intro n s' hI
  obtain ⟨h1, tk1, m1, led1, ρ1, st, i, o, acc, ys, rfl, I1, G1, X1, ho, hP, hC, hsz, hg⟩ := hI
  obtain ⟨z1, z2⟩ := T.fz _ _ hP
  have ok' : ∀ ys, (compFm f scope cl C D oL ys).Ok cx d sc' := fun ys => compFm_ok k ok hL hab
  cases n with
  | zero => simp [compS] at hg
  | succ n =>
    unfold compS at hg
    split at hg
    · cases hg
    · rename_i ei
      cases hg
      refine T.last _ (ok' ys) (put s h1 tk1) m1 led1 ρ1 _ it i o I1 hC ho hP ei _ _ fun h' tk hx => ?_
      obtain ⟨I2, g2⟩ := I1.drop ho z1 z2 hx
      exact fin _ tk _ _ _ _ I2 (grow_drop G1 hit) (X1.mono2 g2)
    · rename_i v ei
      refine T.next _ (ok' ys) (put s h1 tk1) m1 led1 ρ1 st it i o v I1 hC ho hP ei _ _ fun w h2 o' tk2 hsb ho' hP' X => ?_
      obtain ⟨I2, g2⟩ := I1.iter ho z1 z2 hsb ho'
      have hm2 : (it, o') ∈ updL it o' led1 := updL_self ho
      obtain ⟨z1', z2'⟩ := T.fz _ _ hP'
      have G2 : Grow led0 ρ0 (updL it o' led1) ρ1 := grow_upd G1 hit
      have X2 := X1.mono2 g2
      have hC2 := T.ctx _ _ _ _ g2 hC
      have hc2 : CelsR ρ1 cl (freesOf scope) ks := hc0.mono G2.to2
      refine (u_name (cx := cx) (d := d) (k.name ok)).1 _ (ok' ys) (put s h2 tk2) m1 _ ρ1 ⟨[.undef], ks, st⟩ I2 (LR.blank k hc2) v w (X.mono2 g2) _ rfl _ _ fun m3 h3 tk3 led3 ρ3 I3 G3 R3 => ?_
      have G03 := G2.trans G3
      have hC3 := T.ctx _ _ _ _ G3.to2 hC2
      have hm3 := G3.fz _ hm2 z1'
      have X3 := X2.mono G3
      split at hg
      · rename_i st4 e4
        refine ht.1 _ (ok' ys) (put s h3 tk3) m3 led3 ρ3 ⟨[v], ks, st⟩ I3 R3 _ _ e4 _ _ fun h4 tk4 led4 ρ4 I4 G4 => ?_
        rw [if_pos rfl]
        split at hg
        · rename_i y st5 e5
          refine he.1 _ (ok' ys) (put s h4 tk4) m3 led4 ρ4 ⟨[v], ks, st4⟩ I4 (R3.mono G4) _ _ e5 _ _ fun wy h5 tk5 led5 ρ5 I5 G5 Y => ?_
          have hmem : (D, LCg.lst ys) ∈ led5 ++ (compFm f scope cl C D oL ys).kept := List.mem_append_right _ (.tail _ (.head _))
          have X5 := (X3.mono G4).mono G5
          refine append_at (I5.N _ hmem).1 (fun h6 hs6 hD6 => ?_) (by rw [sizeLine_eq, List.size_toArray, ← X5.length]; omega)
          rw [LCg.lst_snoc] at hD6
          refine ⟨n, Nat.lt_succ_self _, h6, tk5, m3, led5, ρ5, st5, i + 1, o', acc ++ [y], ys ++ [wy], rfl, I5.acc hs6 hD6, (G03.trans G4).trans G5, X5.append (.cons Y .nil), (G5.fz _ (G4.fz _ hm3 z1') z1'), hP',
            T.ctx _ _ _ _ G5.to2 (T.ctx _ _ _ _ G4.to2 hC3), by simp; omega, hg⟩
        · cases hg
      · rename_i st4 e4
        refine ht.1 _ (ok' ys) (put s h3 tk3) m3 led3 ρ3 ⟨[v], ks, st⟩ I3 R3 _ _ e4 _ _ fun h4 tk4 led4 ρ4 I4 G4 => ?_
        rw [if_neg (by decide)]
        exact ⟨n, Nat.lt_succ_self _, h4, tk4, m3, led4, ρ4, st4, i + 1, o', acc, ys, rfl, I4, G03.trans G4, X3.mono G4, G4.fz _ hm3 z1', hP', T.ctx _ _ _ _ G4.to2 hC3, by omega, hg⟩
      · cases hg
theorem comp_block {item P Cc} {sc' : Sc} {scope : Scope} {x : Str} {px : Pos} {is : List Nat} {elt iter : Expr} {ifs : List Expr} {pos : Pos} {t : ST} {e : SE} (k : CompOk sc sc' scope x is) (T : ItOk cx d sc' item P Cc (.Name x px)) (ht : SoundI cx d sc' ifs t) (he : SoundE cx d sc' elt e)
    {f : Fm} (ok : f.Ok cx d sc) {cl : List (Str × Addr)} {ks : List Nat} {s : Shared} {m led0 ρ0} (hc0 : CelsR ρ0 cl (freesOf scope) ks)
    {it : Addr} (hit : ∀ p ∈ led0, p.1 ≠ it) {vs : List V} {st st' : List Ob} {Q : Value → Shared → Prop} {E : Value → Shared → Prop}
    (n : Nat) {h1 : Heap} {tk1 : Nat} {led1 ρ1} {o : Obj} (I1 : Inv cx f h1 m led1 ρ1 st) (G1 : Grow led0 ρ0 led1 ρ1)
    (ho : (it, o) ∈ led1) (hP : P 0 o) (hself : ∀ (s : Shared) (Q : Value → Shared → Prop) E o, s.heap.get? it = some o → P 0 o → Q (.ref it) s → wpAny cx.M f.A (pyIter (.ref it)) Q E s) (hC : Cc led1 ρ1) (hsz : n ≤ 100000) (hg : compS item t e ks n 0 [] st = some (vs, st'))
    (hn : ∀ led ρ led' ρ', Grow2 led ρ led' ρ' → Cc led ρ → Cc led' ρ')
    (Pq : PostE cx f m led0 ρ0 (st' ++ [.list vs]) (.ref st'.length) Q s) :
    wpAny cx.M f.A (newList []) (fun acc s₃ => wpAny cx.M f.A (newFunctionEnv scope f.ev.globals cl [] f.ev.qual none .none (some f.ev)) (fun cenv s₄ =>
      codeAny cx.M f.A (.compStart (.ListComp elt [⟨.Name x px, iter, ifs, 0⟩] scope pos) 0 (.ref it) acc { cenv with scope := relabel scope f.ev }) (compPost cx.M f.A E none Q acc cenv.locals) s₄) E s₃) E (put s h1 tk1) := by
  have hncell : ∀ y ∈ scope.names, y.2 ≠ .cell := fun y hy => of_decide_eq_true (List.all_eq_true.mp k.ncell y hy)
  refine wpAny_newObj_type (wpAny_newFunctionEnv hncell (by intro y hy; simp at hy) (fun h₂ hns₂ hsb₂ => ?_) k.kind)
  dsimp only at hns₂ hsb₂ ⊢
  generalize hH2 : h1.push { cls := .type "list", dict := none, data := .seq ([] : List Value).toArray } = H2 at hns₂ hsb₂ ⊢
  have hC' : H2.objs.size = h1.objs.size + 1 := by rw [← hH2, Heap.size_push]
  have below : ∀ b, b < h1.objs.size → b ≠ H2.objs.size ∧ b ≠ h1.objs.size := fun b hb => ⟨by rw [hC']; exact Nat.ne_of_lt (Nat.lt_succ_of_lt hb), Nat.ne_of_lt hb⟩
  have hDC : h1.objs.size ≠ H2.objs.size := by rw [hC']; exact Nat.ne_of_lt (Nat.lt_succ_self _)
  have old : ∀ b o, h1.get? b = some o → h₂.get? b = some o := fun b o e => hsb₂.extBut b o (below b (Heap.lt_size e)).1 (Heap.get?_push_of_some _ (hH2 ▸ Heap.get?_push_of_some _ e))
  have hacc : h₂.get? h1.objs.size = some (LCg.lst []) := hsb₂.extBut _ _ hDC (Heap.get?_push_of_some _ (hH2 ▸ Heap.get?_push_size _ rfl))
  have fresh₀ : ∀ a, h1.objs.size ≤ a → f.h₀.get? a = none := fun a ha => by
    cases e : f.h₀.get? a with
    | none => rfl
    | some o' => exact absurd (Heap.lt_size (I1.F.keep a o' e)) (Nat.not_lt.mpr ha)
  have hLlt : f.L < h1.objs.size := I1.F.ns.lt
  have hleL : f.h₀.objs.size ≤ f.L := I1.F.above
  obtain ⟨oL, esL, epL, l1, l2, l3, l4⟩ := I1.F.ns
  have hNs : NsObj oL m := ⟨esL, epL, l2, l3, l4⟩
  have hlt : ∀ p ∈ led1 ++ f.kept, p.1 < h1.objs.size := fun p hp => Heap.lt_size (I1.N p hp).1
  have hL0 : f.h₀.get? f.L = none := Heap.get?_none_of_le hleL
  have I2 : Inv cx (compFm f scope cl H2.objs.size h1.objs.size oL []) h₂ (fun y => ([] : List (Str × Value)).reverse.lookup y) led1 ρ1 st := by
    refine I1.with_ ⟨hns₂, fun b o e => old b o (I1.F.keep b o e), ?_⟩ (fun p hp => ?_) ?_
    · show f.h₀.objs.size ≤ H2.objs.size
      rw [hC']
      exact Nat.le_trans hleL (Nat.le_of_lt (Nat.lt_succ_of_lt hLlt))
    · rcases List.mem_append.mp hp with hp | hp
      · have z := I1.N p (List.mem_append_left _ hp)
        exact ⟨old _ _ z.1, (below _ (hlt p (List.mem_append_left _ hp))).1, z.2.2⟩
      · rcases List.mem_cons.mp hp with rfl | hp
        · exact ⟨old _ _ l1, (below _ hLlt).1, hL0⟩
        · rcases List.mem_cons.mp hp with rfl | hp
          · exact ⟨hacc, hDC, fresh₀ _ (Nat.le_refl _)⟩
          · have z := I1.N p (List.mem_append_right _ hp)
            exact ⟨old _ _ z.1, (below _ (hlt p (List.mem_append_right _ hp))).1, z.2.2⟩
    · show ((led1 ++ (f.L, oL) :: (h1.objs.size, LCg.lst []) :: f.kept).map (·.1)).Nodup
      have nd := I1.nd
      rw [List.map_append, List.nodup_append] at nd ⊢
      obtain ⟨n1, n2, n3⟩ := nd
      refine ⟨n1, ?_, fun a ha b hb => ?_⟩
      · rw [List.map_cons, List.map_cons, List.nodup_cons, List.nodup_cons, List.mem_cons, not_or]
        refine ⟨⟨Nat.ne_of_lt hLlt, fun hm => ?_⟩, fun hm => ?_, n2⟩
        · obtain ⟨p, hp, e⟩ := List.mem_map.mp hm
          exact (I1.N p (List.mem_append_right _ hp)).2.1 e
        · obtain ⟨p, hp, e⟩ := List.mem_map.mp hm
          exact absurd (hlt p (List.mem_append_right _ hp)) (by rw [e]; exact Nat.lt_irrefl _)
      · obtain ⟨p, hp, rfl⟩ := List.mem_map.mp ha
        rw [List.map_cons, List.map_cons] at hb
        rcases List.mem_cons.mp hb with rfl | hb
        · exact (I1.N p (List.mem_append_left _ hp)).2.1
        · rcases List.mem_cons.mp hb with rfl | hb
          · exact Nat.ne_of_lt (hlt p (List.mem_append_left _ hp))
          · exact n3 p.1 (List.mem_map_of_mem hp) b hb
  have z0 : h₂.get? it = some o := old _ _ (I1.at_ ho).1
  have loop : ∀ tk, codeAny cx.M f.A (.compLoop (.ListComp elt [⟨.Name x px, iter, ifs, 0⟩] scope pos) 0 (.ref it) (.ref h1.objs.size) (compEnvC scope cl H2.objs.size f.ev)) (compPost cx.M f.A E none Q (.ref h1.objs.size) H2.objs.size) (put s h₂ tk) := fun tk => by
    refine comp_loop k T ht he ok hleL hNs (s := s) (led0 := led0) (ρ0 := ρ0) hc0 hit (vs := vs) (st' := st') (fun h' tk' m' led' ρ' ys I' G' X' => ?_) n (i := 0) (acc := []) (ys := []) I2 G1 .nil ho hP hC (by simpa using hsz) hg
    have zL := I'.N (f.L, oL) (List.mem_append_right _ (.head _))
    have zD := I'.N (h1.objs.size, LCg.lst ys) (List.mem_append_right _ (.tail _ (.head _)))
    refine ⟨m', I'.F.ns, fun h'' hs'' => ?_⟩
    have nd := I'.nd
    have hkept : (compFm f scope cl H2.objs.size h1.objs.size oL ys).kept = (f.L, oL) :: (h1.objs.size, LCg.lst ys) :: f.kept := rfl
    have hCC : (compFm f scope cl H2.objs.size h1.objs.size oL ys).L = H2.objs.size := rfl
    have h00 : (compFm f scope cl H2.objs.size h1.objs.size oL ys).h₀ = f.h₀ := rfl
    rw [hkept, List.map_append, List.nodup_append, List.map_cons, List.map_cons] at nd
    obtain ⟨n1, n2, n3⟩ := nd
    rw [List.nodup_cons, List.nodup_cons] at n2
    obtain ⟨n21, n22, n23⟩ := n2
    have keep : ∀ p ∈ led' ++ (compFm f scope cl H2.objs.size h1.objs.size oL ys).kept, h''.get? p.1 = some p.2 := fun p hp => by
      have z := I'.N p hp
      exact hs''.extBut _ _ z.2.1 z.1
    have F'' : Fr f.h₀ f.L h'' m := ⟨⟨oL, esL, epL, keep _ (List.mem_append_right _ (.head _)), l2, l3, l4⟩, fun b o e => hs''.extBut b o (fun q => by
      have hb := Heap.lt_size e
      have : b = H2.objs.size := q
      rw [this, hC'] at hb
      exact absurd (Nat.lt_trans hLlt (Nat.lt_of_succ_lt (Nat.lt_of_lt_of_le hb hleL))) (Nat.lt_irrefl _)) (I'.F.keep b o e), hleL⟩
    have hρ := I'.rho_mem
    have N'' : News f.h₀ f.L h'' ((h1.objs.size, LCg.lst ys) :: (led' ++ f.kept)) := fun p hp => by
      rcases List.mem_cons.mp hp with rfl | hp
      · exact ⟨keep _ (List.mem_append_right _ (.tail _ (.head _))), Nat.ne_of_gt hLlt, zD.2.2⟩
      · rcases List.mem_append.mp hp with hp | hp
        · exact ⟨keep p (List.mem_append_left _ hp), n3 p.1 (List.mem_map_of_mem hp) f.L (.head _), (I'.N p (List.mem_append_left _ hp)).2.2⟩
        · refine ⟨keep p (List.mem_append_right _ (.tail _ (.tail _ hp))), fun e => n21 (.tail _ (by rw [← e]; exact List.mem_map_of_mem (f := (·.1)) hp)), (I'.N p (List.mem_append_right _ (.tail _ (.tail _ hp)))).2.2⟩
    have hDled : ∀ p ∈ led' ++ f.kept, p.1 ≠ h1.objs.size := fun p hp e => by
      rcases List.mem_append.mp hp with hp | hp
      · exact n3 p.1 (List.mem_map_of_mem hp) h1.objs.size (.tail _ (.head _)) e
      · exact n22 (by rw [← e]; exact List.mem_map_of_mem (f := (·.1)) hp)
    have I3 : Inv cx f h'' m led' ρ' st' := by
      refine I'.with_ F'' (fun p hp => N'' p (.tail _ hp)) ?_
      rw [List.map_append, List.nodup_append]
      exact ⟨n1, n23, fun a ha b hb => n3 a ha b (.tail _ (.tail _ hb))⟩
    obtain ⟨I4, G4⟩ := I3.make (new := [(h1.objs.size, LCg.lst ys)]) (a := h1.objs.size) (d := h1.objs.size) (ob := .list vs) F'' N'' (by
        show (((h1.objs.size, LCg.lst ys) :: (led' ++ f.kept)).map (·.1)).Nodup
        rw [List.map_cons, List.nodup_cons]
        refine ⟨fun hm => ?_, I3.nd⟩
        obtain ⟨p, hp, e⟩ := List.mem_map.mp hm
        exact hDled p hp e)
      (fun q hq e => by
        obtain ⟨o', ho'⟩ := hρ q hq
        exact hDled _ (List.mem_append_left _ ho') e)
      ⟨h1.objs.size, ys.toArray, ys.length, by rw [← I3.len]; simp, .head _, by
        have g0 : Grow led' ρ' ((h1.objs.size, LCg.lst ys) :: led') (ρ' ++ [(h1.objs.size, h1.objs.size)]) := ⟨fun p hp _ => List.mem_cons_of_mem _ hp, ⟨_, rfl⟩⟩
        simpa using X'.mono g0⟩
    exact Pq _ _ tk' _ _ I4 (G'.trans G4) (.ref _ h1.objs.size h1.objs.size (by rw [← I3.len]; simp))
  refine codeAny_compStart_list (loop _) (hself _ _ _ o z0 hP (loop _))
end
end Mp
namespace Mp
section
variable {cx : Cx} {d : Nat} {sc : Sc}
theorem CompOk.names {sc' : Sc} {scope : Scope} {x : Str} {is : List Nat} (k : CompOk sc sc' scope x is) : ∀ y ∈ scope.names, y.2 = .local → scope.names.lookup y.1 = some .local := fun y hy hl => by
  have := List.all_eq_true.mp k.loc y hy
  rw [hl] at this
  simpa using this
theorem b_compV {sc' : Sc} {scope : Scope} {x : Str} {px : Pos} {is : List Nat} {elt iter : Expr} {ifs : List Expr} {pos : Pos} {g : SE} {t : ST} {e : SE} (n : Nat) (hi : SoundE cx d sc iter g) (ht : SoundI cx d sc' ifs t) (he : SoundE cx d sc' elt e)
    (k : CompOk sc sc' scope x is) (hn : n ≤ 100000) (hs : ∀ env v, foldedSetIterable iter env v = pure v) : SoundE cx d sc (.ListComp elt [⟨.Name x px, iter, ifs, 0⟩] scope pos) (compV g t e is n) := by
  refine ⟨?_⟩
  intro f ok s m led ρ S I R v st' hg Q E P
  unfold compV at hg
  try simp only [gt_eq, pt_eq, ad_eq, ln_eq] at hg
  split at hg
  · rename_i ks hks
    split at hg
    · rename_i cs st1 e1
      split at hg
      · rename_i ys st2 e2
        cases hg
        obtain ⟨cl, c1, c2, c3⟩ := cels_of R k.is hks
        rw [eval_ListComp]
        refine wpAny_comprehension_free (use := none) rfl (hs _) (closureFor_of c2 c3) k.kind k.names ?_
        refine hi.1 f ok s m led ρ S I R _ _ e1 _ _ fun w h1 tk1 led1 ρ1 I1 G1 X1 => ?_
        have hx0 : ∃ x, itemV (.str cs) 0 st1 = some x := by
          cases n with
          | zero => simp [compS] at e2
          | succ n =>
            unfold compS at e2
            split at e2
            · cases e2
            · exact ⟨_, ‹_›⟩
            · exact ⟨_, ‹_›⟩
        obtain ⟨x0, hx0⟩ := hx0
        cases X1 with
        | str _ tk =>
          simp only [itemV, gt_eq, pt_eq, ad_eq, ln_eq] at hx0
          split at hx0
          · rename_i hall
            refine wpAny_pyIter_ascii (by simpa using hall) ?_
            obtain ⟨I2, G2⟩ := I1.push (Fr.size_ne I1.N) (I1.F.push _) (I1.N.push I1.F ({ cls := .type "str_ascii_iterator", data := .fields #[.str ⟨cs.toArray⟩ tk, .int 0 0] } : Obj))
            exact comp_block k (it_str (cs := cs) (t := tk) (.inl fun _ _ => rfl)) ht he ok (s := s) (led0 := led1) (ρ0 := ρ1) (c1.mono G1.to2) (fun p hp => Fr.size_ne I1.N p (List.mem_append_left _ hp)) n I2 G2 (.head _) ⟨rfl, rfl⟩
              (fun s Q E o ho hP h => wpAny_pyIter_striter_ascii (i := 0) ⟨o, ho, hP.1, hP.2⟩ h) trivial hn e2 (fun _ _ _ _ _ _ => trivial) (fun w h' tk' led' ρ' I' G' => P w h' tk' led' ρ' I' (G1.trans G'))
          · cases hx0
      · cases hg
    · cases hg
  · cases hg
end
end Mp
namespace Mp
theorem bindL_not {k : Str → Option NameKind} {x : Str} : ∀ {binds : List (Str × Value)} {m : Str → Option Value}, x ∉ binds.map (·.1) → bindL k binds m x = m x
  | [], _, _ => rfl
  | (n, v) :: r, m, h => by
    simp only [List.map_cons, List.mem_cons, not_or] at h
    show bindL k r _ x = m x
    rw [bindL_not h.2]
    split
    · simp [h.1]
    · rfl
theorem bindC_not {k : Str → Option NameKind} {x : Str} : ∀ {binds : List (Str × Value)} {m : Str → Option Value}, x ∉ binds.map (·.1) → bindC k binds m x = m x
  | [], _, _ => rfl
  | (n, v) :: r, m, h => by
    simp only [List.map_cons, List.mem_cons, not_or] at h
    show bindC k r _ x = m x
    rw [bindC_not h.2]
    split
    · rfl
    · simp [h.1]
theorem bindL_get {k : Str → Option NameKind} {x : Str} {w : Value} (hk : k x = some .local) : ∀ {binds : List (Str × Value)} {m : Str → Option Value}, (binds.map (·.1)).Nodup → (x, w) ∈ binds → bindL k binds m x = some w
  | (n, v) :: r, m, nd, h => by
    simp only [List.map_cons, List.nodup_cons] at nd
    show bindL k r _ x = some w
    rcases List.mem_cons.mp h with e | h
    · cases e
      rw [bindL_not nd.1, if_pos hk]
      simp
    · exact bindL_get hk nd.2 h
theorem bindC_get {k : Str → Option NameKind} {x : Str} {w : Value} (hk : k x ≠ some .local) : ∀ {binds : List (Str × Value)} {m : Str → Option Value}, (binds.map (·.1)).Nodup → (x, w) ∈ binds → bindC k binds m x = some w
  | (n, v) :: r, m, nd, h => by
    simp only [List.map_cons, List.nodup_cons] at nd
    show bindC k r _ x = some w
    rcases List.mem_cons.mp h with e | h
    · cases e
      rw [bindC_not nd.1, if_neg hk]
      simp
    · exact bindC_get hk nd.2 h
theorem cellsFrom_at : ∀ (names : List (Str × NameKind)) (n : Nat) (acc : List (Str × Addr)), (acc.map (·.2)).Nodup → (∀ p ∈ acc, p.2 < n) → ((cellsFrom n names acc).map (·.2)).Nodup ∧ ∀ p ∈ cellsFrom n names acc, p ∈ acc ∨ n ≤ p.2
  | [], n, acc, nd, h => ⟨nd, fun p hp => .inl hp⟩
  | (y, k) :: r, n, acc, nd, h => by
    unfold cellsFrom
    split
    · obtain ⟨q1, q2⟩ := cellsFrom_at r (n + 1) ((y, n) :: acc) (by
        rw [List.map_cons, List.nodup_cons]
        exact ⟨fun hm => by obtain ⟨p, hp, e⟩ := List.mem_map.mp hm; exact absurd (h p hp) (by rw [e]; exact Nat.lt_irrefl _), nd⟩) (fun p hp => by
        rcases List.mem_cons.mp hp with rfl | hp
        · exact Nat.lt_succ_self _
        · exact Nat.lt_succ_of_lt (h p hp))
      refine ⟨q1, fun p hp => ?_⟩
      rcases q2 p hp with hp | hp
      · rcases List.mem_cons.mp hp with rfl | hp
        · exact .inr (Nat.le_refl _)
        · exact .inl hp
      · exact .inr (Nat.le_of_succ_le hp)
    · exact cellsFrom_at r n acc nd h
theorem cells_addrs {cm : Str → Option Value} {xs : List (Str × Addr)} {cells : Led} (h : CellsAre cm xs cells) : cells.map (·.1) = xs.map (·.2) := by
  induction h with
  | nil => rfl
  | cons _ _ ih => simp [ih]
section
variable {cx : Cx} {d : Nat} {sc : Sc}
inductive CelV (cx : Cx) (led : Led) (ρ : Rho) (cm : Str → Option Value) : List (Str × Addr) → List V → Prop
  | nil : CelV cx led ρ cm [] []
  | cons {x c v xs vs} : (v = .undef ∨ ∃ w, cm x = some w ∧ VR cx led ρ v w) → CelV cx led ρ cm xs vs → CelV cx led ρ cm ((x, c) :: xs) (v :: vs)
theorem CelV.mono {led led' ρ ρ' cm xs vs} (g : Grow led ρ led' ρ') (h : CelV cx led ρ cm xs vs) : CelV cx led' ρ' cm xs vs := by
  induction h with
  | nil => exact .nil
  | cons a _ ih => exact .cons (a.imp id fun ⟨w, e, X⟩ => ⟨w, e, X.mono g⟩) ih
theorem cells_in {cm : Str → Option Value} {f : Fm} {h : Heap} {m : Str → Option Value} {xs : List (Str × Addr)} {cells : Led} (H : CellsAre cm xs cells) : ∀ {led : Led} {ρ : Rho} {st : List Ob} {vs : List V}, Inv cx f h m led ρ st →
    News f.h₀ f.L h (cells ++ (led ++ f.kept)) → ((cells ++ (led ++ f.kept)).map (·.1)).Nodup → CelV cx led ρ cm xs vs →
    ∃ led', Inv cx f h m led' (ρ ++ xs.map fun p => (p.2, p.2)) (st ++ vs.map .cell) ∧ Grow led ρ led' (ρ ++ xs.map fun p => (p.2, p.2)) := by
  induction H with
  | nil =>
    intro led ρ st vs I N nd V
    cases V
    exact ⟨led, by simpa using I, by simpa using Grow.refl led ρ⟩
  | @cons x c o xs cells hd _ ih =>
    intro led ρ st vs I N nd V
    cases V with
    | @cons _ _ v _ vs hv V =>
      have nd' := nd
      rw [List.cons_append, List.map_cons, List.nodup_cons] at nd'
      have hne : ∀ p ∈ led ++ f.kept, p.1 ≠ c := fun p hp e => nd'.1 (List.mem_map.mpr ⟨p, List.mem_append_right _ hp, e⟩)
      have hn1 : (([(c, o)] ++ (led ++ f.kept)).map (·.1)).Nodup := by
        show ((c, o) :: (led ++ f.kept)).map (·.1) |>.Nodup
        rw [List.map_cons, List.nodup_cons]
        exact ⟨fun hm => by obtain ⟨p, hp, e⟩ := List.mem_map.mp hm; exact hne p hp e, I.nd⟩
      obtain ⟨I', G'⟩ := I.make (new := [(c, o)]) (a := c) (d := c) (ob := .cell v) I.F (fun p hp => N p (by
          rcases List.mem_append.mp hp with hp | hp
          · rw [List.mem_singleton.mp hp]; exact .head _
          · exact .tail _ (List.mem_append_right _ hp))) hn1
        (fun q hq e => by obtain ⟨o', ho'⟩ := I.rho_mem q hq; exact hne _ (List.mem_append_left _ ho') e)
        ⟨c, o, cm x, by rw [← I.len]; simp, .head _, hd, hv.imp id fun ⟨w, e, X⟩ => ⟨w, e, X.mono ⟨fun p hp _ => List.mem_cons_of_mem _ hp, ⟨_, rfl⟩⟩⟩⟩
      obtain ⟨led', I2, G2⟩ := ih I' (fun p hp => N p (by
          rcases List.mem_append.mp hp with hp | hp
          · exact .tail _ (List.mem_append_left _ hp)
          · rcases List.mem_cons.mp hp with rfl | hp
            · exact .head _
            · exact .tail _ (List.mem_append_right _ hp)))
        (by
          have hp : (cells ++ (c, o) :: (led ++ f.kept)).Perm ((c, o) :: (cells ++ (led ++ f.kept))) := List.perm_middle
          exact (hp.map (·.1)).nodup_iff.mpr nd) (V.mono G')
      refine ⟨led', ?_, ?_⟩
      · simpa [List.append_assoc] using I2
      · have := G'.trans G2
        simpa [List.append_assoc] using this
noncomputable def idxIn (params : List Str) (x : Str) : Option Nat := params.findIdx? (· == x)
theorem idxIn_some {params : List Str} {x : Str} {i : Nat} (h : idxIn params x = some i) : params[i]? = some x := by
  unfold idxIn at h
  obtain ⟨hlt, hc, _⟩ := List.findIdx?_eq_some_iff_getElem.mp h
  rw [List.getElem?_eq_getElem hlt]
  simpa using hc
theorem idxIn_none {params : List Str} {x : Str} (h : idxIn params x = none) : x ∉ params := by
  unfold idxIn at h
  intro hm
  have := List.findIdx?_eq_none_iff.mp h x hm
  simp at this
theorem pick_ok {led ρ} {params : List Str} {vs : List V} {ws : List Value} (X : VRs cx led ρ vs ws) (hl : vs.length = params.length) {x : Str} :
    (x ∉ params ∧ pick vs (idxIn params x) = .undef) ∨ ∃ w, (x, w) ∈ params.zip ws ∧ VR cx led ρ (pick vs (idxIn params x)) w := by
  cases h : idxIn params x with
  | none => exact .inl ⟨idxIn_none h, rfl⟩
  | some i =>
    have h1 := idxIn_some h
    have hi : i < params.length := (List.getElem?_eq_some_iff.mp h1).1
    have hv : vs[i]? = some (vs.getD i .undef) := by
      rw [List.getElem?_eq_getElem (by omega)]
      simp [List.getD, List.getElem?_eq_getElem (show i < vs.length by omega)]
    obtain ⟨w, hw, Y⟩ := X.get hv
    refine .inr ⟨w, ?_, Y⟩
    have : (params.zip ws)[i]? = some (x, w) := by
      rw [List.getElem?_zip_eq_some]
      exact ⟨h1, hw⟩
    exact List.mem_of_getElem? this
theorem code_cells {A A₀ : Around} {s : Shared} {L : Addr} {h₀ base : Heap} {m : Str → Option Value} {news : Led} {env : Env} {outer : List Env} {R : Result → Shared → Prop} {name qual : Str} {params : Arguments} {body : List Stmt} {scope : Scope} {dV kV doc pm cdv ct oc : Value} {an od : Option Addr}
    {osl : Array (Option Value)} {f : Addr} {args : Args} {binds : List (Str × Value)} (B : Below A₀ base outer h₀) (F : Fr h₀ L s.heap m) (X₀ : cx.K.In h₀) (N : News h₀ L s.heap news) (T : Top cx.p cx.loose cx.mean cx.mg cx.mb h₀) (hA : A.frames = some (env :: outer)) (hf : env.frame = some L) (hke : env.scope.kind = .function)
    (ho : cx.K.lookup f = some ⟨oc, od, .func (fnOf name qual params body scope dV kV doc pm an cdv ct), osl⟩) (hcd : codeIn cx.K cdv qual = true) (hroom : A.depth < recursionLimit)
    (hbind : BindsTo s (fnOf name qual params body scope dV kV doc pm an cdv ct) args binds) (hkind : (binds.all fun y => scope.names.lookup y.1 == some .local || scope.names.lookup y.1 == some .cell) = true)
    (hnd : ((cellsFrom 0 scope.names []).map (·.1)).Nodup)
    (h : ∀ g L' h₁ tk cells, Fr h₀ L g m → Fr g L' h₁ (bindL (envOfC qual scope L' f cdv).kindOf binds fun _ => none) → News g L' h₁ (cells ++ news) →
      CellsAre (bindC (envOfC qual scope L' f cdv).kindOf binds fun _ => none) (cellsFrom (L' + 1) scope.names []) cells → Below A base (env :: outer) g → cx.K.In g → Top cx.p cx.loose cx.mean cx.mg cx.mb g → (∀ p ∈ news, p.1 < L') →
      (∀ a o, s.heap.get? a = some o → a ∉ news.map (·.1) → g.get? a = some o) →
      wpAny cx.M (A.deeper (envOfC qual scope L' f cdv)) (execs body (envOfC qual scope L' f cdv)) (fun fl s' => LeaveK h₀ L m g R (match fl with | .ret v => v | _ => .none) s')
        (fun e s' => wpAny cx.M (A.deeper (envOfC qual scope L' f cdv)) (leaving (envOfC qual scope L' f cdv) e) (fun _ s'' => R (.error e) s'') (fun e' s'' => R (.error e') s'') s') { s with heap := h₁, toks := tk })
    (hco : scope.isCoroutine = false) (hgen : scope.isGenerator = false) (hk : scope.kind = .function) : codeAny cx.M A (.call (.ref f) args) R s := by
  obtain ⟨FG, BG, st, lv⟩ := groundX (R := R) B F N hA hf hke
  have ho' : s.heap.get? f = some _ := (X₀.keeps F.keep) _ _ ho
  have hcd' := codeRec_of (X₀.keeps F.keep) hcd
  refine codeAny_call_function hroom ho' rfl hco hgen rfl hcd' (hbind _ _ _ _ (wpAny_newFunctionEnv_cells hk (kindsX hkind _) fun env' he s' x => ?_))
  subst he
  have kept := x.toInCall.keep
  refine ⟨(T.nolimit.keeps F.keep).keeps kept, codeAny_func ?_⟩
  obtain ⟨h₁, tk, rfl, _⟩ := x.done
  have nm : ((cellsFrom (s.heap.objs.size + 1) scope.names []).map (·.1)).Nodup := by
    rw [cellsFrom_names scope.names 0 (s.heap.objs.size + 1) [] [] rfl] at hnd
    exact hnd
  obtain ⟨cells, NC, Y⟩ := Cl.news (h₀ := s.heap) (Nat.le_refl _) fun n c hm => ⟨x.cell n c (lookup_of_mem_nodup nm hm), x.above n c hm⟩
  have key := h _ s.heap.objs.size h₁ tk cells FG ⟨x.toInCall.ns, fun b o e => kept b o (of_hideAll _ e), Nat.le_of_eq (hideAll_size _ _)⟩ (fun p hp => by
      rcases List.mem_append.mp hp with hp | hp
      · refine ⟨(NC p hp).1, (NC p hp).2.1, ?_⟩
        cases q : (hideAll s.heap (news.map (·.1))).get? p.1 with
        | none => rfl
        | some o =>
          have q' := of_hideAll _ q
          rw [(NC p hp).2.2] at q'
          cases q'
      · exact ⟨kept _ _ (N p hp).1, Nat.ne_of_lt (Heap.lt_size (N p hp).1), hideAll_none _ (List.mem_map_of_mem hp)⟩)
    Y BG (X₀.keeps st) (T.keeps st) (fun p hp => Heap.lt_size (N p hp).1) (fun a o e n => hideAll_get _ e n)
  exact wpAny_mono key (fun fl s' hl => lv _ _ hl) fun _ _ y => y
structure FnKC (cx : Cx) (n : Nat) (params ns cns : List Str) (ls cs : List (Option Nat)) : Prop where
  at_ : cx.K.lookup (cx.ga n) = some ⟨(obOf cx.K (cx.ga n)).cls, (obOf cx.K (cx.ga n)).dict, .func (fdOf cx.K (cx.ga n)), (obOf cx.K (cx.ga n)).slots⟩
  isF : (fdOf cx.K (cx.ga n)).body = .stmts (stOf cx.K (cx.ga n)) ∧ (fdOf cx.K (cx.ga n)).globals = mainGlobals ∧ (fdOf cx.K (cx.ga n)).closure = [] ∧ (fdOf cx.K (cx.ga n)).builtins = builtinsNs
  code : codeIn cx.K (fdOf cx.K (cx.ga n)).code (fdOf cx.K (cx.ga n)).qualname = true
  bind : ∀ k ∈ [params.length], ∀ S (ws : List Value), ws.length = k → peek cx.K S (bindArgs (fdOf cx.K (cx.ga n)) ⟨ws, []⟩) = some (params.zip (ws ++ ([] : List Value).drop (k + ([] : List Value).length - params.length)))
  nd : ns.Nodup
  ndp : params.Nodup
  ndc : cns.Nodup
  loc : (params.all fun x => (fdOf cx.K (cx.ga n)).scope.names.lookup x == some .local || (fdOf cx.K (cx.ga n)).scope.names.lookup x == some .cell) = true
  nsl : (ns.all fun x => (fdOf cx.K (cx.ga n)).scope.names.lookup x == some .local) = true
  cnl : (cns.all fun x => (fdOf cx.K (cx.ga n)).scope.names.lookup x == some .cell) = true
  cel : (cellsFrom 0 (fdOf cx.K (cx.ga n)).scope.names []).map (·.1) = cns
  ls : ls = ns.map (idxIn params)
  cs : cs = cns.map (idxIn params)
  co : (fdOf cx.K (cx.ga n)).scope.isCoroutine = false
  gen : (fdOf cx.K (cx.ga n)).scope.isGenerator = false
  kind : (fdOf cx.K (cx.ga n)).scope.kind = .function
theorem lookup_cels {xs : List (Str × Addr)} (nd : (xs.map (·.1)).Nodup) : ∀ {i : Nat} {x : Str}, (xs.map (·.1))[i]? = some x → ∃ c, xs[i]? = some (x, c) ∧ xs.lookup x = some c := by
  induction xs with
  | nil => intro i x e; simp at e
  | cons p r ih =>
    obtain ⟨y, c⟩ := p
    intro i x e
    simp only [List.map_cons, List.nodup_cons] at nd
    cases i with
    | zero => simp at e; subst e; exact ⟨c, rfl, by simp⟩
    | succ i =>
      simp only [List.map_cons, List.getElem?_cons_succ] at e
      obtain ⟨c', q1, q2⟩ := ih nd.2 e
      have hne : (x == y) = false := by
        have : x ≠ y := by rintro rfl; exact nd.1 (List.mem_of_getElem? e)
        simpa using this
      exact ⟨c', by simpa using q1, by rw [List.lookup_cons, hne]; exact q2⟩
theorem fn_okC {n : Nat} {params ns cns : List Str} {ls cs : List (Option Nat)} (hf : FnKC cx n params ns cns ls cs) {g : SS} {ex : Env → Prop} (hb : SoundB cx d ⟨(fdOf cx.K (cx.ga n)).scope, ns, cns, ex⟩ (stOf cx.K (cx.ga n)) g)
    (hex : ∀ L, ex (envOfC (fdOf cx.K (cx.ga n)).qualname (fdOf cx.K (cx.ga n)).scope L (cx.ga n) (fdOf cx.K (cx.ga n)).code) := by intro _; trivial) :
    CallOk cx (d + 1) (.ref (cx.ga n)) (runC params.length ls cs g) := by
  have he : fdOf cx.K (cx.ga n) = fnOf (fdOf cx.K (cx.ga n)).name (fdOf cx.K (cx.ga n)).qualname (fdOf cx.K (cx.ga n)).params (stOf cx.K (cx.ga n)) (fdOf cx.K (cx.ga n)).scope (fdOf cx.K (cx.ga n)).defaults (fdOf cx.K (cx.ga n)).kwdefaults (fdOf cx.K (cx.ga n)).doc (fdOf cx.K (cx.ga n)).pyModule (fdOf cx.K (cx.ga n)).annotations (fdOf cx.K (cx.ga n)).code (fdOf cx.K (cx.ga n)).closureTuple := by
    obtain ⟨h1, h2, h3, h4⟩ := hf.isF
    unfold fnOf
    rw [← h1, ← h2, ← h3, ← h4]
  refine ⟨?_⟩
  intro sc f ok s m led ρ st I vs ws X v st' e R P
  unfold runC at e
  try simp only [gt_eq, pt_eq, ad_eq, ln_eq] at e
  split at e
  · rename_i hl
    have hlw : ws.length = params.length := by rw [← X.length, hl]
    obtain ⟨es, Xe, hbind⟩ := bindD (cx := cx) (fd := fdOf cx.K (cx.ga n)) (params := params) (ars := [params.length]) (dflt := []) (ds := []) (fun _ _ => .nil) hf.bind s.heap (ok.X.keeps I.F.keep) led ρ s vs ws rfl X (by simp [hl])
    have hes : es = [] := by
      cases es with
      | nil => rfl
      | cons a r => simp at Xe; cases Xe
    subst hes
    rw [List.append_nil] at hbind
    rw [he] at hbind
    have hz : (params.zip ws).map (·.1) = params := by
      rw [List.map_fst_zip]
      omega
    obtain ⟨Lr, mr, K2, hfr, FR, NR, ndR, back⟩ := real_frame ok I
    have ndz : ((params.zip ws).map (·.1)).Nodup := by rw [hz]; exact hf.ndp
    refine code_cells ok.B FR ok.X NR ok.T ok.hA hfr ok.fek (by rw [← he]; exact hf.at_) hf.code (Nat.lt_of_le_of_lt (Nat.le_add_right _ _) ok.dep) hbind ?_ (by rw [hf.cel]; exact hf.ndc) (fun gh L' h₁ tk₁ cells FG F' N' Y B' X' T' hlt hG => ?_) hf.co hf.gen hf.kind
    · rw [List.all_eq_true]
      intro y hy
      have : y.1 ∈ params := by
        have := List.mem_map_of_mem (f := (·.1)) hy
        rw [hz] at this
        exact this
      exact List.all_eq_true.mp hf.loc _ this
    · let sc' : Sc := ⟨(fdOf cx.K (cx.ga n)).scope, ns, cns, ex⟩
      let f' : Fm := ⟨f.A.deeper (envOfC (fdOf cx.K (cx.ga n)).qualname (fdOf cx.K (cx.ga n)).scope L' (cx.ga n) (fdOf cx.K (cx.ga n)).code), f.A, f.base, gh, f.fe :: f.outer, L', K2, envOfC (fdOf cx.K (cx.ga n)).qualname (fdOf cx.K (cx.ga n)).scope L' (cx.ga n) (fdOf cx.K (cx.ga n)).code, envOfC (fdOf cx.K (cx.ga n)).qualname (fdOf cx.K (cx.ga n)).scope L' (cx.ga n) (fdOf cx.K (cx.ga n)).code⟩
      have ok' : f'.Ok cx d sc' := ⟨Around.frames_deeper B'.stack, B', X', T', hf.kind, rfl, rfl, rfl, rfl, hex _, hf.kind, .inl rfl, by
        have := ok.dep
        show f.A.depth + 1 + d < 1000
        omega, by
        have := ok.un
        show f.A.units + 3 + 16 * d < 9800
        omega, ok.hh⟩
      have hcells := cellsFrom_at (fdOf cx.K (cx.ga n)).scope.names (L' + 1) [] (by simp) (by simp)
      have hnames : (cellsFrom (L' + 1) (fdOf cx.K (cx.ga n)).scope.names []).map (·.1) = cns := by
        rw [← hf.cel]
        exact cellsFrom_names _ _ _ [] [] rfl
      have hca := cells_addrs Y
      have I0 : Inv cx f' h₁ (bindL (envOfC (fdOf cx.K (cx.ga n)).qualname (fdOf cx.K (cx.ga n)).scope L' (cx.ga n) (fdOf cx.K (cx.ga n)).code).kindOf (params.zip ws) fun _ => none) led ρ st :=
        ⟨F', fun p hp => N' p (List.mem_append_right _ hp), ndR, I.sep, I.len, I.ob⟩
      have ndA : ((cells ++ (led ++ f'.kept)).map (·.1)).Nodup := by
        rw [List.map_append, List.nodup_append]
        refine ⟨by rw [hca]; exact hcells.1, ndR, fun a ha b hb => ?_⟩
        rw [hca] at ha
        obtain ⟨p, hp, rfl⟩ := List.mem_map.mp ha
        obtain ⟨q, hq, rfl⟩ := List.mem_map.mp hb
        rcases hcells.2 p hp with h | h
        · cases h
        · exact fun e => absurd (Nat.lt_of_lt_of_le (Nat.lt_trans (hlt q hq) (Nat.lt_succ_self _)) h) (by rw [e]; exact Nat.lt_irrefl _)
      have hkind : ∀ y, (envOfC (fdOf cx.K (cx.ga n)).qualname (fdOf cx.K (cx.ga n)).scope L' (cx.ga n) (fdOf cx.K (cx.ga n)).code).kindOf y = (fdOf cx.K (cx.ga n)).scope.names.lookup y := fun _ => rfl
      have V0 : ∀ (l : List (Str × Addr)), (∀ p ∈ l, p.1 ∈ cns) → CelV cx led ρ (bindC (envOfC (fdOf cx.K (cx.ga n)).qualname (fdOf cx.K (cx.ga n)).scope L' (cx.ga n) (fdOf cx.K (cx.ga n)).code).kindOf (params.zip ws) fun _ => none) l (l.map fun p => pick vs (idxIn params p.1)) := by
        intro l
        induction l with
        | nil => intro _; exact .nil
        | cons p r ih =>
          intro hl'
          refine .cons ?_ (ih fun q hq => hl' q (.tail _ hq))
          have hc : (fdOf cx.K (cx.ga n)).scope.names.lookup p.1 = some .cell := by
            have := List.all_eq_true.mp hf.cnl p.1 (hl' p (.head _))
            simpa using this
          rcases pick_ok X hl (x := p.1) with ⟨_, h⟩ | ⟨w, hw, Z⟩
          · exact .inl h
          · exact .inr ⟨w, bindC_get (by rw [hkind, hc]; simp) ndz hw, Z⟩
      obtain ⟨led1, I1, G1⟩ := cells_in Y I0 N' ndA (V0 _ fun p hp => by rw [← hnames]; exact List.mem_map_of_mem hp)
      have hst : st ++ ((cellsFrom (L' + 1) (fdOf cx.K (cx.ga n)).scope.names []).map fun p => pick vs (idxIn params p.1)).map .cell = st ++ cs.map fun o => .cell (pick vs o) := by
        rw [hf.cs, ← hnames]
        simp [Function.comp]
      rw [hst] at I1
      have R1 : LR cx sc' f' (bindL (envOfC (fdOf cx.K (cx.ga n)).qualname (fdOf cx.K (cx.ga n)).scope L' (cx.ga n) (fdOf cx.K (cx.ga n)).code).kindOf (params.zip ws) fun _ => none) led1
          (ρ ++ (cellsFrom (L' + 1) (fdOf cx.K (cx.ga n)).scope.names []).map fun p => (p.2, p.2)) (ls.map (pick vs)) (List.range' st.length cs.length) := by
        refine ⟨hf.nd, by rw [hf.ls]; simp [sc'], fun i x v' hx hv hne => ?_, fun i x hx => ?_⟩
        · have hx' : ns[i]? = some x := hx
          rw [hf.ls, List.map_map, List.getElem?_map, hx'] at hv
          simp only [Option.map_some, Function.comp, Option.some.injEq] at hv
          subst hv
          have hloc : (fdOf cx.K (cx.ga n)).scope.names.lookup x = some .local := by
            have := List.all_eq_true.mp hf.nsl x (List.mem_of_getElem? hx')
            simpa using this
          rcases pick_ok X hl (x := x) with ⟨_, h⟩ | ⟨w, hw, Z⟩
          · exact absurd h hne
          · exact ⟨w, bindL_get (by rw [hkind, hloc]) ndz hw, Z.mono G1⟩
        · have hx' : cns[i]? = some x := hx
          obtain ⟨c, q1, q2⟩ := lookup_cels (xs := cellsFrom (L' + 1) (fdOf cx.K (cx.ga n)).scope.names []) (by rw [hnames]; exact hf.ndc) (by rw [hnames]; exact hx')
          refine ⟨c, st.length + i, q2, ?_, ?_⟩
          · have hi : i < cs.length := by
              rw [hf.cs, List.length_map]
              exact (List.getElem?_eq_some_iff.mp hx').1
            rw [List.getElem?_range' hi]
            simp
          · rw [List.getElem?_append_right (by rw [I.len]; omega), I.len]
            have : st.length + i - st.length = i := by omega
            rw [this, List.getElem?_map, q1]
            rfl
      have fin : ∀ {w' : Value} {h2 : Heap} {tk2 : Nat} {led2 : Led} {ρ2 : Rho} {m2 : Str → Option Value}, Inv cx f' h2 m2 led2 ρ2 st' → Grow led ρ led2 ρ2 → VR cx led2 ρ2 v w' → LeaveK f.h₀ Lr mr gh R w' (put s h2 tk2) :=
        fun I2 G2 X2 => leaveK_ I2.F I2.N fun F3 N3 => by
          obtain ⟨b1, b2, b3⟩ := back _ _ F3 N3 I2.nd fun o ho => I2.F.keep _ _ (hG _ _ ho fun hm => by
            obtain ⟨p, hp, e⟩ := List.mem_map.mp hm
            exact (NR p hp).2.1 e)
          exact P _ _ _ _ _ ⟨b1, b2, b3, I2.sep, I2.len, I2.ob⟩ G2 X2
      split at e
      · rename_i v' S1 e1
        cases e
        refine hb.1 f' ok' (put s h₁ tk₁) _ led1 _ ⟨_, _, _⟩ I1 R1 _ _ e1 _ _ fun fw m2 h2 tk2 led2 ρ2 I2 G2 R2 X2 => ?_
        cases X2 with
        | ret X2 => exact fin I2 (G1.trans G2) X2
      · rename_i S1 e1
        cases e
        refine hb.1 f' ok' (put s h₁ tk₁) _ led1 _ ⟨_, _, _⟩ I1 R1 _ _ e1 _ _ fun fw m2 h2 tk2 led2 ρ2 I2 G2 R2 X2 => ?_
        cases X2
        exact fin I2 (G1.trans G2) .none
      · cases e
  · cases e
end
end Mp
namespace Mp
section
variable {cx : Cx} {d : Nat} {sc : Sc}
structure CloOk (cx : Cx) (d : Nat) (n : Nat) (g : CloG) : Prop where
  out : ∀ (sc : Sc) (f : Fm), f.Ok cx d sc → ∀ (s : Shared) m led ρ st, Inv cx f s.heap m led ρ st → ∀ (r : Nat) a e cells, ObR cx led ρ r (.clo n cells) → ρ[r]? = some (a, e) → ∀ vs ws, VRs cx led ρ vs ws → ∀ v st', g cells vs st = some (v, st') →
    ∀ R, PostE cx f m led ρ st' v (fun w s' => R (.ok (.ret w)) s') s → codeAny cx.M f.A (.call (.ref a) ⟨ws, []⟩) R s
structure FnKK (cx : Cx) (n : Nat) (params ns : List Str) : Prop where
  bind : ∀ cl doc pm c' ctv S (ws : List Value), ws.length = params.length → peek cx.K S (bindArgs (fnX (cx.cd n).name (cx.cd n).qual (cx.cd n).params (cx.cd n).body (cx.cd n).scope cl .none .none doc pm none (.ref c') ctv) ⟨ws, []⟩) = some (params.zip ws)
  pre : ∃ r, ns = params ++ r
  nd : ns.Nodup
  ndf : (cx.cd n).fv.Nodup
  loc : (params.all fun x => decide ((cx.cd n).scope.names.lookup x = some .local)) = true
  cell : ((cx.cd n).scope.names.all fun x => decide (x.2 ≠ .cell)) = true
  co : (cx.cd n).scope.isCoroutine = false
  gen : (cx.cd n).scope.isGenerator = false
  kind : (cx.cd n).scope.kind = .function
theorem clo_okK {n : Nat} {params ns : List Str} (hf : FnKK cx n params ns) {g : SS} {ex : Env → Prop} (hb : SoundB cx d ⟨(cx.cd n).scope, ns, (cx.cd n).fv, ex⟩ (cx.cd n).body g) (hex : ∀ e, ex e := by intro _; trivial) :
    CloOk cx (d + 1) n (runK params.length ns.length g) := by
  refine ⟨?_⟩
  intro sc f ok s m led ρ st I r a dd cells hst hr vs ws X v st' e R P
  unfold runK at e
  split at e
  · rename_i hl
    obtain ⟨a', cl, c', doc, pm, ctv, h1, h2, hcode, hcl⟩ := hst
    rw [hr] at h1
    cases h1
    have hlw : ws.length = params.length := by rw [← X.length, hl]
    have hX := ok.X.keeps I.F.keep
    have hbind : BindsTo s _ ⟨ws, []⟩ (params.zip ws) := kp_binds hX fun S => hf.bind cl doc pm c' ctv S ws hlw
    have ndp : params.Nodup := by
      obtain ⟨r, hr⟩ := hf.pre
      have := hf.nd
      rw [hr, List.nodup_append] at this
      exact this.1
    have hz : (params.zip ws).map (·.1) = params := by
      rw [List.map_fst_zip]
      omega
    have hncell : ∀ x ∈ (cx.cd n).scope.names, x.2 ≠ .cell := fun y hy => of_decide_eq_true (List.all_eq_true.mp hf.cell y hy)
    obtain ⟨Lr, mr, K2, hfr, FR, NR, ndR, back⟩ := real_frame ok I
    obtain ⟨FG, BG, st0, lv⟩ := groundX (R := R) ok.B FR NR ok.hA hfr ok.fek
    obtain ⟨oc, vsc, tc, k1, k2, k3⟩ := hcode
    have hrec : s.heap.CodeRec (.ref c') (cx.cd n).qual := codeRec_news I.N (List.mem_append_left _ k1) k2 k3
    refine codeAny_call_def (binds := params.zip ws) (Nat.lt_of_le_of_lt (Nat.le_add_right _ _) ok.dep) (I.at_ h2).1 rfl (ok.T.nolimit.keeps I.F.keep) hrec rfl hbind hncell (fun y hy => ?_) (fun h₁ hns hk₁ => ?_) hf.co hf.gen hf.kind
    · have : y.1 ∈ params := by
        have := List.mem_map_of_mem (f := (·.1)) hy
        rw [hz] at this
        exact this
      exact of_decide_eq_true (List.all_eq_true.mp hf.loc y.1 this)
    · let ev' : Env := envX (cx.cd n).qual (cx.cd n).scope s.heap.objs.size a (.ref c') cl
      let sc' : Sc := ⟨(cx.cd n).scope, ns, (cx.cd n).fv, ex⟩
      let gh := hideAll s.heap ((led ++ K2).map (·.1))
      let f' : Fm := ⟨f.A.deeper ev', f.A, f.base, gh, f.fe :: f.outer, s.heap.objs.size, K2, ev', ev'⟩
      have ok' : f'.Ok cx d sc' := ⟨Around.frames_deeper BG.stack, BG, ok.X.keeps st0, ok.T.keeps st0, hf.kind, rfl, rfl, rfl, rfl, hex _, hf.kind, .inl rfl, by
        have := ok.dep
        show f.A.depth + 1 + d < 1000
        omega, by
        have := ok.un
        show f.A.units + 3 + 16 * d < 9800
        omega, ok.hh⟩
      have I' : Inv cx f' h₁ (fun y => (params.zip ws).reverse.lookup y) led ρ st := ⟨⟨hns, fun b o e => hk₁ b o (of_hideAll _ e), Nat.le_of_eq (hideAll_size _ _)⟩,
        fun p hp => ⟨hk₁ _ _ (NR p hp).1, Nat.ne_of_lt (Heap.lt_size (NR p hp).1), hideAll_none _ (List.mem_map_of_mem hp)⟩, ndR, I.sep, I.len, I.ob⟩
      have R' : LR cx sc' f' (fun y => (params.zip ws).reverse.lookup y) led ρ (vs ++ List.replicate (ns.length - params.length) .undef) cells := by
        obtain ⟨r', hr'⟩ := hf.pre
        refine ⟨hf.nd, ?_, fun i x v' hx hv hne => ?_, fun i x hx => hcl.look hf.ndf hx⟩
        · show _ = ns.length
          rw [List.length_append, hl, List.length_replicate, hr', List.length_append]
          omega
        · have hx' : ns[i]? = some x := hx
          by_cases hi : i < params.length
          · rw [List.getElem?_append_left (by omega)] at hv
            rw [hr', List.getElem?_append_left hi] at hx'
            obtain ⟨w', hw, q⟩ := X.get hv
            exact ⟨w', by rw [lookup_rev (by rw [hz]; exact ndp)]; exact lookup_zip ndp hx' hw, q⟩
          · rw [List.getElem?_append_right (by omega)] at hv
            have := List.mem_of_getElem? hv
            rw [List.mem_replicate] at this
            exact absurd this.2 hne
      have fin : ∀ {w' : Value} {h2 : Heap} {tk2 : Nat} {led2 : Led} {ρ2 : Rho} {m2 : Str → Option Value}, Inv cx f' h2 m2 led2 ρ2 st' → Grow led ρ led2 ρ2 → VR cx led2 ρ2 v w' → LeaveK f.h₀ Lr mr gh R w' (put s h2 tk2) :=
        fun I2 G2 X2 => leaveK_ I2.F I2.N fun F3 N3 => by
          obtain ⟨b1, b2, b3⟩ := back _ _ F3 N3 I2.nd fun o ho => I2.F.keep _ _ (hideAll_get _ ho fun hm => by
            obtain ⟨p, hp, e⟩ := List.mem_map.mp hm
            exact (NR p hp).2.1 e)
          exact P _ _ _ _ _ ⟨b1, b2, b3, I2.sep, I2.len, I2.ob⟩ G2 X2
      split at e
      · rename_i v' S1 e1
        cases e
        refine wpAny_mono (hb.1 f' ok' (put s h₁ (s.toks + (params.zip ws).length)) _ led ρ ⟨_, cells, st⟩ I' R' _ _ e1 (fun fl s' => LeaveK f.h₀ Lr mr gh R (match fl with | .ret v => v | _ => .none) s') _ fun fw m2 h2 tk2 led2 ρ2 I2 G2 R2 X2 => ?_) (fun fl s' hl => lv _ _ hl) fun _ _ y => y
        cases X2 with
        | ret X2 => exact fin I2 G2 X2
      · rename_i S1 e1
        cases e
        refine wpAny_mono (hb.1 f' ok' (put s h₁ (s.toks + (params.zip ws).length)) _ led ρ ⟨_, cells, st⟩ I' R' _ _ e1 (fun fl s' => LeaveK f.h₀ Lr mr gh R (match fl with | .ret v => v | _ => .none) s') _ fun fw m2 h2 tk2 led2 ρ2 I2 G2 R2 X2 => ?_) (fun fl s' hl => lv _ _ hl) fun _ _ y => y
        cases X2
        exact fin I2 G2 .none
      · cases e
  · cases e
theorem CloOk.le {d' n g} (h : CloOk cx d n g) (hd : d ≤ d') : CloOk cx d' n g := ⟨fun sc f ok => h.1 sc f (ok.le hd)⟩
theorem CloOk.up {d' n g} (h : CloOk cx d n g) (hd : Nat.ble d d' = true) : CloOk cx d' n g := h.le (Nat.le_of_ble_eq_true hd)
structure CloTab (cx : Cx) (d : Nat) (ct : Nat → Option CloG) : Prop where
  call : ∀ n g, ct n = some g → CloOk cx d n g
theorem clo_nil : CloTab cx d (fun n => ([] : List (Nat × CloG)).lookup n) := ⟨fun n g h => by cases h⟩
theorem clo_cons {n : Nat} {g : CloG} {l : List (Nat × CloG)} (h : CloOk cx d n g) (r : CloTab cx d (fun n => l.lookup n)) : CloTab cx d (fun n' => ((n, g) :: l).lookup n') := by
  refine ⟨fun n' g' e => ?_⟩
  have e' : ((n, g) :: l).lookup n' = some g' := e
  rw [List.lookup_cons] at e'
  by_cases hn : n' = n
  · subst hn
    simp at e'
    exact e' ▸ h
  · have : (n' == n) = false := by simpa using hn
    rw [this] at e'
    exact r.call _ _ e'
theorem callWith_R {fv : Value} {es : List Expr} {ga : SEs} (hes : SoundEs cx d sc es ga) (hs : NoStars es)
    {f : Fm} (ok : f.Ok cx d sc) {s : Shared} {m led ρ} {S : S} (I : Inv cx f s.heap m led ρ S.st) (R : LR cx sc f m led ρ S.lo S.ce) {q : Addr} {o : Obj} (hq : fv = .ref q) (ho : (q, o) ∈ led) (hz : Frz o = true) (hfn : ∃ oc od fd sl, o = ⟨oc, od, .func fd, sl⟩)
    {vs st1} (e1 : ga S = some (vs, st1)) (hn : es = [] → vs = [] ∧ st1 = S.st) {pos : Pos} {Q E} (P : PostEs cx f m led ρ st1 vs (fun ws s' => wpAny cx.M f.A (call fv ws) Q E s') s) :
    wpAny cx.M f.A (callWith pos fv [] (backTo pos (starEach es (f.env sc))) []) Q E s := by
  subst hq
  have fnAt : ∀ {h m' led' ρ' st'}, Inv cx f h m' led' ρ' st' → Grow led ρ led' ρ' → FnAt q h := fun I' G' => by
    obtain ⟨oc, od, fd, sl, rfl⟩ := hfn
    exact FnAt.of I'.N (List.mem_append_left _ (G'.fz _ ho hz))
  have hb : ∀ (l : List (Bool × Sem Value)), (backTo pos l).any (·.1) = l.any (·.1) := by
    intro l
    show (l.map _).any _ = _
    rw [List.any_map]
    rfl
  cases es with
  | nil =>
    obtain ⟨rfl, rfl⟩ := hn rfl
    exact callWith_F0 (first := []) (fnAt I (.refl _ _)) (P _ _ s.toks _ _ I (.refl _ _) .nil)
  | cons e r =>
    have h1 := (hs (f.env sc)).2
    simp only at h1
    refine callWith_F (first := []) (fnAt I (.refl _ _)) ?_ h1 ?_
    · exact hes.1 f ok s m led ρ S I R _ _ e1 pos _ _ fun ws h1 tk1 led1 ρ1 I1 G1 X1 => ⟨fnAt I1 G1, P _ _ _ _ _ I1 G1 X1⟩
    · have := (hs (f.env sc)).1
      rw [hb]
      rw [h1, List.any_cons, Bool.or_eq_false_iff] at this
      exact this.2
theorem b_dyn2 {fe : Expr} {pos : Pos} {es : List Expr} {tab : Nat → Option FnG} {ct : Nat → Option CloG} {gf : SE} {ga : SEs} (hf : SoundE cx d sc fe gf) (ht : TabOk cx d tab) (hc : CloTab cx d ct) (hes : SoundEs cx d sc es ga) (hs : NoStars es) (hn : NilOk es ga)
    (hq : ∀ env, eval (.Call fe es [] pos) env = (do
          let f ← eval fe env
          callWith pos f [] (backTo pos (starEach es env)) (backToKw pos (keywordEach [] env)))) : SoundE cx d sc (.Call fe es [] pos) (dyn2E tab ct gf ga) := by
  refine ⟨?_⟩
  intro f ok s m led ρ S I R v st' hg' Q E P
  unfold dyn2E at hg'
  try simp only [gt_eq, pt_eq, ad_eq, ln_eq] at hg'
  split at hg'
  · rename_i n st0 e0
    split at hg'
    · rename_i g eg
      split at hg'
      · rename_i vs st1 e1
        refine Call_ (hf.1 f ok s m led ρ S I R _ _ e0 _ _ fun w h0 tk0 led0 ρ0 I0 G0 X0 => ?_) (hq _)
        cases X0
        exact callWith_any (s := put s h0 tk0) (S := ⟨S.lo, S.ce, st0⟩) hes hs (keeps_K (ht.keep _ _ eg)) ok I0 (R.mono G0) e1 (fun h => by rw [hn h] at e1; cases e1; exact ⟨rfl, rfl⟩)
          fun ws h1 tk1 led1 ρ1 I1 G1 X1 => call_ok (ht.call _ _ eg) ok (s := put s h1 tk1) I1 X1 hg' (P.next (G0.trans G1))
      · cases hg'
    · cases hg'
  · rename_i r st0 e0
    split at hg'
    · rename_i n cells hst
      split at hg'
      · rename_i g eg
        split at hg'
        · rename_i vs st1 e1
          refine Call_ (hf.1 f ok s m led ρ S I R _ _ e0 _ _ fun w h0 tk0 led0 ρ0 I0 G0 X0 => ?_) (hq _)
          cases X0 with
          | ref _ a dd hr =>
            have hob := I0.ob _ _ hst
            have hob' := hob
            obtain ⟨a', cl, c', doc, pm, ctv, h1, h2, _⟩ := hob'
            rw [hr] at h1
            cases h1
            refine callWith_R (s := put s h0 tk0) (S := ⟨S.lo, S.ce, st0⟩) hes hs ok I0 (R.mono G0) rfl h2 rfl ⟨_, _, _, _, rfl⟩ e1 (fun h => by rw [hn h] at e1; cases e1; exact ⟨rfl, rfl⟩) fun ws h1 tk1 led1 ρ1 I1 G1 X1 => ?_
            exact wpAny_call ((hc.call _ _ eg).1 sc f ok (put s h1 tk1) m _ _ _ I1 r _ _ cells (ObR.mono (i := r) G1 (fun p hp b hb => by
              rw [hr] at hb
              cases hb
              have := I0.uniq h2 hp
              exact G1.fz _ hp (this ▸ rfl)) hob) (G1.at hr) vs _ X1 _ _ hg' _ (P.next (G0.trans G1)))
        · cases hg'
      · cases hg'
    · cases hg'
  · cases hg'
end
end Mp
namespace Mp
section
variable {cx : Cx} {d : Nat} {sc : Sc}
theorem updF_of {dd : Addr} {o : Obj} : ∀ {led : Led}, (led.map (·.1)).Nodup → (dd, o) ∈ led → UpdF dd o led (fun o' => updL dd o' led) := by
  intro led
  induction led with
  | nil => intro _ h; cases h
  | cons p r ih =>
    intro nd h
    simp only [List.map_cons, List.nodup_cons] at nd
    rcases List.mem_cons.mp h with e | h
    · subst e
      have hr : ∀ q ∈ r, q.1 ≠ dd := fun q hq e => nd.1 (List.mem_map.mpr ⟨q, hq, e⟩)
      have : (fun o' => updL dd o' ((dd, o) :: r)) = fun o' => (dd, o') :: r := by
        funext o'
        show (if dd = dd then (dd, o') else (dd, o)) :: updL dd o' r = (dd, o') :: r
        rw [if_pos rfl, updL_kept hr]
      rw [this]
      exact .head hr
    · have n : p.1 ≠ dd := fun e => nd.1 (List.mem_map.mpr ⟨(dd, o), h, e.symm⟩)
      have : (fun o' => updL dd o' (p :: r)) = fun o' => p :: updL dd o' r := by
        funext o'
        show (if p.1 = dd then (dd, o') else p) :: updL dd o' r = p :: updL dd o' r
        rw [if_neg n]
      rw [this]
      exact .tail n (ih nd.2 h)
theorem Inv.storeNew {f : Fm} {h h' : Heap} {m led ρ st} (I : Inv cx f h m led ρ st) {i : Nat} {a dd : Addr} {o o' : Obj} {ob : Ob} {new : Led} (hi : ρ[i]? = some (a, dd)) (ho : (dd, o) ∈ led) (hz : Frz o = false)
    (F' : Fr f.h₀ f.L h' m) (N' : News f.h₀ f.L h' (new ++ (updL dd o' led ++ f.kept))) (hnd : ((new ++ (updL dd o' led ++ f.kept)).map (·.1)).Nodup) (R : Grow led ρ (new ++ updL dd o' led) ρ → ObR cx (new ++ updL dd o' led) ρ i ob) :
    Inv cx f h' m (new ++ updL dd o' led) ρ (st.set i ob) ∧ Grow led ρ (new ++ updL dd o' led) ρ := by
  have g : Grow led ρ (new ++ updL dd o' led) ρ := ⟨fun p hp hf => List.mem_append_right _ (updL_ne hp fun e => (by
    obtain ⟨b, x⟩ := p
    simp only at e
    subst e
    rw [I.uniq hp ho, hz] at hf
    exact Bool.noConfusion hf)), [], (by simp)⟩
  refine ⟨⟨F', by rw [List.append_assoc]; exact N', by rw [List.append_assoc]; exact hnd, I.sep, by simp [I.len], fun j x e => ?_⟩, g⟩
  by_cases hj : i = j
  · subst hj
    have := (List.getElem?_eq_some_iff.mp e).1
    rw [List.length_set] at this
    rw [List.getElem?_set_self this] at e
    exact Option.some.inj e ▸ R g
  · rw [List.getElem?_set_ne hj] at e
    refine (I.ob j x e).mono g fun p hp b hb => List.mem_append_right _ (updL_ne hp fun e' => hj ?_)
    refine nodup_at I.sep (x := dd) ?_ ?_
    · rw [List.getElem?_map, hi]; rfl
    · rw [List.getElem?_map, hb, e']; rfl
theorem Inv.newClo {f : Fm} {h : Heap} {m led ρ st} (I : Inv cx f h m led ρ st) {n : Nat} {cells : List Nat} {fa c' : Addr} {cl : List (Str × Addr)} {doc pm ctv : Value}
    (hm : (fa, fnMade (cx.cd n).name (cx.cd n).qual (cx.cd n).params (cx.cd n).body (cx.cd n).scope cl doc pm c' ctv) ∈ led) (hnew : ∀ q ∈ ρ, q.2 ≠ fa) (hc : CodeR led (cx.cd n).qual c') (hcl : CelsR ρ cl (cx.cd n).fv cells) :
    Inv cx f h m led (ρ ++ [(fa, fa)]) (st ++ [.clo n cells]) ∧ Grow led ρ led (ρ ++ [(fa, fa)]) := by
  have g : Grow led ρ led (ρ ++ [(fa, fa)]) := ⟨fun p hp _ => hp, ⟨_, rfl⟩⟩
  obtain ⟨I', G'⟩ := I.make (new := []) (a := fa) (d := fa) (ob := .clo n cells) I.F (by simpa using I.N) (by simpa using I.nd) hnew
    ⟨fa, cl, c', doc, pm, ctv, by rw [← I.len]; simp, hm, hc, hcl.mono g.to2⟩
  exact ⟨I', G'⟩
theorem s_def {name : Str} {params : Arguments} {body : List Stmt} {scope : Scope} {pos : Pos} {q : Str} {c : Addr} {ti n j : Nat} {is : List Nat} (hx : LocName sc j name) (hex : ∀ e, sc.ex e → ∃ L a cl, e = envX q sc.cs L a (.ref c) cl)
    (hcd : cx.cd n = ⟨name, q ++ (".<locals>." : Str) ++ name, params, body, scope, pos, freesOf scope, c⟩) (his : (freesOf scope).map some = is.map fun i => sc.cns[i]?)
    (hd0 : params.defaults = []) (hk0 : params.kw_defaults = []) (ha : ∀ env, annTrees params none env = []) :
    SoundS cx d sc (.FunctionDef name params body [] none [] scope none name pos) (defS ti n is (asgL j)) := by
  refine ⟨?_⟩
  intro f ok s m led ρ S I R fl S' hg Q E P
  unfold defS at hg
  try simp only [gt_eq, pt_eq, ad_eq, ln_eq] at hg
  split at hg
  · rename_i cells hks
    split at hg
    · rename_i n' made hst
      split at hg
      · rename_i hn
        subst hn
        unfold asgL at hg
        try simp only [gt_eq, pt_eq, ad_eq, ln_eq] at hg
        simp only [Option.some.injEq, Prod.mk.injEq] at hg
        obtain ⟨rfl, rfl⟩ := hg
        obtain ⟨cl, c1, c2, c3⟩ := cels_of R his hks
        obtain ⟨Lx, ax, clx, he⟩ := hex _ ok.evx
        have hLx : f.L = Lx := by rw [← ok.evl, he]
        have hclos : closureFor scope (envX q sc.cs f.L ax (.ref c) clx) = pure cl := by
          rw [hLx, ← he]
          exact closureFor_of c2 c3
        have hq : qualnameIn f.ev name name = q ++ (".<locals>." : Str) ++ name := by
          unfold qualnameIn
          have : f.ev.kindOf name = some .local := ok.kind hx.kind
          rw [this, he]
          rfl
        obtain ⟨P0, ps, h1, h2, hP, h4⟩ := I.ob _ _ hst
        have hhd : CodeHd f.h₀ c P0 := by
          have := hP f.h₀ ok.X
          rw [hcd] at this
          exact this
        refine nestDef_K hd0 hk0 (ha _) ?_
        rw [hq]
        show wpAny cx.M f.A (makeFunction name _ params (.stmts body) scope f.ev [] [] [] pos pos.line) _ E s
        have hrec : ∀ {w : Value} {h' tk led' ρ'} , Inv cx f h' m led' ρ' (S.st.set ti (.tab n' true) ++ [.clo n' cells]) → Grow led ρ led' ρ' → VR cx led' ρ' (.ref S.st.length) w →
            wpAny cx.M f.A (storeName f.ev name w) (fun _ s'' => Q .next s'') E (put s h' tk) := fun I' G' X' =>
          store_loc hx ok (s := put s _ _) (S := ⟨S.lo, S.ce, _⟩) I' (R.mono G') X' fun m2 h2 tk2 led2 ρ2 I2 G2 R2 => P _ _ _ _ _ _ I2 (G'.trans G2) R2 .next
        have hlt : ∀ q ∈ ρ, ∃ o, (q.2, o) ∈ led := I.rho_mem
        have hrl : ρ.length = S.st.length := I.len
        rcases h4 with ⟨rfl, rfl⟩ | ⟨rfl, c', rfl, hcode⟩
        · rw [he, ← hLx]
          refine nest_K I.F I.N ok.T hhd rfl (updF_of I.nd (List.mem_append_left _ h2)) trivial rfl hclos fun fa c' oc vs t ctv doc h' tk F' N' hd hv hlt1 hlt2 => ?_
          have e1 : updL P0 (tabObj (#[] ++ #[rawInt pos.line, rawInt pos.col, .ref c'])) (led ++ f.kept) = updL P0 (tabObj #[rawInt pos.line, rawInt pos.col, .ref c']) led ++ f.kept := by
            rw [I.updK h2]; rfl
          rw [e1] at N'
          have hadr : (updL P0 (tabObj #[rawInt pos.line, rawInt pos.col, .ref c']) led ++ f.kept).map (·.1) = (led ++ f.kept).map (·.1) := by rw [List.map_append, updL_fst, List.map_append]
          have hnd : (([(fa, fnMade name (q ++ (".<locals>." : Str) ++ name) params body scope cl doc ((cx.mg "__name__").getD .none) c' ctv), (c', oc)] ++ (updL P0 (tabObj #[rawInt pos.line, rawInt pos.col, .ref c']) led ++ f.kept)).map (·.1)).Nodup := by
            rw [List.map_append, hadr]
            simp only [List.map_cons, List.map_nil, List.cons_append, List.nil_append, List.nodup_cons, List.mem_cons, not_or]
            refine ⟨⟨Nat.ne_of_gt hlt2, fun hm => ?_⟩, fun hm => ?_, I.nd⟩
            · obtain ⟨p, hp, e⟩ := List.mem_map.mp hm
              exact absurd (Nat.lt_trans (hlt1 p hp) hlt2) (by rw [e]; exact Nat.lt_irrefl _)
            · obtain ⟨p, hp, e⟩ := List.mem_map.mp hm
              exact absurd (hlt1 p hp) (by rw [e]; exact Nat.lt_irrefl _)
          have hcr : ∀ {new : Led}, CodeR ([(fa, fnMade name (q ++ (".<locals>." : Str) ++ name) params body scope cl doc ((cx.mg "__name__").getD .none) c' ctv), (c', oc)] ++ new) (cx.cd n').qual c' := by
            rw [hcd]
            exact ⟨oc, vs, t, .tail _ (.head _), hd, hv⟩
          obtain ⟨I1, G1⟩ := I.storeNew (ob := .tab n' true) h1 h2 rfl F' N' hnd fun g => ⟨P0, _, h1, List.mem_append_right _ (updL_self h2), hP, .inr ⟨rfl, c', by rw [hcd], hcr⟩⟩
          obtain ⟨I2, G2⟩ := I1.newClo (n := n') (cells := cells) (fa := fa) (c' := c') (cl := cl) (doc := doc) (pm := (cx.mg "__name__").getD .none) (ctv := ctv) (by rw [hcd]; exact .head _) (fun qq hqq e => by
            obtain ⟨o, ho⟩ := hlt qq hqq
            exact absurd (Nat.lt_trans (hlt1 _ (List.mem_append_left _ ho)) hlt2) (by rw [e]; exact Nat.lt_irrefl _)) hcr (by rw [hcd]; exact c1)
          exact hrec I2 (G1.trans G2) (.ref _ fa fa (by rw [← hrl]; simp))
        · rw [he, ← hLx]
          have htri : TriplesOk (#[rawInt (cx.cd n').pos.line, rawInt (cx.cd n').pos.col, Value.ref c'] : Array Value).toList := trivial
          have hfound : codeAmong pos (#[rawInt (cx.cd n').pos.line, rawInt (cx.cd n').pos.col, Value.ref c'] : Array Value).toList = some (.ref c') := by
            rw [hcd]
            simp [codeAmong, rawInt]
          refine nestHit_K I.F I.N ok.T hhd rfl (List.mem_append_left _ h2) htri hfound hclos fun fa ctv doc h' tk F' N' hlt1 => ?_
          obtain ⟨I1, G1⟩ := I.push (a := fa) (fun p hp => Nat.ne_of_lt (hlt1 p hp)) F' N'
          obtain ⟨I2, G2⟩ := I1.newClo (n := n') (cells := cells) (fa := fa) (c' := c') (cl := cl) (doc := doc) (pm := (cx.mg "__name__").getD .none) (ctv := ctv) (by rw [hcd]; exact .head _) (fun qq hqq e => by
            obtain ⟨o, ho⟩ := hlt qq hqq
            exact absurd (hlt1 _ (List.mem_append_left _ ho)) (by rw [e]; exact Nat.lt_irrefl _)) (hcode.mono G1.to2) (by rw [hcd]; exact c1)
          have hset : S.st.set ti (.tab n' true) = S.st := by
            obtain ⟨hlt', e⟩ := List.getElem?_eq_some_iff.mp hst
            rw [← e]
            exact List.set_getElem_self hlt'
          rw [hset] at hrec
          exact hrec I2 (G1.trans G2) (.ref _ fa fa (by rw [← hrl]; simp))
      · cases hg
    · cases hg
  · cases hg
end
end Mp
namespace Mp
section
variable {cx : Cx} {d : Nat} {sc : Sc}
noncomputable def datOf : V → PyData
  | .int i => .int i
  | .str s => .str ⟨s.toArray⟩
  | _ => .none
theorem dat_reads {led ρ} {h : Heap} : ∀ {vs ws}, VRs cx led ρ vs ws → vs.all plainV = true → ReadsAll h ws (vs.map datOf) []
  | _, _, .nil, _ => .nil
  | _, _, .cons a r, e => by
    simp only [List.all_cons, Bool.and_eq_true] at e
    have h2 := dat_reads (h := h) r e.2
    cases a with
    | int i t => exact .cons (as := []) (.int i t) h2
    | str cs t => exact .cons (as := []) (.str _ t) h2
    | _ => exact absurd e.1 (by simp [plainV])
theorem dat_lay : ∀ {vs : List V}, vs.all plainV = true → PyData.canLayAll0 (vs.map datOf) = true ∧ PyData.depthAll (vs.map datOf) = 0
  | [], _ => ⟨rfl, rfl⟩
  | v :: r, e => by
    simp only [List.all_cons, Bool.and_eq_true] at e
    obtain ⟨h1, h2⟩ := dat_lay e.2
    cases v with
    | int i => exact ⟨by simp [PyData.canLayAll0, PyData.canLay0, datOf, h1], by simp [PyData.depthAll, PyData.depth, datOf, h2]⟩
    | str s =>
      have hs : s.all (fun c => Nat.blt c 128) = true := e.1
      have : PyData.strOk ⟨s.toArray⟩ = true := by
        unfold PyData.strOk
        rw [List.all_toArray, List.all_eq_true]
        intro c hc
        rw [decide_eq_true_eq]
        have := Nat.blt_eq.mp (List.all_eq_true.mp hs c hc)
        omega
      exact ⟨by simp [PyData.canLayAll0, PyData.canLay0, datOf, h1, this], by simp [PyData.depthAll, PyData.depth, datOf, h2]⟩
    | _ => exact absurd e.1 (by simp [plainV])
theorem dat_shaped {vs : List V} (h : vs.all plainV = true) : SeqAt.shaped (.tuple (vs.map datOf)) = true := by
  obtain ⟨h1, h2⟩ := dat_lay h
  simp [SeqAt.shaped, PyData.canLay0, PyData.depth, h1, h2]
theorem dat_eq {a b : V} (ha : plainV a = true) (hb : plainV b = true) : PyData.eqv (datOf a) (datOf b) = datEq a b := by
  cases a with
  | int i => cases b with
    | int j => simp [datOf, datEq, PyData.eqv]
    | str s => simp [datOf, datEq, PyData.eqv]
    | _ => exact absurd hb (by simp [plainV])
  | str s => cases b with
    | int j => simp [datOf, datEq, PyData.eqv]
    | str t => simp only [datOf, datEq, PyData.eqv]; exact strEq s t
    | _ => exact absurd hb (by simp [plainV])
  | _ => exact absurd ha (by simp [plainV])
theorem dat_eqs : ∀ {vs ws : List V}, vs.all plainV = true → ws.all plainV = true → PyData.eqvAll (vs.map datOf) (ws.map datOf) = tupEq vs ws
  | [], [], _, _ => by simp [PyData.eqvAll, tupEq]
  | [], _ :: _, _, _ => by simp [PyData.eqvAll, tupEq]
  | _ :: _, [], _, _ => by simp [PyData.eqvAll, tupEq]
  | a :: r, b :: s, h1, h2 => by
    simp only [List.all_cons, Bool.and_eq_true] at h1 h2
    simp only [List.map_cons, PyData.eqvAll, tupEq]
    rw [dat_eq h1.1 h2.1, dat_eqs h1.2 h2.2]
theorem tup_reads {f : Fm} (ok : f.Ok cx d sc) {h m led ρ st} (I : Inv cx f h m led ρ st) {vs : List V} {w : Value} (X : VR cx led ρ (.tup vs) w) (hp : vs.all plainV = true) : Reads h w (.tuple (vs.map datOf)) [] := by
  cases X with
  | tup _ ws a n hm r =>
    obtain ⟨o, h1, h2, k, h3⟩ := tup_at ok I hm
    exact .tuple h1 h2 h3 (dat_reads r hp)
theorem units_ok {f : Fm} (ok : f.Ok cx d sc) : f.A.units + 64 < cLine := by
  have h1 := ok.un
  have h2 : (9900 : Nat) ≤ cLine := by decide
  omega
theorem binh_neT : BinH cx neT (compareOp .NotEq) := by
  intro d sc f ok s m led ρ st I x y z st' wx wy X Y e Q E P
  unfold neT at e
  split at e
  · split at e
    · rename_i vs ws hp
      cases e
      simp only [Bool.and_eq_true] at hp
      refine ne_dataH (tup_reads ok I X hp.1) (tup_reads ok I Y hp.2) (dat_shaped hp.1) (dat_shaped hp.2) (units_ok ok) ?_
      have : PyData.eqv (.tuple (vs.map datOf)) (.tuple (ws.map datOf)) = tupEq vs ws := by
        simp only [PyData.eqv]
        exact dat_eqs hp.1 hp.2
      rw [this]
      exact P.here (tk := s.toks) I (.bool _)
    · cases e
  · cases e
theorem b_sliceT {a : Expr} {lo hi : Option Expr} {ga : SE} {gl gh : S → Option (Option Int × List Ob)} {pos p : Pos} (ha : SoundE cx d sc a ga) (hl : SoundP cx d sc lo gl) (hh : SoundP cx d sc hi gh)
    (hs : ∀ o i, subscripted (.Slice lo hi none p) false o i = operate [i, o] (getItem o i)) : SoundE cx d sc (.Subscript a (.Slice lo hi none p) pos) (sliE ga gl gh) := by
  refine ⟨?_⟩
  intro f ok s m led ρ S I R v st' hg Q E P
  refine Subscript_ ?_
  unfold sliE at hg
  split at hg
  · rename_i x st1 ea
    split at hg
    · rename_i i st2 el
      split at hg
      · rename_i j st3 eh
        refine ha.1 f ok s m led ρ S I R x st1 ea _ _ fun wx h1 tk1 led1 ρ1 I1 G1 X1 => wpAny_Slice ?_
        refine hl.1 f ok (put s h1 tk1) m led1 ρ1 ⟨S.lo, S.ce, st1⟩ I1 (R.mono G1) i _ el _ _ fun wi h2 tk2 led2 ρ2 I2 G2 X2 => ?_
        refine hh.1 f ok (put s h2 tk2) m led2 ρ2 ⟨S.lo, S.ce, st2⟩ I2 (R.mono (G1.trans G2)) j _ eh _ _ fun wj h3 tk3 led3 ρ3 I3 G3 X3 => ?_
        refine evalPart_none_step ?_
        have X1' := X1.mono (G2.trans G3)
        unfold cutI at hg
        try simp only [gt_eq, pt_eq, ad_eq, ln_eq] at hg
        cases X1' with
        | str cs t =>
          simp only at hg
          split at hg
          · rename_i hlen
            cases hg
            refine sl_str (s := put s h3 tk3) I3.F I3.N X2 X3 (fun h' t' k F' N' => ?_) (hs _ _) (by show cs.toArray.size ≤ _; rw [List.size_toArray, sizeLine_eq]; omega)
            rw [slice_str]
            exact P _ _ _ _ _ (I3.turn F' N') ((G1.trans G2).trans G3) (.str _ _)
          · cases hg
        | ref r ad dd hr =>
          simp only at hg
          split at hg
          · rename_i vs hst
            split at hg
            · rename_i hlen
              cases hg
              obtain ⟨a', ws, n, q1, q2, q3⟩ := I3.ob _ _ hst
              rw [hr] at q1
              cases q1
              refine kba_turn (value' := .Name ("_" : Str) ⟨0, 0, 0, 0⟩) (fun _ => rfl) (kmk_slice (s := put s h3 tk3) I3.F I3.N (list_at I3 q2) X2 X3 (fun D h' F' N' hlt => ?_) (hs _ _) (fun _ => rfl) (by have := q3.length; simp at this; rw [sizeLine_eq]; omega))
              have hp : slicePick ws i j none = (sliceL ws.toList i j).toArray := by
                rw [slicePick_plain]
                unfold sliceL
                simp
              rw [hp] at N'
              obtain ⟨I', G'⟩ := I3.newList F' N' hlt (q3.slice i j)
              exact P _ _ _ _ _ I' (((G1.trans G2).trans G3).trans G') (.ref _ D D (by rw [← I3.len]; simp))
            · cases hg
          · cases hg
        | _ => simp only [reduceCtorEq] at hg
      · cases hg
    · cases hg
  · cases hg
end
end Mp
namespace Mp
noncomputable def firstDef : List Stmt → Option (Str × Arguments × List Stmt × Scope × Pos)
  | [] => none
  | .FunctionDef name params body _ _ _ scope _ _ pos :: _ => some (name, params, body, scope, pos)
  | _ :: r => firstDef r
noncomputable def codeOf : Value → Addr
  | .ref c => c
  | _ => 0
noncomputable def cdOf (K : Frag) (a : Addr) : CD := match firstDef (stOf K a) with
  | some (n, p, b, s, pos) => ⟨n, (fdOf K a).qualname ++ (".<locals>." : Str) ++ n, p, b, s, pos, freesOf s, codeOf (fdOf K a).code⟩
  | none => ⟨"", "", (fdOf K a).params, [], (fdOf K a).scope, ⟨0, 0, 0, 0⟩, [], 0⟩
theorem CloTab.up {cx : Cx} {d d' : Nat} {ct} (h : CloTab cx d ct) (hd : Nat.ble d d' = true) : CloTab cx d' ct := ⟨fun n g e => (h.call n g e).up hd⟩
end Mp
namespace Mp
structure ScrOk (cx : Cx) (n : Nat) (c : Int) (l : List V) : Prop where
  at_ : ∃ o ws k xs, cx.K.lookup (cx.ga n) = some o ∧ o.cls = .type "list" ∧ o.data = .seq ws k ∧ (∀ led ρ, VRs cx led ρ xs ws.toList) ∧ xs.length ≤ 1000 ∧ l = sliceL xs none (some c)
noncomputable def scrE (n : Nat) (c : Int) (l : List V) (a : SE) (lo hi : S → Option (Option Int × List Ob)) : SE := fun S => match a S with
  | some (.g n', st) => if n' = n then (match lo ⟨S.lo, S.ce, st⟩ with
    | some (none, st) => match hi ⟨S.lo, S.ce, st⟩ with
      | some (some j, st) => if j = c then some (.ref (ln st), ad st (.list l)) else none
      | _ => none
    | _ => none) else none
  | _ => none
section
variable {cx : Cx} {d : Nat} {sc : Sc}
theorem b_scr {n : Nat} {c : Int} {l : List V} (hx : ScrOk cx n c l) {a : Expr} {lo hi : Option Expr} {ga : SE} {gl gh : S → Option (Option Int × List Ob)} {pos p : Pos} (ha : SoundE cx d sc a ga) (hl : SoundP cx d sc lo gl) (hh : SoundP cx d sc hi gh)
    (hs : ∀ o i, subscripted (.Slice lo hi none p) false o i = operate [i, o] (getItem o i)) : SoundE cx d sc (.Subscript a (.Slice lo hi none p) pos) (scrE n c l ga gl gh) := by
  refine ⟨?_⟩
  intro f ok s m led ρ S I R v st' hg Q E P
  refine Subscript_ ?_
  unfold scrE at hg
  try simp only [gt_eq, pt_eq, ad_eq, ln_eq] at hg
  split at hg
  · rename_i n' st1 ea
    split at hg
    · rename_i hn
      subst hn
      split at hg
      · rename_i st2 el
        split at hg
        · rename_i j st3 eh
          split at hg
          · rename_i hjc
            subst hjc
            cases hg
            refine ha.1 f ok s m led ρ S I R _ st1 ea _ _ fun wx h1 tk1 led1 ρ1 I1 G1 X1 => wpAny_Slice ?_
            refine hl.1 f ok (put s h1 tk1) m led1 ρ1 ⟨S.lo, S.ce, st1⟩ I1 (R.mono G1) _ _ el _ _ fun wi h2 tk2 led2 ρ2 I2 G2 X2 => ?_
            refine hh.1 f ok (put s h2 tk2) m led2 ρ2 ⟨S.lo, S.ce, st2⟩ I2 (R.mono (G1.trans G2)) _ _ eh _ _ fun wj h3 tk3 led3 ρ3 I3 G3 X3 => ?_
            refine evalPart_none_step ?_
            cases X1
            obtain ⟨o, ws, k, xs, q1, q2, q3, q4, q5, q6⟩ := hx.at_
            have hlist : h3.IsList (cx.ga n') ws := ⟨o, I3.F.keep _ _ (ok.X _ _ q1), q2, k, q3⟩
            have hlen := (q4 led3 ρ3).length
            refine kba_turn (value' := .Name ("_" : Str) ⟨0, 0, 0, 0⟩) (fun _ => rfl) (kmk_slice (s := put s h3 tk3) I3.F I3.N hlist X2 X3 (fun D h' F' N' hlt => ?_) (hs _ _) (fun _ => rfl) (by rw [sizeLine_eq]; simp at hlen; omega))
            have hp : slicePick ws none (some j) none = (sliceL ws.toList none (some j)).toArray := by
              rw [slicePick_plain]
              unfold sliceL
              simp
            rw [hp] at N'
            obtain ⟨I', G'⟩ := I3.newList F' N' hlt ((q4 led3 ρ3).slice none (some j))
            rw [← q6] at I'
            exact P _ _ _ _ _ I' (((G1.trans G2).trans G3).trans G') (.ref _ D D (by rw [← I3.len]; simp))
          · cases hg
        · cases hg
      · cases hg
    · cases hg
  · cases hg
noncomputable def topF (G : Heap) (L : Addr) (ev : Env) : Fm := ⟨callerA.deeper ev, callerA, G, G, [], L, [], ev, ev⟩
theorem topF_ok {G : Heap} {L fa : Addr} {name : Str} {scope : Scope} {cd : Value} (X : cx.K.In G) (T : Top cx.p cx.loose cx.mean cx.mg cx.mb G) (B : Below callerA G [] G) (hsc : sc.cs = scope) (hkind : scope.kind = .function)
    (hex : sc.ex (envOfC name scope L fa cd)) (hd : d ≤ 500) : (topF G L (envOfC name scope L fa cd)).Ok cx d sc where
  hA := Around.frames_deeper B.stack
  B := B
  X := X
  T := T
  hk := by rw [hsc]; exact hkind
  evs := hsc.symm
  evl := rfl
  evg := rfl
  evb := rfl
  evx := hex
  fek := hkind
  fr := .inl rfl
  dep := by
    show callerA.depth + 1 + d < 1000
    have : callerA.depth ≤ 301 := by decide
    omega
  un := by
    show callerA.units + 3 + 16 * d < 9800
    have : callerA.units ≤ 100 := by decide
    omega
  hh := rfl
theorem top_fin {f : Fm} (ok : f.Ok cx d sc) {g : SS} {body : List Stmt} (hb : SoundB cx d sc body g) {s : Shared} {m led ρ} {S0 S' : S} (I : Inv cx f s.heap m led ρ S0.st) (R : LR cx sc f m led ρ S0.lo S0.ce) (hg : g S0 = some (.ret (.bool true), S'))
    {Q : Flow → Shared → Prop} {E} (fin : ∀ h' tk' m' led' ρ', Inv cx f h' m' led' ρ' S'.st → Grow led ρ led' ρ' → Q (.ret (.bool true)) (put s h' tk')) : wpAny cx.M f.A (execs body f.ev) Q E s :=
  hb.1 f ok s m led ρ S0 I R _ _ hg _ _ fun fw m' h' tk' led' ρ' I' G' R' X' => by
    cases X' with
    | ret X' => cases X'; exact fin _ _ _ _ _ I' G'
noncomputable def codeHdB (K : Frag) (c P : Addr) : Bool := match K.lookup c with
  | some ⟨.type T, _, .fields vs, _⟩ => T == "code" && Nat.beq c P == false && (match (vs[11]? : Option Value), vs.getD 11 .none, vs.getD 18 .none, vs.getD 7 .none, vs.getD 9 .none, vs.getD 10 .none with
    | some (.ref a), .ref b, .str _ _, .int _ _, .bool _, .int _ _ => Nat.beq a P && Nat.beq b P
    | _, _, _, _, _, _ => false)
  | _ => false
theorem codeHd_of {K : Frag} {c P : Addr} (h : codeHdB K c P = true) : ∀ g, K.In g → CodeHd g c P := by
  intro g X
  unfold codeHdB at h
  split at h
  · rename_i T dd vs sl hK
    simp only [Bool.and_eq_true] at h
    obtain ⟨⟨hT, hne⟩, h⟩ := h
    split at h
    · rename_i a b file tf flags tg inF text tt e1 e2 e3 e4 e5 e6
      simp only [Bool.and_eq_true] at h
      have ha : a = P := Nat.eq_of_beq_eq_true h.1
      have hb : b = P := Nat.eq_of_beq_eq_true h.2
      subst ha
      have hT' : T = "code" := by simpa using hT
      subst hT'
      have hne' : c ≠ a := by
        intro e
        subst e
        simp at hne
      exact ⟨_, vs, file, tf, flags, tg, inF, text, tt, X _ _ hK, rfl, rfl, e1, by rw [e2, hb], e3, e4, e5, e6, hne'⟩
    · cases h
  · cases h
theorem grown_of {f : Fm} {h m led ρ st} (I : Inv cx f h m led ρ st) {i n : Nat} {made : Bool} {P : Addr} (hst : st[i]? = some (.tab n made)) (hr : ρ[i]? = some (P, P)) : GrownAt P h := by
  obtain ⟨P', ps, h1, h2, _⟩ := I.ob _ _ hst
  rw [hr] at h1
  cases h1
  exact ⟨ps, (I.at_ h2).1⟩
theorem K_more {K : Frag} {h : Heap} (X : K.In h) {a : Addr} {o : Obj} (e : h.get? a = some o) : (K ++ [(a, o)]).In h := by
  intro b x hb
  rw [List.lookup_append] at hb
  cases hK : K.lookup b with
  | some y =>
    rw [hK] at hb
    cases hb
    exact X _ _ hK
  | none =>
    rw [hK] at hb
    simp only [Option.none_or] at hb
    rw [List.lookup_cons] at hb
    by_cases h : (b == a) = true
    · rw [h] at hb
      cases hb
      rw [eq_of_beq h]
      exact e
    · have : (b == a) = false := by simpa using h
      rw [this] at hb
      cases hb
theorem K_more_at {K : Frag} {h : Heap} (X : K.In h) {a : Addr} {o : Obj} (e : h.get? a = some o) : (K ++ [(a, o)]).lookup a = some o := by
  rw [List.lookup_append]
  cases hK : K.lookup a with
  | some y =>
    have := X _ _ hK
    rw [e] at this
    cases this
    rfl
  | none => simp
end
end Mp
namespace Mp
section
variable {cx : Cx} {d : Nat} {sc : Sc}
end
end Mp
namespace Mp
noncomputable def tpC (ok : Thread → Bool) (stp : SharedT → Thread → Option (SharedT × Thread)) : Nat → SharedT → Thread → Option (SharedT × Thread)
  | 0, s, t => some (s, t)
  | n + 1, s, t => match through t with
    | true => some (s, t)
    | false => match ok t with
      | false => none
      | true => match stp s t with
        | some (s', t') => tpC ok stp n s' t'
        | none => none
noncomputable def tpD (ok : Thread → Bool) (stp : SharedT → Thread → Option (SharedT × Thread)) (c : Nat) : Nat → SharedT → Thread → Option SharedT
  | 0, s, t => match through t with
    | true => some s
    | false => none
  | n + 1, s, t => match tpC ok stp c s t with
    | some (s', t') => tpD ok stp c n s' t'
    | none => none
section
variable {tb : String → Option Builtin} {p : Program} {w : World} {n₀ : Nat} {ann : Option Value}
theorem tpC_spec {n : Nat} {s s' : SharedT} {t t' : Thread} (h : tpC (stepOk n₀ ann) (stepT (denote tb) p w) n s t = some (s', t')) {N : Nat} {r : Shared} (k : topRun tb p w n₀ ann (N + 1) s'.abs t' = some r) :
    topRun tb p w n₀ ann (n + (N + 1)) s.abs t = some r := by
  induction n generalizing s t with
  | zero =>
    unfold tpC at h
    cases h
    rw [Nat.zero_add]; exact k
  | succ n ih =>
    unfold tpC at h
    rw [show n + 1 + (N + 1) = n + (N + 1) + 1 by omega]
    unfold topRun
    cases ht : through t with
    | true =>
      rw [ht] at h
      cases h
      unfold topRun at k
      rw [ht] at k
      exact k
    | false =>
      rw [ht] at h
      cases hk : stepOk n₀ ann t with
      | false => rw [hk] at h; cases h
      | true =>
        rw [hk] at h
        cases hs : stepT (denote tb) p w s t with
        | none => rw [hs] at h; cases h
        | some q =>
          obtain ⟨s2, t2⟩ := q
          rw [hs] at h
          rw [stepT_spec hs]
          exact ih h
theorem tpD_spec {c n : Nat} {s s' : SharedT} {t : Thread} (h : tpD (stepOk n₀ ann) (stepT (denote tb) p w) c n s t = some s') : topRun tb p w n₀ ann (n * c + 1) s.abs t = some s'.abs := by
  induction n generalizing s t with
  | zero =>
    unfold tpD at h
    rw [Nat.zero_mul]
    unfold topRun
    cases ht : through t with
    | true => rw [ht] at h; cases h; rfl
    | false => rw [ht] at h; cases h
  | succ n ih =>
    unfold tpD at h
    cases hs : tpC (stepOk n₀ ann) (stepT (denote tb) p w) c s t with
    | none => rw [hs] at h; cases h
    | some q =>
      obtain ⟨s2, t2⟩ := q
      rw [hs] at h
      rw [show (n + 1) * c + 1 = c + (n * c + 1) by rw [Nat.succ_mul]; omega]
      exact tpC_spec hs (ih h)
end
noncomputable def tpEv : List Obj → List Obj
  | [] => []
  | [a] => [a]
  | a :: _ :: r => a :: tpEv r
noncomputable def tpOd : List Obj → List Obj
  | [] => []
  | [_] => []
  | _ :: b :: r => b :: tpOd r
noncomputable def tpB : Nat → List Obj → BT
  | 0, _ => .nil
  | _ + 1, [] => .nil
  | n + 1, o :: r => .node o (tpB n (tpEv r)) (tpB n (tpOd r))
noncomputable def tpZ : List Obj → Nat → List Nat → Frag
  | [], _, _ => []
  | o :: r, n, ks => match ks with
    | [] => []
    | k :: t => match Nat.beq k n with
      | true => (k, o) :: tpZ r (n + 1) t
      | false => tpZ r (n + 1) (k :: t)
noncomputable def tpF : Obj → Bool
  | ⟨_, _, .freed, _⟩ => false
  | _ => true
theorem tpG {l : List Obj} {life : Life} (h : l.all tpF = true) (a : Nat) : (⟨l.toArray, life⟩ : Heap).get? a = l[a]? := by
  unfold Heap.get?
  rw [List.getElem?_toArray]
  cases e : l[a]? with
  | none => rfl
  | some o =>
    have := List.all_eq_true.mp h o (List.mem_of_getElem? e)
    obtain ⟨c, d, dt, sl⟩ := o
    cases dt <;> first | rfl | (cases this)
theorem tpZ_at : ∀ (l : List Obj) (n : Nat) (ks : List Nat), ∀ p ∈ tpZ l n ks, ∃ i, p.1 = n + i ∧ l[i]? = some p.2
  | [], _, _ => fun _ h => by cases h
  | o :: r, n, ks => fun p h => by
    unfold tpZ at h
    cases ks with
    | nil => cases h
    | cons k t =>
      dsimp only at h
      cases e : Nat.beq k n with
      | true =>
        rw [e] at h
        cases h with
        | head => exact ⟨0, Nat.eq_of_beq_eq_true e, rfl⟩
        | tail _ h =>
          obtain ⟨i, h1, h2⟩ := tpZ_at r (n + 1) t p h
          exact ⟨i + 1, h1.trans (show (n + 1 + i : Nat) = n + (i + 1) by omega), h2⟩
      | false =>
        rw [e] at h
        obtain ⟨i, h1, h2⟩ := tpZ_at r (n + 1) (k :: t) p h
        exact ⟨i + 1, h1.trans (show (n + 1 + i : Nat) = n + (i + 1) by omega), h2⟩
theorem tpGet {l : List Obj} {life : Life} {ks : List Nat} (hk : ks = (tpZ l 0 ks).map (·.1)) (h : l.all tpF = true) : ks.map (Heap.get? ⟨l.toArray, life⟩) = (tpZ l 0 ks).map fun p => some p.2 := by
  have := congrArg (List.map (Heap.get? ⟨l.toArray, life⟩)) hk
  rw [this, List.map_map]
  refine List.map_congr_left fun p hp => ?_
  obtain ⟨i, h1, h2⟩ := tpZ_at l 0 ks p hp
  show (⟨l.toArray, life⟩ : Heap).get? p.1 = _
  rw [tpG h, h1, Nat.zero_add]
  exact h2
theorem boot_tree (P : Params) : boot_heap P = absHeap (tpB 10 (boot_heap P).objs.toList) (boot_heap P).objs.size (boot_heap P).life := by kernel_rfl
end Mp
namespace Mp
noncomputable abbrev pw := PySem.Challenge.pw_sz0093_01
noncomputable def tS (i : Nat) : Stmt := match pw.main.body[i]? with
  | some t => t
  | none => .Pass ⟨0, 0, 0, 0⟩
noncomputable def cS (i j : Nat) : Stmt := match tS i with
  | .ClassDef _ _ _ b _ _ _ _ _ _ _ => match b[j]? with
    | some t => t
    | none => .Pass ⟨0, 0, 0, 0⟩
  | _ => .Pass ⟨0, 0, 0, 0⟩
noncomputable def pS : Stmt → Arguments
  | .FunctionDef _ p _ _ _ _ _ _ _ _ => p
  | _ => { posonlyargs := [], args := [], vararg := none, kwonlyargs := [], kw_defaults := [], kwarg := none, defaults := [] }
noncomputable def bS : Stmt → FuncBody
  | .FunctionDef _ _ b _ _ _ _ _ _ _ => .stmts b
  | _ => .stmts []
noncomputable def sS : Stmt → Scope
  | .FunctionDef _ _ _ _ _ _ s _ _ _ => s
  | _ => { kind := .function, names := [], isGenerator := false, isCoroutine := false, more := [] }
noncomputable abbrev sv (s : String) (t : Nat) : Value := .str (Str.ofString s) t
noncomputable abbrev iv (n t : Nat) : Value := .int (.ofNat n) t
noncomputable abbrev ivn (n t : Nat) : Value := .int (.negSucc n) t
noncomputable abbrev qs (s : String) : Str := Str.ofString s
noncomputable abbrev qd (P : Params) (s : String) (t : Nat) (v : Value) : DictEntry := { hash := PyData.keyHash P (Str.ofString s), key := .str (Str.ofString s) t, val := v }
noncomputable abbrev qt (l : List Value) : Obj := { cls := .type "tuple", data := .seq l.toArray }
noncomputable abbrev qc (l : List Value) : Obj := { cls := .type "code", data := .fields l.toArray }
noncomputable abbrev qf (a b : String) (t : Stmt) (d m : Value) (c : Nat) : Obj := ⟨.type "function", none, .func (FuncData.mk (Str.ofString a) (Str.ofString b) (pS t) (bS t) (sS t) 3 [] d .none .none m none (.ref c) .none 0), #[]⟩
noncomputable abbrev qn (a b : String) (t : Stmt) : Obj := ⟨.none, none, .func (FuncData.mk (Str.ofString a) (Str.ofString b) (pS t) (bS t) (sS t) 0 [] .none .none .none .none none .none .none 0), #[]⟩
noncomputable def ob_2 (P : Params) : Obj := { cls := .none, data := .dict #[qd P "type.__subclasses__.Exception.0" 385 (iv 137 0), qd P "type.__subclasses__.Exception.n" 386 (iv 1 0)] 2 }
noncomputable def ob_3 (P : Params) : Obj := { cls := .type "dict", data := .dict #[qd P "__name__" 165 (sv "law_sz0093_01" 1523), qd P "__doc__" 166 (.none), qd P "__package__" 167 (.none), qd P "__loader__" 168 (.builtin "__main__.__loader__#opaque"), qd P "__spec__" 169 (.none), qd P "__annotations__" 170 (.ref 6), qd P "__builtins__" 171 (.ref 4), qd P "__file__" 173 (sv "/claim/cut.py" 172), qd P "__cached__" 174 (.none), qd P "ONE_SIGN" 192 (.ref 15), qd P "Program" 227 (.ref 32), qd P "RowMaker" 271 (.ref 67), qd P "add_node" 282 (.ref 78), qd P "add_branches" 294 (.ref 85), qd P "add_atomic" 303 (.ref 92), qd P "add_repeats" 316 (.ref 99), qd P "add_loop" 331 (.ref 106), qd P "add_look" 347 (.ref 113), qd P "compile_tree" 357 (.ref 120), qd P "PerlError" 388 (.ref 137), qd P "BadPattern" 414 (.ref 157), qd P "TooLong" 439 (.ref 176), qd P "BLANKS" 443 (sv " \t\n\x0d\x0c\x0b" 442), qd P "POSIX_RANGES" 528 (.ref 179), qd P "is_word_sign" 535 (.ref 228), qd P "in_class" 544 (.ref 235), qd P "other_case" 551 (.ref 242), qd P "same_sign" 560 (.ref 249), qd P "posix_items" 566 (.ref 254), qd P "item_holds" 574 (.ref 261), qd P "items_hold" 583 (.ref 268), qd P "set_holds" 594 (.ref 275), qd P "sign_fits" 602 (.ref 282), qd P "PLAIN_ESCAPES" 623 (.ref 283), qd P "OCTAL_FIGURES" 625 (sv "01234567" 624), qd P "HEX_FIGURES" 627 (sv "0123456789abcdef" 626), qd P "CLASS_LETTERS" 629 (sv "dDwWsShHvV" 628), qd P "POSIX_SIGNS" 631 (sv "abcdefghijklmnopqrstuvwxyz^" 630), qd P "MOST_CODE" 633 (iv 1114111 632), qd P "PatternText" 684 (.ref 314), qd P "run_of" 694 (.ref 325), qd P "number_of_run" 704 (.ref 332), qd P "until_sign" 714 (.ref 339), qd P "sign_of_code" 722 (.ref 346), qd P "read_hex_sign" 728 (.ref 351), qd P "read_octal_sign" 734 (.ref 356), qd P "read_named_sign" 740 (.ref 361), qd P "read_plain_escape" 748 (.ref 368), qd P "read_control" 756 (.ref 375), qd P "signs_end" 765 (.ref 382), qd P "posix_end" 774 (.ref 389), qd P "read_posix" 786 (.ref 396), qd P "read_member" 797 (.ref 403), qd P "is_one_sign" 804 (.ref 410), qd P "read_range_end" 815 (.ref 417), qd P "read_set" 829 (.ref 424), qd P "FIGURES" 833 (sv "0123456789" 832), qd P "MOST_COUNT" 835 (iv 32766 834), qd P "COUNT_SIGNS" 850 (.ref 425), qd P "count_groups" 860 (.ref 435), qd P "behind_set" 869 (.ref 442), qd P "behind_posix" 878 (.ref 449), qd P "opens_capture" 885 (.ref 456), qd P "is_name_text" 891 (.ref 461), qd P "braces_count" 902 (.ref 468), qd P "take_count" 914 (.ref 475), qd P "read_name" 924 (.ref 482), qd P "speak_of" 933 (.ref 489), qd P "read_named_back" 943 (.ref 496), qd P "read_numbered_back" 956 (.ref 503), qd P "width_of" 962 (.ref 508), qd P "FLAG_LETTERS" 966 (sv "imsx" 965), qd P "MOST_NESTED" 968 (iv 40 967), qd P "LOOKS" 973 (.ref 513), qd P "NAME_SIGNS" 980 (.ref 517), qd P "skip_unseen" 989 (.ref 524), qd P "read_flags" 995 (.ref 529), qd P "read_inline" 1005 (.ref 536), qd P "read_alternation" 1015 (.ref 543), qd P "read_branch" 1025 (.ref 550), qd P "read_atom" 1034 (.ref 557), qd P "read_counted" 1046 (.ref 564), qd P "read_inner" 1056 (.ref 571), qd P "read_capture" 1067 (.ref 578), qd P "read_look" 1080 (.ref 585), qd P "read_group" 1094 (.ref 592), qd P "is_sign_told" 1101 (.ref 599), qd P "read_escape" 1114 (.ref 606), qd P "parse_pattern" 1120 (.ref 611), qd P "compile_pattern" 1133 (.ref 618), qd P "Limits" 1183 (.ref 636), qd P "STEP_SIGNS" 1187 (iv 100 1186), qd P "STEP_GROUPS" 1189 (iv 20 1188), qd P "MatchRun" 1232 (.ref 657), qd P "set_register" 1241 (.ref 668), qd P "go_on" 1248 (.ref 675), qd P "row_test" 1256 (.ref 682), qd P "run_end" 1267 (.ref 689), qd P "row_run" 1282 (.ref 696), qd P "place_holds" 1294 (.ref 703), qd P "row_at" 1302 (.ref 710), qd P "row_back" 1314 (.ref 717), qd P "row_open" 1322 (.ref 724), qd P "row_close" 1330 (.ref 731), qd P "row_jump" 1338 (.ref 738), qd P "row_split" 1346 (.ref 745), qd P "row_zero" 1354 (.ref 752), qd P "row_loop" 1371 (.ref 759), qd P "row_again" 1379 (.ref 766), qd P "row_mark" 1387 (.ref 773), qd P "row_cut" 1393 (.ref 778), qd P "undo_entry" 1401 (.ref 785), qd P "row_refuse" 1410 (.ref 792), qd P "row_place" 1418 (.ref 799), qd P "row_return" 1426 (.ref 806), qd P "row_behind" 1434 (.ref 813), qd P "row_words" 1440 (.ref 820), qd P "take_more" 1453 (.ref 827), qd P "back_up" 1461 (.ref 834), qd P "match_from" 1472 (.ref 841), qd P "search_pattern" 1488 (.ref 849), qd P "next_match" 1503 (.ref 857), qd P "substitute" 1522 (.ref 865), qd P "_law_group" 1531 (.ref 872), qd P "law" 1550 (.ref 879)] 125 }
noncomputable def ob_15 (P : Params) : Obj := qt [sv "sign" 189, sv "any" 190, sv "set" 191]
noncomputable def ob_23 (P : Params) : Obj := qt []
noncomputable def ob_25 (P : Params) : Obj := qt [sv "self" 208, sv "rows" 209, sv "groups" 210, sv "registers" 211, sv "names" 212]
noncomputable def ob_26 (P : Params) : Obj := qt []
noncomputable def ob_28 (P : Params) : Obj := qc [sv "__init__" 205, sv "Program.__init__" 206, sv "/claim/cut.py" 207, iv 5 0, iv 5 0, iv 0 0, iv 0 0, iv 3 0, .ref 23, .bool true, iv 181 0, .ref 24, .none, .ref 25, .ref 26, .ref 27, iv 213 0, iv 5 0, sv "/claim/cut.py" 214]
noncomputable def ob_29 (P : Params) : Obj := qf "__init__" "Program.__init__" (cS 2 0) (.none) (sv "perlcore.recompile" 187) 28
noncomputable def ob_30 (P : Params) : Obj := qt [sv "groups" 216, sv "names" 217, sv "registers" 218, sv "rows" 219]
noncomputable def ob_31 (P : Params) : Obj := { cls := .type "dict", data := .dict #[qd P "__module__" 200 (sv "perlcore.recompile" 187), qd P "__firstlineno__" 204 (iv 3 203), qd P "__init__" 215 (.ref 29), qd P "__static_attributes__" 220 (.ref 30), qd P "__dict__" 222 (.ref 33), qd P "__weakref__" 224 (.ref 34), qd P "__doc__" 225 (.none)] 4 }
noncomputable def ob_32 (P : Params) : Obj := { cls := .type "type", data := .cls { name := qs "Program", bases := [.type "object"], mro := [.ref 32, .type "object"], ns := 31, qualname := qs "Program" }, slots := #[none, none, some (sv "Program" 193), some (sv "Program" 201), some (.builtin "object.__new__"), some (.bool true)] }
noncomputable def ob_33 (P : Params) : Obj := { cls := .type "getset_descriptor", data := .fields #[sv "__dict__" 221, .ref 32, .builtin "function.__dict__", .builtin "function.__dict__#set"] }
noncomputable def ob_34 (P : Params) : Obj := { cls := .type "getset_descriptor", data := .fields #[sv "__weakref__" 223, .ref 32, .builtin "ExceptionGroup.__weakref__", .none] }
noncomputable def ob_44 (P : Params) : Obj := qt []
noncomputable def ob_46 (P : Params) : Obj := qt [sv "self" 243]
noncomputable def ob_47 (P : Params) : Obj := qt []
noncomputable def ob_49 (P : Params) : Obj := qc [sv "__init__" 240, sv "RowMaker.__init__" 241, sv "/claim/cut.py" 242, iv 12 0, iv 1 0, iv 0 0, iv 0 0, iv 3 0, .ref 44, .bool true, iv 181 0, .ref 45, .none, .ref 46, .ref 47, .ref 48, iv 244 0, iv 12 0, sv "/claim/cut.py" 245]
noncomputable def ob_50 (P : Params) : Obj := qf "__init__" "RowMaker.__init__" (cS 3 0) (.none) (sv "perlcore.recompile" 187) 49
noncomputable def ob_51 (P : Params) : Obj := qt []
noncomputable def ob_53 (P : Params) : Obj := qt [sv "self" 250, sv "row" 251]
noncomputable def ob_54 (P : Params) : Obj := qt []
noncomputable def ob_56 (P : Params) : Obj := qc [sv "add" 247, sv "RowMaker.add" 248, sv "/claim/cut.py" 249, iv 16 0, iv 2 0, iv 0 0, iv 0 0, iv 3 0, .ref 51, .bool true, iv 181 0, .ref 52, .none, .ref 53, .ref 54, .ref 55, iv 252 0, iv 16 0, sv "/claim/cut.py" 253]
noncomputable def ob_57 (P : Params) : Obj := qf "add" "RowMaker.add" (cS 3 1) (.none) (sv "perlcore.recompile" 187) 56
noncomputable def ob_58 (P : Params) : Obj := qt []
noncomputable def ob_60 (P : Params) : Obj := qt [sv "self" 258]
noncomputable def ob_61 (P : Params) : Obj := qt []
noncomputable def ob_63 (P : Params) : Obj := qc [sv "fresh" 255, sv "RowMaker.fresh" 256, sv "/claim/cut.py" 257, iv 20 0, iv 1 0, iv 0 0, iv 0 0, iv 3 0, .ref 58, .bool true, iv 181 0, .ref 59, .none, .ref 60, .ref 61, .ref 62, iv 259 0, iv 20 0, sv "/claim/cut.py" 260]
noncomputable def ob_64 (P : Params) : Obj := qf "fresh" "RowMaker.fresh" (cS 3 2) (.none) (sv "perlcore.recompile" 187) 63
noncomputable def ob_65 (P : Params) : Obj := qt [sv "registers" 262, sv "rows" 263]
noncomputable def ob_66 (P : Params) : Obj := { cls := .type "dict", data := .dict #[qd P "__module__" 235 (sv "perlcore.recompile" 187), qd P "__firstlineno__" 239 (iv 10 238), qd P "__init__" 246 (.ref 50), qd P "add" 254 (.ref 57), qd P "fresh" 261 (.ref 64), qd P "__static_attributes__" 264 (.ref 65), qd P "__dict__" 266 (.ref 68), qd P "__weakref__" 268 (.ref 69), qd P "__doc__" 269 (.none)] 4 }
noncomputable def ob_67 (P : Params) : Obj := { cls := .type "type", data := .cls { name := qs "RowMaker", bases := [.type "object"], mro := [.ref 67, .type "object"], ns := 66, qualname := qs "RowMaker" }, slots := #[none, none, some (sv "RowMaker" 228), some (sv "RowMaker" 236), some (.builtin "object.__new__"), some (.bool true)] }
noncomputable def ob_68 (P : Params) : Obj := { cls := .type "getset_descriptor", data := .fields #[sv "__dict__" 265, .ref 67, .builtin "function.__dict__", .builtin "function.__dict__#set"] }
noncomputable def ob_69 (P : Params) : Obj := { cls := .type "getset_descriptor", data := .fields #[sv "__weakref__" 267, .ref 67, .builtin "ExceptionGroup.__weakref__", .none] }
noncomputable def ob_72 (P : Params) : Obj := qt []
noncomputable def ob_74 (P : Params) : Obj := qt [sv "maker" 275, sv "node" 276, sv "word" 277, sv "one" 278, sv "register" 279]
noncomputable def ob_75 (P : Params) : Obj := qt []
noncomputable def ob_77 (P : Params) : Obj := qc [sv "add_node" 272, sv "add_node" 273, sv "/claim/cut.py" 274, iv 23 0, iv 2 0, iv 0 0, iv 0 0, iv 3 0, .ref 72, .bool true, iv 181 0, .ref 73, .none, .ref 74, .ref 75, .ref 76, iv 280 0, iv 23 0, sv "/claim/cut.py" 281]
noncomputable def ob_78 (P : Params) : Obj := qf "add_node" "add_node" (tS 4) (.none) (sv "perlcore.recompile" 187) 77
noncomputable def ob_79 (P : Params) : Obj := qt []
noncomputable def ob_81 (P : Params) : Obj := qt [sv "maker" 286, sv "branches" 287, sv "jumps" 288, sv "one" 289, sv "split" 290, sv "at" 291]
noncomputable def ob_82 (P : Params) : Obj := qt []
noncomputable def ob_84 (P : Params) : Obj := qc [sv "add_branches" 283, sv "add_branches" 284, sv "/claim/cut.py" 285, iv 43 0, iv 2 0, iv 0 0, iv 0 0, iv 3 0, .ref 79, .bool true, iv 181 0, .ref 80, .none, .ref 81, .ref 82, .ref 83, iv 292 0, iv 43 0, sv "/claim/cut.py" 293]
noncomputable def ob_85 (P : Params) : Obj := qf "add_branches" "add_branches" (tS 5) (.none) (sv "perlcore.recompile" 187) 84
noncomputable def ob_86 (P : Params) : Obj := qt []
noncomputable def ob_88 (P : Params) : Obj := qt [sv "maker" 298, sv "node" 299, sv "register" 300]
noncomputable def ob_89 (P : Params) : Obj := qt []
noncomputable def ob_91 (P : Params) : Obj := qc [sv "add_atomic" 295, sv "add_atomic" 296, sv "/claim/cut.py" 297, iv 53 0, iv 2 0, iv 0 0, iv 0 0, iv 3 0, .ref 86, .bool true, iv 181 0, .ref 87, .none, .ref 88, .ref 89, .ref 90, iv 301 0, iv 53 0, sv "/claim/cut.py" 302]
noncomputable def ob_92 (P : Params) : Obj := qf "add_atomic" "add_atomic" (tS 6) (.none) (sv "perlcore.recompile" 187) 91
noncomputable def ob_93 (P : Params) : Obj := qt []
noncomputable def ob_95 (P : Params) : Obj := qt [sv "maker" 307, sv "node" 308, sv "word" 309, sv "inner" 310, sv "least" 311, sv "most" 312, sv "mode" 313]
noncomputable def ob_96 (P : Params) : Obj := qt []
noncomputable def ob_98 (P : Params) : Obj := qc [sv "add_repeats" 304, sv "add_repeats" 305, sv "/claim/cut.py" 306, iv 58 0, iv 2 0, iv 0 0, iv 0 0, iv 3 0, .ref 93, .bool true, iv 181 0, .ref 94, .none, .ref 95, .ref 96, .ref 97, iv 314 0, iv 58 0, sv "/claim/cut.py" 315]
noncomputable def ob_99 (P : Params) : Obj := qf "add_repeats" "add_repeats" (tS 7) (.none) (sv "perlcore.recompile" 187) 98
noncomputable def ob_100 (P : Params) : Obj := qt []
noncomputable def ob_102 (P : Params) : Obj := qt [sv "maker" 320, sv "inner" 321, sv "least" 322, sv "most" 323, sv "is_lazy" 324, sv "count" 325, sv "place" 326, sv "loop" 327, sv "again" 328]
noncomputable def ob_103 (P : Params) : Obj := qt []
noncomputable def ob_105 (P : Params) : Obj := qc [sv "add_loop" 317, sv "add_loop" 318, sv "/claim/cut.py" 319, iv 66 0, iv 5 0, iv 0 0, iv 0 0, iv 3 0, .ref 100, .bool true, iv 181 0, .ref 101, .none, .ref 102, .ref 103, .ref 104, iv 329 0, iv 66 0, sv "/claim/cut.py" 330]
noncomputable def ob_106 (P : Params) : Obj := qf "add_loop" "add_loop" (tS 8) (.none) (sv "perlcore.recompile" 187) 105
noncomputable def ob_107 (P : Params) : Obj := qt []
noncomputable def ob_109 (P : Params) : Obj := qt [sv "maker" 335, sv "node" 336, sv "word" 337, sv "inner" 338, sv "is_behind" 339, sv "is_negated" 340, sv "width" 341, sv "place" 342, sv "mark" 343, sv "split" 344]
noncomputable def ob_110 (P : Params) : Obj := qt []
noncomputable def ob_112 (P : Params) : Obj := qc [sv "add_look" 332, sv "add_look" 333, sv "/claim/cut.py" 334, iv 75 0, iv 2 0, iv 0 0, iv 0 0, iv 3 0, .ref 107, .bool true, iv 181 0, .ref 108, .none, .ref 109, .ref 110, .ref 111, iv 345 0, iv 75 0, sv "/claim/cut.py" 346]
noncomputable def ob_113 (P : Params) : Obj := qf "add_look" "add_look" (tS 9) (.none) (sv "perlcore.recompile" 187) 112
noncomputable def ob_114 (P : Params) : Obj := qt []
noncomputable def ob_116 (P : Params) : Obj := qt [sv "node" 351, sv "groups" 352, sv "names" 353, sv "maker" 354]
noncomputable def ob_117 (P : Params) : Obj := qt []
noncomputable def ob_119 (P : Params) : Obj := qc [sv "compile_tree" 348, sv "compile_tree" 349, sv "/claim/cut.py" 350, iv 93 0, iv 3 0, iv 0 0, iv 0 0, iv 3 0, .ref 114, .bool true, iv 181 0, .ref 115, .none, .ref 116, .ref 117, .ref 118, iv 355 0, iv 93 0, sv "/claim/cut.py" 356]
noncomputable def ob_120 (P : Params) : Obj := qf "compile_tree" "compile_tree" (tS 10) (.none) (sv "perlcore.recompile" 187) 119
noncomputable def ob_121 (P : Params) : Obj := qt [.type "Exception"]
noncomputable def ob_128 (P : Params) : Obj := qt []
noncomputable def ob_130 (P : Params) : Obj := qt [sv "self" 375, sv "text" 376]
noncomputable def ob_131 (P : Params) : Obj := qt []
noncomputable def ob_133 (P : Params) : Obj := qc [sv "__init__" 372, sv "PerlError.__init__" 373, sv "/claim/cut.py" 374, iv 101 0, iv 2 0, iv 0 0, iv 0 0, iv 3 0, .ref 128, .bool true, iv 181 0, .ref 129, .none, .ref 130, .ref 131, .ref 132, iv 377 0, iv 101 0, sv "/claim/cut.py" 378]
noncomputable def ob_134 (P : Params) : Obj := qf "__init__" "PerlError.__init__" (cS 12 0) (.none) (sv "perlcore.errors" 358) 133
noncomputable def ob_135 (P : Params) : Obj := qt [sv "text" 380]
noncomputable def ob_136 (P : Params) : Obj := { cls := .type "dict", data := .dict #[qd P "__module__" 367 (sv "perlcore.errors" 358), qd P "__firstlineno__" 371 (iv 99 370), qd P "__init__" 379 (.ref 134), qd P "__static_attributes__" 381 (.ref 135), qd P "__weakref__" 383 (.ref 138), qd P "__doc__" 384 (.none)] 3 }
noncomputable def ob_137 (P : Params) : Obj := { cls := .type "type", data := .cls { name := qs "PerlError", bases := [.type "Exception"], mro := [.ref 137, .type "Exception", .type "BaseException", .type "object"], ns := 136, qualname := qs "PerlError", subclasses := [.ref 157, .ref 176] }, slots := #[some (.ref 121), none, some (sv "PerlError" 360), some (sv "PerlError" 368), some (.builtin "Exception.__new__"), some (.bool true)] }
noncomputable def ob_138 (P : Params) : Obj := { cls := .type "getset_descriptor", data := .fields #[sv "__weakref__" 382, .ref 137, .builtin "ExceptionGroup.__weakref__", .none] }
noncomputable def ob_141 (P : Params) : Obj := qt [.ref 137]
noncomputable def ob_148 (P : Params) : Obj := qt []
noncomputable def ob_150 (P : Params) : Obj := qt [sv "self" 404, sv "text" 405, sv "at" 406]
noncomputable def ob_151 (P : Params) : Obj := qt []
noncomputable def ob_153 (P : Params) : Obj := qc [sv "__init__" 401, sv "BadPattern.__init__" 402, sv "/claim/cut.py" 403, iv 106 0, iv 3 0, iv 0 0, iv 0 0, iv 3 0, .ref 148, .bool true, iv 181 0, .ref 149, .none, .ref 150, .ref 151, .ref 152, iv 407 0, iv 106 0, sv "/claim/cut.py" 408]
noncomputable def ob_154 (P : Params) : Obj := qf "__init__" "BadPattern.__init__" (cS 13 0) (.none) (sv "perlcore.errors" 358) 153
noncomputable def ob_155 (P : Params) : Obj := qt [sv "at" 410]
noncomputable def ob_156 (P : Params) : Obj := { cls := .type "dict", data := .dict #[qd P "__module__" 396 (sv "perlcore.errors" 358), qd P "__firstlineno__" 400 (iv 104 399), qd P "__init__" 409 (.ref 154), qd P "__static_attributes__" 411 (.ref 155), qd P "__doc__" 412 (.none)] 2 }
noncomputable def ob_157 (P : Params) : Obj := { cls := .type "type", data := .cls { name := qs "BadPattern", bases := [.ref 137], mro := [.ref 157, .ref 137, .type "Exception", .type "BaseException", .type "object"], ns := 156, qualname := qs "BadPattern" }, slots := #[some (.ref 141), none, some (sv "BadPattern" 389), some (sv "BadPattern" 397), some (.builtin "Exception.__new__"), some (.bool true)] }
noncomputable def ob_160 (P : Params) : Obj := qt [.ref 137]
noncomputable def ob_167 (P : Params) : Obj := qt []
noncomputable def ob_169 (P : Params) : Obj := qt [sv "self" 430, sv "steps" 431]
noncomputable def ob_170 (P : Params) : Obj := qt []
noncomputable def ob_172 (P : Params) : Obj := qc [sv "__init__" 427, sv "TooLong.__init__" 428, sv "/claim/cut.py" 429, iv 111 0, iv 2 0, iv 0 0, iv 0 0, iv 3 0, .ref 167, .bool true, iv 181 0, .ref 168, .none, .ref 169, .ref 170, .ref 171, iv 432 0, iv 111 0, sv "/claim/cut.py" 433]
noncomputable def ob_173 (P : Params) : Obj := qf "__init__" "TooLong.__init__" (cS 14 0) (.none) (sv "perlcore.errors" 358) 172
noncomputable def ob_174 (P : Params) : Obj := qt [sv "steps" 435]
noncomputable def ob_175 (P : Params) : Obj := { cls := .type "dict", data := .dict #[qd P "__module__" 422 (sv "perlcore.errors" 358), qd P "__firstlineno__" 426 (iv 109 425), qd P "__init__" 434 (.ref 173), qd P "__static_attributes__" 436 (.ref 174), qd P "__doc__" 437 (.none)] 2 }
noncomputable def ob_176 (P : Params) : Obj := { cls := .type "type", data := .cls { name := qs "TooLong", bases := [.ref 137], mro := [.ref 176, .ref 137, .type "Exception", .type "BaseException", .type "object"], ns := 175, qualname := qs "TooLong" }, slots := #[some (.ref 160), none, some (sv "TooLong" 415), some (sv "TooLong" 423), some (.builtin "Exception.__new__"), some (.bool true)] }
noncomputable def ob_179 (P : Params) : Obj := { cls := .type "dict", data := .dict #[qd P "alpha" 444 (.ref 182), qd P "digit" 449 (.ref 184), qd P "alnum" 452 (.ref 188), qd P "upper" 459 (.ref 190), qd P "lower" 462 (.ref 192), qd P "space" 465 (.ref 195), qd P "punct" 470 (.ref 200), qd P "xdigit" 479 (.ref 204), qd P "word" 486 (.ref 209), qd P "cntrl" 495 (.ref 212), qd P "print" 500 (.ref 214), qd P "graph" 503 (.ref 216), qd P "blank" 506 (.ref 219), qd P "ascii" 511 (.ref 221)] 14 }
noncomputable def ob_180 (P : Params) : Obj := qt [iv 65 445, iv 90 446]
noncomputable def ob_181 (P : Params) : Obj := qt [iv 97 447, iv 122 448]
noncomputable def ob_182 (P : Params) : Obj := { cls := .type "list", data := .seq #[.ref 180, .ref 181] }
noncomputable def ob_183 (P : Params) : Obj := qt [iv 48 450, iv 57 451]
noncomputable def ob_184 (P : Params) : Obj := { cls := .type "list", data := .seq #[.ref 183] }
noncomputable def ob_185 (P : Params) : Obj := qt [iv 48 453, iv 57 454]
noncomputable def ob_186 (P : Params) : Obj := qt [iv 65 455, iv 90 456]
noncomputable def ob_187 (P : Params) : Obj := qt [iv 97 457, iv 122 458]
noncomputable def ob_188 (P : Params) : Obj := { cls := .type "list", data := .seq #[.ref 185, .ref 186, .ref 187] }
noncomputable def ob_189 (P : Params) : Obj := qt [iv 65 460, iv 90 461]
noncomputable def ob_190 (P : Params) : Obj := { cls := .type "list", data := .seq #[.ref 189] }
noncomputable def ob_191 (P : Params) : Obj := qt [iv 97 463, iv 122 464]
noncomputable def ob_192 (P : Params) : Obj := { cls := .type "list", data := .seq #[.ref 191] }
noncomputable def ob_193 (P : Params) : Obj := qt [iv 9 466, iv 13 467]
noncomputable def ob_194 (P : Params) : Obj := qt [iv 32 468, iv 32 469]
noncomputable def ob_195 (P : Params) : Obj := { cls := .type "list", data := .seq #[.ref 193, .ref 194] }
noncomputable def ob_196 (P : Params) : Obj := qt [iv 33 471, iv 47 472]
noncomputable def ob_197 (P : Params) : Obj := qt [iv 58 473, iv 64 474]
noncomputable def ob_198 (P : Params) : Obj := qt [iv 91 475, iv 96 476]
noncomputable def ob_199 (P : Params) : Obj := qt [iv 123 477, iv 126 478]
noncomputable def ob_200 (P : Params) : Obj := { cls := .type "list", data := .seq #[.ref 196, .ref 197, .ref 198, .ref 199] }
noncomputable def ob_201 (P : Params) : Obj := qt [iv 48 480, iv 57 481]
noncomputable def ob_202 (P : Params) : Obj := qt [iv 65 482, iv 70 483]
noncomputable def ob_203 (P : Params) : Obj := qt [iv 97 484, iv 102 485]
noncomputable def ob_204 (P : Params) : Obj := { cls := .type "list", data := .seq #[.ref 201, .ref 202, .ref 203] }
noncomputable def ob_205 (P : Params) : Obj := qt [iv 48 487, iv 57 488]
noncomputable def ob_206 (P : Params) : Obj := qt [iv 65 489, iv 90 490]
noncomputable def ob_207 (P : Params) : Obj := qt [iv 95 491, iv 95 492]
noncomputable def ob_208 (P : Params) : Obj := qt [iv 97 493, iv 122 494]
noncomputable def ob_209 (P : Params) : Obj := { cls := .type "list", data := .seq #[.ref 205, .ref 206, .ref 207, .ref 208] }
noncomputable def ob_210 (P : Params) : Obj := qt [iv 0 496, iv 31 497]
noncomputable def ob_211 (P : Params) : Obj := qt [iv 127 498, iv 127 499]
noncomputable def ob_212 (P : Params) : Obj := { cls := .type "list", data := .seq #[.ref 210, .ref 211] }
noncomputable def ob_213 (P : Params) : Obj := qt [iv 32 501, iv 126 502]
noncomputable def ob_214 (P : Params) : Obj := { cls := .type "list", data := .seq #[.ref 213] }
noncomputable def ob_215 (P : Params) : Obj := qt [iv 33 504, iv 126 505]
noncomputable def ob_216 (P : Params) : Obj := { cls := .type "list", data := .seq #[.ref 215] }
noncomputable def ob_217 (P : Params) : Obj := qt [iv 9 507, iv 9 508]
noncomputable def ob_218 (P : Params) : Obj := qt [iv 32 509, iv 32 510]
noncomputable def ob_219 (P : Params) : Obj := { cls := .type "list", data := .seq #[.ref 217, .ref 218] }
noncomputable def ob_220 (P : Params) : Obj := qt [iv 0 512, iv 127 513]
noncomputable def ob_221 (P : Params) : Obj := { cls := .type "list", data := .seq #[.ref 220] }
noncomputable def ob_222 (P : Params) : Obj := qt []
noncomputable def ob_224 (P : Params) : Obj := qt [sv "sign" 532]
noncomputable def ob_225 (P : Params) : Obj := qt []
noncomputable def ob_227 (P : Params) : Obj := qc [sv "is_word_sign" 529, sv "is_word_sign" 530, sv "/claim/cut.py" 531, iv 117 0, iv 1 0, iv 0 0, iv 0 0, iv 3 0, .ref 222, .bool true, iv 181 0, .ref 223, .none, .ref 224, .ref 225, .ref 226, iv 533 0, iv 117 0, sv "/claim/cut.py" 534]
noncomputable def ob_228 (P : Params) : Obj := qf "is_word_sign" "is_word_sign" (tS 18) (.none) (sv "perlcore.signclass" 440) 227
noncomputable def ob_229 (P : Params) : Obj := qt []
noncomputable def ob_231 (P : Params) : Obj := qt [sv "letter" 539, sv "sign" 540, sv "found" 541]
noncomputable def ob_232 (P : Params) : Obj := qt []
noncomputable def ob_234 (P : Params) : Obj := qc [sv "in_class" 536, sv "in_class" 537, sv "/claim/cut.py" 538, iv 119 0, iv 2 0, iv 0 0, iv 0 0, iv 3 0, .ref 229, .bool true, iv 181 0, .ref 230, .none, .ref 231, .ref 232, .ref 233, iv 542 0, iv 119 0, sv "/claim/cut.py" 543]
noncomputable def ob_235 (P : Params) : Obj := qf "in_class" "in_class" (tS 19) (.none) (sv "perlcore.signclass" 440) 234
noncomputable def ob_236 (P : Params) : Obj := qt []
noncomputable def ob_238 (P : Params) : Obj := qt [sv "sign" 548]
noncomputable def ob_239 (P : Params) : Obj := qt []
noncomputable def ob_241 (P : Params) : Obj := qc [sv "other_case" 545, sv "other_case" 546, sv "/claim/cut.py" 547, iv 133 0, iv 1 0, iv 0 0, iv 0 0, iv 3 0, .ref 236, .bool true, iv 181 0, .ref 237, .none, .ref 238, .ref 239, .ref 240, iv 549 0, iv 133 0, sv "/claim/cut.py" 550]
noncomputable def ob_242 (P : Params) : Obj := qf "other_case" "other_case" (tS 20) (.none) (sv "perlcore.signclass" 440) 241
noncomputable def ob_243 (P : Params) : Obj := qt []
noncomputable def ob_245 (P : Params) : Obj := qt [sv "one" 555, sv "other" 556, sv "is_folded" 557]
noncomputable def ob_246 (P : Params) : Obj := qt []
noncomputable def ob_248 (P : Params) : Obj := qc [sv "same_sign" 552, sv "same_sign" 553, sv "/claim/cut.py" 554, iv 139 0, iv 3 0, iv 0 0, iv 0 0, iv 3 0, .ref 243, .bool true, iv 181 0, .ref 244, .none, .ref 245, .ref 246, .ref 247, iv 558 0, iv 139 0, sv "/claim/cut.py" 559]
noncomputable def ob_249 (P : Params) : Obj := qf "same_sign" "same_sign" (tS 21) (.none) (sv "perlcore.signclass" 440) 248
noncomputable def ob_250 (P : Params) : Obj := qt []
noncomputable def ob_253 (P : Params) : Obj := qc [sv "posix_items" 561, sv "posix_items" 562, sv "/claim/cut.py" 563, iv 141 0, iv 1 0, iv 0 0, iv 0 0, iv 3 0, .ref 250, .bool true, iv 181 0, .ref 251, .none, .none, .none, .ref 252, iv 564 0, iv 141 0, sv "/claim/cut.py" 565]
noncomputable def ob_254 (P : Params) : Obj := qf "posix_items" "posix_items" (tS 22) (.none) (sv "perlcore.signclass" 440) 253
noncomputable def ob_255 (P : Params) : Obj := qt []
noncomputable def ob_257 (P : Params) : Obj := qt [sv "item" 570, sv "sign" 571]
noncomputable def ob_258 (P : Params) : Obj := qt []
noncomputable def ob_260 (P : Params) : Obj := qc [sv "item_holds" 567, sv "item_holds" 568, sv "/claim/cut.py" 569, iv 143 0, iv 2 0, iv 0 0, iv 0 0, iv 3 0, .ref 255, .bool true, iv 181 0, .ref 256, .none, .ref 257, .ref 258, .ref 259, iv 572 0, iv 143 0, sv "/claim/cut.py" 573]
noncomputable def ob_261 (P : Params) : Obj := qf "item_holds" "item_holds" (tS 23) (.none) (sv "perlcore.signclass" 440) 260
noncomputable def ob_262 (P : Params) : Obj := qt []
noncomputable def ob_264 (P : Params) : Obj := qt [sv "items" 578, sv "sign" 579, sv "item" 580]
noncomputable def ob_265 (P : Params) : Obj := qt []
noncomputable def ob_267 (P : Params) : Obj := qc [sv "items_hold" 575, sv "items_hold" 576, sv "/claim/cut.py" 577, iv 149 0, iv 2 0, iv 0 0, iv 0 0, iv 3 0, .ref 262, .bool true, iv 181 0, .ref 263, .none, .ref 264, .ref 265, .ref 266, iv 581 0, iv 149 0, sv "/claim/cut.py" 582]
noncomputable def ob_268 (P : Params) : Obj := qf "items_hold" "items_hold" (tS 24) (.none) (sv "perlcore.signclass" 440) 267
noncomputable def ob_269 (P : Params) : Obj := qt []
noncomputable def ob_271 (P : Params) : Obj := qt [sv "items" 587, sv "is_negated" 588, sv "is_folded" 589, sv "sign" 590, sv "found" 591]
noncomputable def ob_272 (P : Params) : Obj := qt []
noncomputable def ob_274 (P : Params) : Obj := qc [sv "set_holds" 584, sv "set_holds" 585, sv "/claim/cut.py" 586, iv 154 0, iv 4 0, iv 0 0, iv 0 0, iv 3 0, .ref 269, .bool true, iv 181 0, .ref 270, .none, .ref 271, .ref 272, .ref 273, iv 592 0, iv 154 0, sv "/claim/cut.py" 593]
noncomputable def ob_275 (P : Params) : Obj := qf "set_holds" "set_holds" (tS 25) (.none) (sv "perlcore.signclass" 440) 274
noncomputable def ob_276 (P : Params) : Obj := qt []
noncomputable def ob_278 (P : Params) : Obj := qt [sv "test" 598, sv "sign" 599]
noncomputable def ob_279 (P : Params) : Obj := qt []
noncomputable def ob_281 (P : Params) : Obj := qc [sv "sign_fits" 595, sv "sign_fits" 596, sv "/claim/cut.py" 597, iv 159 0, iv 2 0, iv 0 0, iv 0 0, iv 3 0, .ref 276, .bool true, iv 181 0, .ref 277, .none, .ref 278, .ref 279, .ref 280, iv 600 0, iv 159 0, sv "/claim/cut.py" 601]
noncomputable def ob_282 (P : Params) : Obj := qf "sign_fits" "sign_fits" (tS 26) (.none) (sv "perlcore.signclass" 440) 281
noncomputable def ob_283 (P : Params) : Obj := { cls := .type "dict", data := .dict #[qd P "n" 605 (sv "\n" 606), qd P "t" 607 (sv "\t" 608), qd P "r" 609 (sv "\x0d" 610), qd P "f" 611 (sv "\x0c" 612), qd P "e" 613 (sv "\x1b" 614), qd P "a" 615 (sv "\x07" 616)] 6 }
noncomputable def ob_291 (P : Params) : Obj := qt []
noncomputable def ob_293 (P : Params) : Obj := qt [sv "self" 649, sv "text" 650, sv "total" 651]
noncomputable def ob_294 (P : Params) : Obj := qt []
noncomputable def ob_296 (P : Params) : Obj := qc [sv "__init__" 646, sv "PatternText.__init__" 647, sv "/claim/cut.py" 648, iv 174 0, iv 3 0, iv 0 0, iv 0 0, iv 3 0, .ref 291, .bool true, iv 181 0, .ref 292, .none, .ref 293, .ref 294, .ref 295, iv 652 0, iv 174 0, sv "/claim/cut.py" 653]
noncomputable def ob_297 (P : Params) : Obj := qf "__init__" "PatternText.__init__" (cS 34 0) (.none) (sv "perlcore.reescape" 603) 296
noncomputable def ob_298 (P : Params) : Obj := qt []
noncomputable def ob_300 (P : Params) : Obj := qt [sv "self" 658]
noncomputable def ob_301 (P : Params) : Obj := qt []
noncomputable def ob_303 (P : Params) : Obj := qc [sv "peek" 655, sv "PatternText.peek" 656, sv "/claim/cut.py" 657, iv 183 0, iv 1 0, iv 0 0, iv 0 0, iv 3 0, .ref 298, .bool true, iv 181 0, .ref 299, .none, .ref 300, .ref 301, .ref 302, iv 659 0, iv 183 0, sv "/claim/cut.py" 660]
noncomputable def ob_304 (P : Params) : Obj := qf "peek" "PatternText.peek" (cS 34 1) (.none) (sv "perlcore.reescape" 603) 303
noncomputable def ob_305 (P : Params) : Obj := qt []
noncomputable def ob_307 (P : Params) : Obj := qt [sv "self" 665, sv "word" 666]
noncomputable def ob_308 (P : Params) : Obj := qt []
noncomputable def ob_310 (P : Params) : Obj := qc [sv "skips" 662, sv "PatternText.skips" 663, sv "/claim/cut.py" 664, iv 186 0, iv 2 0, iv 0 0, iv 0 0, iv 3 0, .ref 305, .bool true, iv 181 0, .ref 306, .none, .ref 307, .ref 308, .ref 309, iv 667 0, iv 186 0, sv "/claim/cut.py" 668]
noncomputable def ob_311 (P : Params) : Obj := qf "skips" "PatternText.skips" (cS 34 2) (.none) (sv "perlcore.reescape" 603) 310
noncomputable def ob_312 (P : Params) : Obj := qt [sv "at" 670, sv "depth" 671, sv "groups" 672, sv "names" 673, sv "spoken" 674, sv "text" 675, sv "total" 676]
noncomputable def ob_313 (P : Params) : Obj := { cls := .type "dict", data := .dict #[qd P "__module__" 641 (sv "perlcore.reescape" 603), qd P "__firstlineno__" 645 (iv 172 644), qd P "__init__" 654 (.ref 297), qd P "peek" 661 (.ref 304), qd P "skips" 669 (.ref 311), qd P "__static_attributes__" 677 (.ref 312), qd P "__dict__" 679 (.ref 315), qd P "__weakref__" 681 (.ref 316), qd P "__doc__" 682 (.none)] 4 }
noncomputable def ob_314 (P : Params) : Obj := { cls := .type "type", data := .cls { name := qs "PatternText", bases := [.type "object"], mro := [.ref 314, .type "object"], ns := 313, qualname := qs "PatternText" }, slots := #[none, none, some (sv "PatternText" 634), some (sv "PatternText" 642), some (.builtin "object.__new__"), some (.bool true)] }
noncomputable def ob_315 (P : Params) : Obj := { cls := .type "getset_descriptor", data := .fields #[sv "__dict__" 678, .ref 314, .builtin "function.__dict__", .builtin "function.__dict__#set"] }
noncomputable def ob_316 (P : Params) : Obj := { cls := .type "getset_descriptor", data := .fields #[sv "__weakref__" 680, .ref 314, .builtin "ExceptionGroup.__weakref__", .none] }
noncomputable def ob_319 (P : Params) : Obj := qt []
noncomputable def ob_321 (P : Params) : Obj := qt [sv "state" 688, sv "signs" 689, sv "most" 690, sv "begun" 691]
noncomputable def ob_322 (P : Params) : Obj := qt []
noncomputable def ob_324 (P : Params) : Obj := qc [sv "run_of" 685, sv "run_of" 686, sv "/claim/cut.py" 687, iv 191 0, iv 3 0, iv 0 0, iv 0 0, iv 3 0, .ref 319, .bool true, iv 181 0, .ref 320, .none, .ref 321, .ref 322, .ref 323, iv 692 0, iv 191 0, sv "/claim/cut.py" 693]
noncomputable def ob_325 (P : Params) : Obj := qf "run_of" "run_of" (tS 35) (.none) (sv "perlcore.reescape" 603) 324
noncomputable def ob_326 (P : Params) : Obj := qt []
noncomputable def ob_328 (P : Params) : Obj := qt [sv "run" 698, sv "base" 699, sv "found" 700, sv "sign" 701]
noncomputable def ob_329 (P : Params) : Obj := qt []
noncomputable def ob_331 (P : Params) : Obj := qc [sv "number_of_run" 695, sv "number_of_run" 696, sv "/claim/cut.py" 697, iv 196 0, iv 2 0, iv 0 0, iv 0 0, iv 3 0, .ref 326, .bool true, iv 181 0, .ref 327, .none, .ref 328, .ref 329, .ref 330, iv 702 0, iv 196 0, sv "/claim/cut.py" 703]
noncomputable def ob_332 (P : Params) : Obj := qf "number_of_run" "number_of_run" (tS 36) (.none) (sv "perlcore.reescape" 603) 331
noncomputable def ob_333 (P : Params) : Obj := qt []
noncomputable def ob_335 (P : Params) : Obj := qt [sv "state" 708, sv "end" 709, sv "close" 710, sv "found" 711]
noncomputable def ob_336 (P : Params) : Obj := qt []
noncomputable def ob_338 (P : Params) : Obj := qc [sv "until_sign" 705, sv "until_sign" 706, sv "/claim/cut.py" 707, iv 201 0, iv 2 0, iv 0 0, iv 0 0, iv 3 0, .ref 333, .bool true, iv 181 0, .ref 334, .none, .ref 335, .ref 336, .ref 337, iv 712 0, iv 201 0, sv "/claim/cut.py" 713]
noncomputable def ob_339 (P : Params) : Obj := qf "until_sign" "until_sign" (tS 37) (.none) (sv "perlcore.reescape" 603) 338
noncomputable def ob_340 (P : Params) : Obj := qt []
noncomputable def ob_342 (P : Params) : Obj := qt [sv "code" 718, sv "at" 719]
noncomputable def ob_343 (P : Params) : Obj := qt []
noncomputable def ob_345 (P : Params) : Obj := qc [sv "sign_of_code" 715, sv "sign_of_code" 716, sv "/claim/cut.py" 717, iv 208 0, iv 2 0, iv 0 0, iv 0 0, iv 3 0, .ref 340, .bool true, iv 181 0, .ref 341, .none, .ref 342, .ref 343, .ref 344, iv 720 0, iv 208 0, sv "/claim/cut.py" 721]
noncomputable def ob_346 (P : Params) : Obj := qf "sign_of_code" "sign_of_code" (tS 38) (.none) (sv "perlcore.reescape" 603) 345
noncomputable def ob_347 (P : Params) : Obj := qt []
noncomputable def ob_350 (P : Params) : Obj := qc [sv "read_hex_sign" 723, sv "read_hex_sign" 724, sv "/claim/cut.py" 725, iv 212 0, iv 1 0, iv 0 0, iv 0 0, iv 3 0, .ref 347, .bool true, iv 181 0, .ref 348, .none, .none, .none, .ref 349, iv 726 0, iv 212 0, sv "/claim/cut.py" 727]
noncomputable def ob_351 (P : Params) : Obj := qf "read_hex_sign" "read_hex_sign" (tS 39) (.none) (sv "perlcore.reescape" 603) 350
noncomputable def ob_352 (P : Params) : Obj := qt []
noncomputable def ob_355 (P : Params) : Obj := qc [sv "read_octal_sign" 729, sv "read_octal_sign" 730, sv "/claim/cut.py" 731, iv 220 0, iv 1 0, iv 0 0, iv 0 0, iv 3 0, .ref 352, .bool true, iv 181 0, .ref 353, .none, .none, .none, .ref 354, iv 732 0, iv 220 0, sv "/claim/cut.py" 733]
noncomputable def ob_356 (P : Params) : Obj := qf "read_octal_sign" "read_octal_sign" (tS 40) (.none) (sv "perlcore.reescape" 603) 355
noncomputable def ob_357 (P : Params) : Obj := qt []
noncomputable def ob_360 (P : Params) : Obj := qc [sv "read_named_sign" 735, sv "read_named_sign" 736, sv "/claim/cut.py" 737, iv 228 0, iv 1 0, iv 0 0, iv 0 0, iv 3 0, .ref 357, .bool true, iv 181 0, .ref 358, .none, .none, .none, .ref 359, iv 738 0, iv 228 0, sv "/claim/cut.py" 739]
noncomputable def ob_361 (P : Params) : Obj := qf "read_named_sign" "read_named_sign" (tS 41) (.none) (sv "perlcore.reescape" 603) 360
noncomputable def ob_362 (P : Params) : Obj := qt []
noncomputable def ob_364 (P : Params) : Obj := qt [sv "state" 744, sv "sign" 745]
noncomputable def ob_365 (P : Params) : Obj := qt []
noncomputable def ob_367 (P : Params) : Obj := qc [sv "read_plain_escape" 741, sv "read_plain_escape" 742, sv "/claim/cut.py" 743, iv 236 0, iv 1 0, iv 0 0, iv 0 0, iv 3 0, .ref 362, .bool true, iv 181 0, .ref 363, .none, .ref 364, .ref 365, .ref 366, iv 746 0, iv 236 0, sv "/claim/cut.py" 747]
noncomputable def ob_368 (P : Params) : Obj := qf "read_plain_escape" "read_plain_escape" (tS 42) (.none) (sv "perlcore.reescape" 603) 367
noncomputable def ob_369 (P : Params) : Obj := qt []
noncomputable def ob_371 (P : Params) : Obj := qt [sv "state" 752, sv "sign" 753]
noncomputable def ob_372 (P : Params) : Obj := qt []
noncomputable def ob_374 (P : Params) : Obj := qc [sv "read_control" 749, sv "read_control" 750, sv "/claim/cut.py" 751, iv 252 0, iv 1 0, iv 0 0, iv 0 0, iv 3 0, .ref 369, .bool true, iv 181 0, .ref 370, .none, .ref 371, .ref 372, .ref 373, iv 754 0, iv 252 0, sv "/claim/cut.py" 755]
noncomputable def ob_375 (P : Params) : Obj := qf "read_control" "read_control" (tS 43) (.none) (sv "perlcore.reescape" 603) 374
noncomputable def ob_376 (P : Params) : Obj := qt []
noncomputable def ob_378 (P : Params) : Obj := qt [sv "text" 760, sv "at" 761, sv "signs" 762]
noncomputable def ob_379 (P : Params) : Obj := qt []
noncomputable def ob_381 (P : Params) : Obj := qc [sv "signs_end" 757, sv "signs_end" 758, sv "/claim/cut.py" 759, iv 258 0, iv 3 0, iv 0 0, iv 0 0, iv 3 0, .ref 376, .bool true, iv 181 0, .ref 377, .none, .ref 378, .ref 379, .ref 380, iv 763 0, iv 258 0, sv "/claim/cut.py" 764]
noncomputable def ob_382 (P : Params) : Obj := qf "signs_end" "signs_end" (tS 44) (.none) (sv "perlcore.reescape" 603) 381
noncomputable def ob_383 (P : Params) : Obj := qt []
noncomputable def ob_385 (P : Params) : Obj := qt [sv "text" 769, sv "at" 770, sv "close" 771]
noncomputable def ob_386 (P : Params) : Obj := qt []
noncomputable def ob_388 (P : Params) : Obj := qc [sv "posix_end" 766, sv "posix_end" 767, sv "/claim/cut.py" 768, iv 262 0, iv 2 0, iv 0 0, iv 0 0, iv 3 0, .ref 383, .bool true, iv 181 0, .ref 384, .none, .ref 385, .ref 386, .ref 387, iv 772 0, iv 262 0, sv "/claim/cut.py" 773]
noncomputable def ob_389 (P : Params) : Obj := qf "posix_end" "posix_end" (tS 45) (.none) (sv "perlcore.reescape" 603) 388
noncomputable def ob_390 (P : Params) : Obj := qt []
noncomputable def ob_392 (P : Params) : Obj := qt [sv "state" 778, sv "is_folded" 779, sv "close" 780, sv "name" 781, sv "bare" 782, sv "items" 783]
noncomputable def ob_393 (P : Params) : Obj := qt []
noncomputable def ob_395 (P : Params) : Obj := qc [sv "read_posix" 775, sv "read_posix" 776, sv "/claim/cut.py" 777, iv 267 0, iv 2 0, iv 0 0, iv 0 0, iv 3 0, .ref 390, .bool true, iv 181 0, .ref 391, .none, .ref 392, .ref 393, .ref 394, iv 784 0, iv 267 0, sv "/claim/cut.py" 785]
noncomputable def ob_396 (P : Params) : Obj := qf "read_posix" "read_posix" (tS 46) (.none) (sv "perlcore.reescape" 603) 395
noncomputable def ob_397 (P : Params) : Obj := qt []
noncomputable def ob_399 (P : Params) : Obj := qt [sv "state" 790, sv "is_folded" 791, sv "found" 792, sv "sign" 793, sv "letter" 794]
noncomputable def ob_400 (P : Params) : Obj := qt []
noncomputable def ob_402 (P : Params) : Obj := qc [sv "read_member" 787, sv "read_member" 788, sv "/claim/cut.py" 789, iv 278 0, iv 2 0, iv 0 0, iv 0 0, iv 3 0, .ref 397, .bool true, iv 181 0, .ref 398, .none, .ref 399, .ref 400, .ref 401, iv 795 0, iv 278 0, sv "/claim/cut.py" 796]
noncomputable def ob_403 (P : Params) : Obj := qf "read_member" "read_member" (tS 47) (.none) (sv "perlcore.reescape" 603) 402
noncomputable def ob_404 (P : Params) : Obj := qt []
noncomputable def ob_406 (P : Params) : Obj := qt [sv "items" 801]
noncomputable def ob_407 (P : Params) : Obj := qt []
noncomputable def ob_409 (P : Params) : Obj := qc [sv "is_one_sign" 798, sv "is_one_sign" 799, sv "/claim/cut.py" 800, iv 295 0, iv 1 0, iv 0 0, iv 0 0, iv 3 0, .ref 404, .bool true, iv 181 0, .ref 405, .none, .ref 406, .ref 407, .ref 408, iv 802 0, iv 295 0, sv "/claim/cut.py" 803]
noncomputable def ob_410 (P : Params) : Obj := qf "is_one_sign" "is_one_sign" (tS 48) (.none) (sv "perlcore.reescape" 603) 409
noncomputable def ob_411 (P : Params) : Obj := qt []
noncomputable def ob_413 (P : Params) : Obj := qt [sv "state" 808, sv "first" 809, sv "is_folded" 810, sv "at" 811, sv "second" 812]
noncomputable def ob_414 (P : Params) : Obj := qt []
noncomputable def ob_416 (P : Params) : Obj := qc [sv "read_range_end" 805, sv "read_range_end" 806, sv "/claim/cut.py" 807, iv 297 0, iv 3 0, iv 0 0, iv 0 0, iv 3 0, .ref 411, .bool true, iv 181 0, .ref 412, .none, .ref 413, .ref 414, .ref 415, iv 813 0, iv 297 0, sv "/claim/cut.py" 814]
noncomputable def ob_417 (P : Params) : Obj := qf "read_range_end" "read_range_end" (tS 49) (.none) (sv "perlcore.reescape" 603) 416
noncomputable def ob_418 (P : Params) : Obj := qt []
noncomputable def ob_420 (P : Params) : Obj := qt [sv "state" 819, sv "is_folded" 820, sv "begun" 821, sv "is_negated" 822, sv "items" 823, sv "is_first" 824, sv "found" 825, sv "behind" 826]
noncomputable def ob_421 (P : Params) : Obj := qt []
noncomputable def ob_423 (P : Params) : Obj := qc [sv "read_set" 816, sv "read_set" 817, sv "/claim/cut.py" 818, iv 306 0, iv 2 0, iv 0 0, iv 0 0, iv 3 0, .ref 418, .bool true, iv 181 0, .ref 419, .none, .ref 420, .ref 421, .ref 422, iv 827 0, iv 306 0, sv "/claim/cut.py" 828]
noncomputable def ob_424 (P : Params) : Obj := qf "read_set" "read_set" (tS 50) (.none) (sv "perlcore.reescape" 603) 423
noncomputable def ob_425 (P : Params) : Obj := { cls := .type "dict", data := .dict #[qd P "*" 836 (.ref 426), qd P "+" 840 (.ref 427), qd P "?" 844 (.ref 428)] 3 }
noncomputable def ob_426 (P : Params) : Obj := qt [iv 0 837, ivn 0 839]
noncomputable def ob_427 (P : Params) : Obj := qt [iv 1 841, ivn 0 843]
noncomputable def ob_428 (P : Params) : Obj := qt [iv 0 845, iv 1 846]
noncomputable def ob_429 (P : Params) : Obj := qt []
noncomputable def ob_431 (P : Params) : Obj := qt [sv "text" 854, sv "found" 855, sv "at" 856, sv "close" 857]
noncomputable def ob_432 (P : Params) : Obj := qt []
noncomputable def ob_434 (P : Params) : Obj := qc [sv "count_groups" 851, sv "count_groups" 852, sv "/claim/cut.py" 853, iv 327 0, iv 1 0, iv 0 0, iv 0 0, iv 3 0, .ref 429, .bool true, iv 181 0, .ref 430, .none, .ref 431, .ref 432, .ref 433, iv 858 0, iv 327 0, sv "/claim/cut.py" 859]
noncomputable def ob_435 (P : Params) : Obj := qf "count_groups" "count_groups" (tS 55) (.none) (sv "perlcore.repieces" 830) 434
noncomputable def ob_436 (P : Params) : Obj := qt []
noncomputable def ob_438 (P : Params) : Obj := qt [sv "text" 864, sv "at" 865, sv "behind" 866]
noncomputable def ob_439 (P : Params) : Obj := qt []
noncomputable def ob_441 (P : Params) : Obj := qc [sv "behind_set" 861, sv "behind_set" 862, sv "/claim/cut.py" 863, iv 342 0, iv 2 0, iv 0 0, iv 0 0, iv 3 0, .ref 436, .bool true, iv 181 0, .ref 437, .none, .ref 438, .ref 439, .ref 440, iv 867 0, iv 342 0, sv "/claim/cut.py" 868]
noncomputable def ob_442 (P : Params) : Obj := qf "behind_set" "behind_set" (tS 56) (.none) (sv "perlcore.repieces" 830) 441
noncomputable def ob_443 (P : Params) : Obj := qt []
noncomputable def ob_445 (P : Params) : Obj := qt [sv "text" 873, sv "at" 874, sv "close" 875]
noncomputable def ob_446 (P : Params) : Obj := qt []
noncomputable def ob_448 (P : Params) : Obj := qc [sv "behind_posix" 870, sv "behind_posix" 871, sv "/claim/cut.py" 872, iv 355 0, iv 2 0, iv 0 0, iv 0 0, iv 3 0, .ref 443, .bool true, iv 181 0, .ref 444, .none, .ref 445, .ref 446, .ref 447, iv 876 0, iv 355 0, sv "/claim/cut.py" 877]
noncomputable def ob_449 (P : Params) : Obj := qf "behind_posix" "behind_posix" (tS 57) (.none) (sv "perlcore.repieces" 830) 448
noncomputable def ob_450 (P : Params) : Obj := qt []
noncomputable def ob_452 (P : Params) : Obj := qt [sv "signs" 882]
noncomputable def ob_453 (P : Params) : Obj := qt []
noncomputable def ob_455 (P : Params) : Obj := qc [sv "opens_capture" 879, sv "opens_capture" 880, sv "/claim/cut.py" 881, iv 358 0, iv 1 0, iv 0 0, iv 0 0, iv 3 0, .ref 450, .bool true, iv 181 0, .ref 451, .none, .ref 452, .ref 453, .ref 454, iv 883 0, iv 358 0, sv "/claim/cut.py" 884]
noncomputable def ob_456 (P : Params) : Obj := qf "opens_capture" "opens_capture" (tS 58) (.none) (sv "perlcore.repieces" 830) 455
noncomputable def ob_457 (P : Params) : Obj := qt []
noncomputable def ob_460 (P : Params) : Obj := qc [sv "is_name_text" 886, sv "is_name_text" 887, sv "/claim/cut.py" 888, iv 362 0, iv 1 0, iv 0 0, iv 0 0, iv 3 0, .ref 457, .bool true, iv 181 0, .ref 458, .none, .none, .none, .ref 459, iv 889 0, iv 362 0, sv "/claim/cut.py" 890]
noncomputable def ob_461 (P : Params) : Obj := qf "is_name_text" "is_name_text" (tS 59) (.none) (sv "perlcore.repieces" 830) 460
noncomputable def ob_462 (P : Params) : Obj := qt []
noncomputable def ob_464 (P : Params) : Obj := qt [sv "text" 895, sv "at" 896, sv "comma" 897, sv "least" 898, sv "close" 899]
noncomputable def ob_465 (P : Params) : Obj := qt []
noncomputable def ob_467 (P : Params) : Obj := qc [sv "braces_count" 892, sv "braces_count" 893, sv "/claim/cut.py" 894, iv 364 0, iv 2 0, iv 0 0, iv 0 0, iv 3 0, .ref 462, .bool true, iv 181 0, .ref 463, .none, .ref 464, .ref 465, .ref 466, iv 900 0, iv 364 0, sv "/claim/cut.py" 901]
noncomputable def ob_468 (P : Params) : Obj := qf "braces_count" "braces_count" (tS 60) (.none) (sv "perlcore.repieces" 830) 467
noncomputable def ob_469 (P : Params) : Obj := qt []
noncomputable def ob_471 (P : Params) : Obj := qt [sv "state" 906, sv "sign" 907, sv "found" 908, sv "least" 909, sv "most" 910, sv "behind" 911]
noncomputable def ob_472 (P : Params) : Obj := qt []
noncomputable def ob_474 (P : Params) : Obj := qc [sv "take_count" 903, sv "take_count" 904, sv "/claim/cut.py" 905, iv 375 0, iv 1 0, iv 0 0, iv 0 0, iv 3 0, .ref 469, .bool true, iv 181 0, .ref 470, .none, .ref 471, .ref 472, .ref 473, iv 912 0, iv 375 0, sv "/claim/cut.py" 913]
noncomputable def ob_475 (P : Params) : Obj := qf "take_count" "take_count" (tS 61) (.none) (sv "perlcore.repieces" 830) 474
noncomputable def ob_476 (P : Params) : Obj := qt []
noncomputable def ob_478 (P : Params) : Obj := qt [sv "state" 918, sv "close" 919, sv "at" 920, sv "name" 921]
noncomputable def ob_479 (P : Params) : Obj := qt []
noncomputable def ob_481 (P : Params) : Obj := qc [sv "read_name" 915, sv "read_name" 916, sv "/claim/cut.py" 917, iv 390 0, iv 3 0, iv 0 0, iv 0 0, iv 3 0, .ref 476, .bool true, iv 181 0, .ref 477, .none, .ref 478, .ref 479, .ref 480, iv 922 0, iv 390 0, sv "/claim/cut.py" 923]
noncomputable def ob_482 (P : Params) : Obj := qf "read_name" "read_name" (tS 62) (.none) (sv "perlcore.repieces" 830) 481
noncomputable def ob_483 (P : Params) : Obj := qt []
noncomputable def ob_485 (P : Params) : Obj := qt [sv "state" 928, sv "numbers" 929, sv "at" 930]
noncomputable def ob_486 (P : Params) : Obj := qt []
noncomputable def ob_488 (P : Params) : Obj := qc [sv "speak_of" 925, sv "speak_of" 926, sv "/claim/cut.py" 927, iv 395 0, iv 3 0, iv 0 0, iv 0 0, iv 3 0, .ref 483, .bool true, iv 181 0, .ref 484, .none, .ref 485, .ref 486, .ref 487, iv 931 0, iv 395 0, sv "/claim/cut.py" 932]
noncomputable def ob_489 (P : Params) : Obj := qf "speak_of" "speak_of" (tS 63) (.none) (sv "perlcore.repieces" 830) 488
noncomputable def ob_490 (P : Params) : Obj := qt []
noncomputable def ob_492 (P : Params) : Obj := qt [sv "state" 937, sv "at" 938, sv "opening" 939, sv "close" 940]
noncomputable def ob_493 (P : Params) : Obj := qt []
noncomputable def ob_495 (P : Params) : Obj := qc [sv "read_named_back" 934, sv "read_named_back" 935, sv "/claim/cut.py" 936, iv 398 0, iv 2 0, iv 0 0, iv 0 0, iv 3 0, .ref 490, .bool true, iv 181 0, .ref 491, .none, .ref 492, .ref 493, .ref 494, iv 941 0, iv 398 0, sv "/claim/cut.py" 942]
noncomputable def ob_496 (P : Params) : Obj := qf "read_named_back" "read_named_back" (tS 64) (.none) (sv "perlcore.repieces" 830) 495
noncomputable def ob_497 (P : Params) : Obj := qt []
noncomputable def ob_499 (P : Params) : Obj := qt [sv "state" 947, sv "at" 948, sv "begun" 949, sv "has_braces" 950, sv "is_back" 951, sv "run" 952, sv "number" 953]
noncomputable def ob_500 (P : Params) : Obj := qt []
noncomputable def ob_502 (P : Params) : Obj := qc [sv "read_numbered_back" 944, sv "read_numbered_back" 945, sv "/claim/cut.py" 946, iv 403 0, iv 2 0, iv 0 0, iv 0 0, iv 3 0, .ref 497, .bool true, iv 181 0, .ref 498, .none, .ref 499, .ref 500, .ref 501, iv 954 0, iv 403 0, sv "/claim/cut.py" 955]
noncomputable def ob_503 (P : Params) : Obj := qf "read_numbered_back" "read_numbered_back" (tS 65) (.none) (sv "perlcore.repieces" 830) 502
noncomputable def ob_504 (P : Params) : Obj := qt []
noncomputable def ob_507 (P : Params) : Obj := qc [sv "width_of" 957, sv "width_of" 958, sv "/claim/cut.py" 959, iv 413 0, iv 1 0, iv 0 0, iv 0 0, iv 3 0, .ref 504, .bool true, iv 181 0, .ref 505, .none, .none, .none, .ref 506, iv 960 0, iv 413 0, sv "/claim/cut.py" 961]
noncomputable def ob_508 (P : Params) : Obj := qf "width_of" "width_of" (tS 66) (.none) (sv "perlcore.repieces" 830) 507
noncomputable def ob_509 (P : Params) : Obj := qt [sv "(?=" 969, .bool false, .bool false]
noncomputable def ob_510 (P : Params) : Obj := qt [sv "(?!" 970, .bool false, .bool true]
noncomputable def ob_511 (P : Params) : Obj := qt [sv "(?<=" 971, .bool true, .bool false]
noncomputable def ob_512 (P : Params) : Obj := qt [sv "(?<!" 972, .bool true, .bool true]
noncomputable def ob_513 (P : Params) : Obj := { cls := .type "list", data := .seq #[.ref 509, .ref 510, .ref 511, .ref 512] }
noncomputable def ob_514 (P : Params) : Obj := qt [sv "(?<" 974, sv ">" 975]
noncomputable def ob_515 (P : Params) : Obj := qt [sv "(?P<" 976, sv ">" 977]
noncomputable def ob_516 (P : Params) : Obj := qt [sv "(?'" 978, sv "'" 979]
noncomputable def ob_517 (P : Params) : Obj := { cls := .type "list", data := .seq #[.ref 514, .ref 515, .ref 516] }
noncomputable def ob_518 (P : Params) : Obj := qt []
noncomputable def ob_520 (P : Params) : Obj := qt [sv "state" 984, sv "flags" 985, sv "close" 986]
noncomputable def ob_521 (P : Params) : Obj := qt []
noncomputable def ob_523 (P : Params) : Obj := qc [sv "skip_unseen" 981, sv "skip_unseen" 982, sv "/claim/cut.py" 983, iv 435 0, iv 2 0, iv 0 0, iv 0 0, iv 3 0, .ref 518, .bool true, iv 181 0, .ref 519, .none, .ref 520, .ref 521, .ref 522, iv 987 0, iv 435 0, sv "/claim/cut.py" 988]
noncomputable def ob_524 (P : Params) : Obj := qf "skip_unseen" "skip_unseen" (tS 72) (.none) (sv "perlcore.repattern" 963) 523
noncomputable def ob_525 (P : Params) : Obj := qt []
noncomputable def ob_528 (P : Params) : Obj := qc [sv "read_flags" 990, sv "read_flags" 991, sv "/claim/cut.py" 992, iv 446 0, iv 2 0, iv 0 0, iv 0 0, iv 3 0, .ref 525, .bool true, iv 181 0, .ref 526, .none, .none, .none, .ref 527, iv 993 0, iv 446 0, sv "/claim/cut.py" 994]
noncomputable def ob_529 (P : Params) : Obj := qf "read_flags" "read_flags" (tS 73) (.none) (sv "perlcore.repattern" 963) 528
noncomputable def ob_530 (P : Params) : Obj := qt []
noncomputable def ob_532 (P : Params) : Obj := qt [sv "state" 999, sv "flags" 1000, sv "begun" 1001, sv "found" 1002]
noncomputable def ob_533 (P : Params) : Obj := qt []
noncomputable def ob_535 (P : Params) : Obj := qc [sv "read_inline" 996, sv "read_inline" 997, sv "/claim/cut.py" 998, iv 450 0, iv 2 0, iv 0 0, iv 0 0, iv 3 0, .ref 530, .bool true, iv 181 0, .ref 531, .none, .ref 532, .ref 533, .ref 534, iv 1003 0, iv 450 0, sv "/claim/cut.py" 1004]
noncomputable def ob_536 (P : Params) : Obj := qf "read_inline" "read_inline" (tS 74) (.none) (sv "perlcore.repattern" 963) 535
noncomputable def ob_537 (P : Params) : Obj := qt []
noncomputable def ob_539 (P : Params) : Obj := qt [sv "state" 1009, sv "flags" 1010, sv "branches" 1011, sv "node" 1012]
noncomputable def ob_540 (P : Params) : Obj := qt []
noncomputable def ob_542 (P : Params) : Obj := qc [sv "read_alternation" 1006, sv "read_alternation" 1007, sv "/claim/cut.py" 1008, iv 459 0, iv 2 0, iv 0 0, iv 0 0, iv 3 0, .ref 537, .bool true, iv 181 0, .ref 538, .none, .ref 539, .ref 540, .ref 541, iv 1013 0, iv 459 0, sv "/claim/cut.py" 1014]
noncomputable def ob_543 (P : Params) : Obj := qf "read_alternation" "read_alternation" (tS 75) (.none) (sv "perlcore.repattern" 963) 542
noncomputable def ob_544 (P : Params) : Obj := qt []
noncomputable def ob_546 (P : Params) : Obj := qt [sv "state" 1019, sv "flags" 1020, sv "parts" 1021, sv "changed" 1022]
noncomputable def ob_547 (P : Params) : Obj := qt []
noncomputable def ob_549 (P : Params) : Obj := qc [sv "read_branch" 1016, sv "read_branch" 1017, sv "/claim/cut.py" 1018, iv 466 0, iv 2 0, iv 0 0, iv 0 0, iv 3 0, .ref 544, .bool true, iv 181 0, .ref 545, .none, .ref 546, .ref 547, .ref 548, iv 1023 0, iv 466 0, sv "/claim/cut.py" 1024]
noncomputable def ob_550 (P : Params) : Obj := qf "read_branch" "read_branch" (tS 76) (.none) (sv "perlcore.repattern" 963) 549
noncomputable def ob_551 (P : Params) : Obj := qt []
noncomputable def ob_553 (P : Params) : Obj := qt [sv "state" 1029, sv "flags" 1030, sv "sign" 1031]
noncomputable def ob_554 (P : Params) : Obj := qt []
noncomputable def ob_556 (P : Params) : Obj := qc [sv "read_atom" 1026, sv "read_atom" 1027, sv "/claim/cut.py" 1028, iv 477 0, iv 2 0, iv 0 0, iv 0 0, iv 3 0, .ref 551, .bool true, iv 181 0, .ref 552, .none, .ref 553, .ref 554, .ref 555, iv 1032 0, iv 477 0, sv "/claim/cut.py" 1033]
noncomputable def ob_557 (P : Params) : Obj := qf "read_atom" "read_atom" (tS 77) (.none) (sv "perlcore.repattern" 963) 556
noncomputable def ob_558 (P : Params) : Obj := qt []
noncomputable def ob_560 (P : Params) : Obj := qt [sv "state" 1038, sv "flags" 1039, sv "node" 1040, sv "count" 1041, sv "mode" 1042, sv "begun" 1043]
noncomputable def ob_561 (P : Params) : Obj := qt []
noncomputable def ob_563 (P : Params) : Obj := qc [sv "read_counted" 1035, sv "read_counted" 1036, sv "/claim/cut.py" 1037, iv 495 0, iv 3 0, iv 0 0, iv 0 0, iv 3 0, .ref 558, .bool true, iv 181 0, .ref 559, .none, .ref 560, .ref 561, .ref 562, iv 1044 0, iv 495 0, sv "/claim/cut.py" 1045]
noncomputable def ob_564 (P : Params) : Obj := qf "read_counted" "read_counted" (tS 78) (.none) (sv "perlcore.repattern" 963) 563
noncomputable def ob_565 (P : Params) : Obj := qt []
noncomputable def ob_567 (P : Params) : Obj := qt [sv "state" 1050, sv "flags" 1051, sv "begun" 1052, sv "node" 1053]
noncomputable def ob_568 (P : Params) : Obj := qt []
noncomputable def ob_570 (P : Params) : Obj := qc [sv "read_inner" 1047, sv "read_inner" 1048, sv "/claim/cut.py" 1049, iv 514 0, iv 3 0, iv 0 0, iv 0 0, iv 3 0, .ref 565, .bool true, iv 181 0, .ref 566, .none, .ref 567, .ref 568, .ref 569, iv 1054 0, iv 514 0, sv "/claim/cut.py" 1055]
noncomputable def ob_571 (P : Params) : Obj := qf "read_inner" "read_inner" (tS 79) (.none) (sv "perlcore.repattern" 963) 570
noncomputable def ob_572 (P : Params) : Obj := qt []
noncomputable def ob_574 (P : Params) : Obj := qt [sv "state" 1060, sv "flags" 1061, sv "begun" 1062, sv "name" 1063, sv "number" 1064]
noncomputable def ob_575 (P : Params) : Obj := qt []
noncomputable def ob_577 (P : Params) : Obj := qc [sv "read_capture" 1057, sv "read_capture" 1058, sv "/claim/cut.py" 1059, iv 523 0, iv 4 0, iv 0 0, iv 0 0, iv 3 0, .ref 572, .bool true, iv 181 0, .ref 573, .none, .ref 574, .ref 575, .ref 576, iv 1065 0, iv 523 0, sv "/claim/cut.py" 1066]
noncomputable def ob_578 (P : Params) : Obj := qf "read_capture" "read_capture" (tS 80) (.none) (sv "perlcore.repattern" 963) 577
noncomputable def ob_579 (P : Params) : Obj := qt []
noncomputable def ob_581 (P : Params) : Obj := qt [sv "state" 1071, sv "flags" 1072, sv "begun" 1073, sv "is_behind" 1074, sv "is_negated" 1075, sv "node" 1076, sv "width" 1077]
noncomputable def ob_582 (P : Params) : Obj := qt []
noncomputable def ob_584 (P : Params) : Obj := qc [sv "read_look" 1068, sv "read_look" 1069, sv "/claim/cut.py" 1070, iv 529 0, iv 5 0, iv 0 0, iv 0 0, iv 3 0, .ref 579, .bool true, iv 181 0, .ref 580, .none, .ref 581, .ref 582, .ref 583, iv 1078 0, iv 529 0, sv "/claim/cut.py" 1079]
noncomputable def ob_585 (P : Params) : Obj := qf "read_look" "read_look" (tS 81) (.none) (sv "perlcore.repattern" 963) 584
noncomputable def ob_586 (P : Params) : Obj := qt []
noncomputable def ob_588 (P : Params) : Obj := qt [sv "state" 1084, sv "flags" 1085, sv "begun" 1086, sv "opening" 1087, sv "is_behind" 1088, sv "is_negated" 1089, sv "close" 1090, sv "changed" 1091]
noncomputable def ob_589 (P : Params) : Obj := qt []
noncomputable def ob_591 (P : Params) : Obj := qc [sv "read_group" 1081, sv "read_group" 1082, sv "/claim/cut.py" 1083, iv 535 0, iv 2 0, iv 0 0, iv 0 0, iv 3 0, .ref 586, .bool true, iv 181 0, .ref 587, .none, .ref 588, .ref 589, .ref 590, iv 1092 0, iv 535 0, sv "/claim/cut.py" 1093]
noncomputable def ob_592 (P : Params) : Obj := qf "read_group" "read_group" (tS 82) (.none) (sv "perlcore.repattern" 963) 591
noncomputable def ob_593 (P : Params) : Obj := qt []
noncomputable def ob_595 (P : Params) : Obj := qt [sv "state" 1098]
noncomputable def ob_596 (P : Params) : Obj := qt []
noncomputable def ob_598 (P : Params) : Obj := qc [sv "is_sign_told" 1095, sv "is_sign_told" 1096, sv "/claim/cut.py" 1097, iv 554 0, iv 1 0, iv 0 0, iv 0 0, iv 3 0, .ref 593, .bool true, iv 181 0, .ref 594, .none, .ref 595, .ref 596, .ref 597, iv 1099 0, iv 554 0, sv "/claim/cut.py" 1100]
noncomputable def ob_599 (P : Params) : Obj := qf "is_sign_told" "is_sign_told" (tS 83) (.none) (sv "perlcore.repattern" 963) 598
noncomputable def ob_600 (P : Params) : Obj := qt []
noncomputable def ob_602 (P : Params) : Obj := qt [sv "state" 1105, sv "flags" 1106, sv "at" 1107, sv "is_folded" 1108, sv "letter" 1109, sv "begun" 1110, sv "number" 1111]
noncomputable def ob_603 (P : Params) : Obj := qt []
noncomputable def ob_605 (P : Params) : Obj := qc [sv "read_escape" 1102, sv "read_escape" 1103, sv "/claim/cut.py" 1104, iv 556 0, iv 2 0, iv 0 0, iv 0 0, iv 3 0, .ref 600, .bool true, iv 181 0, .ref 601, .none, .ref 602, .ref 603, .ref 604, iv 1112 0, iv 556 0, sv "/claim/cut.py" 1113]
noncomputable def ob_606 (P : Params) : Obj := qf "read_escape" "read_escape" (tS 84) (.none) (sv "perlcore.repattern" 963) 605
noncomputable def ob_607 (P : Params) : Obj := qt []
noncomputable def ob_610 (P : Params) : Obj := qc [sv "parse_pattern" 1115, sv "parse_pattern" 1116, sv "/claim/cut.py" 1117, iv 580 0, iv 2 0, iv 0 0, iv 0 0, iv 3 0, .ref 607, .bool true, iv 181 0, .ref 608, .none, .none, .none, .ref 609, iv 1118 0, iv 580 0, sv "/claim/cut.py" 1119]
noncomputable def ob_611 (P : Params) : Obj := qf "parse_pattern" "parse_pattern" (tS 85) (.none) (sv "perlcore.repattern" 963) 610
noncomputable def ob_612 (P : Params) : Obj := qt []
noncomputable def ob_614 (P : Params) : Obj := qt [sv "text" 1126, sv "flags" 1127, sv "node" 1128, sv "groups" 1129, sv "names" 1130]
noncomputable def ob_615 (P : Params) : Obj := qt []
noncomputable def ob_617 (P : Params) : Obj := qc [sv "compile_pattern" 1123, sv "compile_pattern" 1124, sv "/claim/cut.py" 1125, iv 590 0, iv 2 0, iv 0 0, iv 0 0, iv 3 0, .ref 612, .bool true, iv 181 0, .ref 613, .none, .ref 614, .ref 615, .ref 616, iv 1131 0, iv 590 0, sv "/claim/cut.py" 1132]
noncomputable def ob_618 (P : Params) : Obj := qf "compile_pattern" "compile_pattern" (tS 87) (.none) (sv "perlcore.patterns" 1121) 617
noncomputable def ob_626 (P : Params) : Obj := qt [iv 64 1148, iv 50 1149, iv 1000000 1152, iv 100000 1155, iv 10000 1158]
noncomputable def ob_627 (P : Params) : Obj := qt []
noncomputable def ob_629 (P : Params) : Obj := qt [sv "self" 1162, sv "width" 1163, sv "depth" 1164, sv "steps" 1165, sv "text" 1166, sv "items" 1167]
noncomputable def ob_630 (P : Params) : Obj := qt []
noncomputable def ob_632 (P : Params) : Obj := qc [sv "__init__" 1159, sv "Limits.__init__" 1160, sv "/claim/cut.py" 1161, iv 596 0, iv 6 0, iv 0 0, iv 0 0, iv 3 0, .ref 627, .bool true, iv 181 0, .ref 628, .none, .ref 629, .ref 630, .ref 631, iv 1168 0, iv 596 0, sv "/claim/cut.py" 1169]
noncomputable def ob_633 (P : Params) : Obj := ⟨.type "function", none, .func (FuncData.mk (qs "__init__") (qs "Limits.__init__") (pS (cS 89 0)) (bS (cS 89 0)) (sS (cS 89 0)) 3 ([]) (.ref 626) (.none) (.none) (sv "perlcore.limits" 1134) (none) (.ref 632) (.none) 0), #[]⟩
noncomputable def ob_634 (P : Params) : Obj := qt [sv "depth" 1171, sv "items" 1172, sv "steps" 1173, sv "text" 1174, sv "width" 1175]
noncomputable def ob_635 (P : Params) : Obj := { cls := .type "dict", data := .dict #[qd P "__module__" 1143 (sv "perlcore.limits" 1134), qd P "__firstlineno__" 1147 (iv 594 1146), qd P "__init__" 1170 (.ref 633), qd P "__static_attributes__" 1176 (.ref 634), qd P "__dict__" 1178 (.ref 637), qd P "__weakref__" 1180 (.ref 638), qd P "__doc__" 1181 (.none)] 4 }
noncomputable def ob_636 (P : Params) : Obj := { cls := .type "type", data := .cls { name := qs "Limits", bases := [.type "object"], mro := [.ref 636, .type "object"], ns := 635, qualname := qs "Limits" }, slots := #[none, none, some (sv "Limits" 1136), some (sv "Limits" 1144), some (.builtin "object.__new__"), some (.bool true)] }
noncomputable def ob_637 (P : Params) : Obj := { cls := .type "getset_descriptor", data := .fields #[sv "__dict__" 1177, .ref 636, .builtin "function.__dict__", .builtin "function.__dict__#set"] }
noncomputable def ob_638 (P : Params) : Obj := { cls := .type "getset_descriptor", data := .fields #[sv "__weakref__" 1179, .ref 636, .builtin "ExceptionGroup.__weakref__", .none] }
noncomputable def ob_648 (P : Params) : Obj := qt []
noncomputable def ob_650 (P : Params) : Obj := qt [sv "self" 1205, sv "program" 1206, sv "text" 1207, sv "begin" 1208, sv "least_end" 1209, sv "most" 1210]
noncomputable def ob_651 (P : Params) : Obj := qt []
noncomputable def ob_653 (P : Params) : Obj := qc [sv "__init__" 1202, sv "MatchRun.__init__" 1203, sv "/claim/cut.py" 1204, iv 607 0, iv 6 0, iv 0 0, iv 0 0, iv 3 0, .ref 648, .bool true, iv 181 0, .ref 649, .none, .ref 650, .ref 651, .ref 652, iv 1211 0, iv 607 0, sv "/claim/cut.py" 1212]
noncomputable def ob_654 (P : Params) : Obj := qf "__init__" "MatchRun.__init__" (cS 93 0) (.none) (sv "perlcore.rematch" 1184) 653
noncomputable def ob_655 (P : Params) : Obj := qt [sv "at" 1214, sv "begin" 1215, sv "groups" 1216, sv "least_end" 1217, sv "most" 1218, sv "pile" 1219, sv "program" 1220, sv "registers" 1221, sv "row" 1222, sv "steps" 1223, sv "text" 1224]
noncomputable def ob_656 (P : Params) : Obj := { cls := .type "dict", data := .dict #[qd P "__module__" 1197 (sv "perlcore.rematch" 1184), qd P "__firstlineno__" 1201 (iv 605 1200), qd P "__init__" 1213 (.ref 654), qd P "__static_attributes__" 1225 (.ref 655), qd P "__dict__" 1227 (.ref 658), qd P "__weakref__" 1229 (.ref 659), qd P "__doc__" 1230 (.none)] 4 }
noncomputable def ob_657 (P : Params) : Obj := { cls := .type "type", data := .cls { name := qs "MatchRun", bases := [.type "object"], mro := [.ref 657, .type "object"], ns := 656, qualname := qs "MatchRun" }, slots := #[none, none, some (sv "MatchRun" 1190), some (sv "MatchRun" 1198), some (.builtin "object.__new__"), some (.bool true)] }
noncomputable def ob_658 (P : Params) : Obj := { cls := .type "getset_descriptor", data := .fields #[sv "__dict__" 1226, .ref 657, .builtin "function.__dict__", .builtin "function.__dict__#set"] }
noncomputable def ob_659 (P : Params) : Obj := { cls := .type "getset_descriptor", data := .fields #[sv "__weakref__" 1228, .ref 657, .builtin "ExceptionGroup.__weakref__", .none] }
noncomputable def ob_662 (P : Params) : Obj := qt []
noncomputable def ob_664 (P : Params) : Obj := qt [sv "run" 1236, sv "k" 1237, sv "value" 1238]
noncomputable def ob_665 (P : Params) : Obj := qt []
noncomputable def ob_667 (P : Params) : Obj := qc [sv "set_register" 1233, sv "set_register" 1234, sv "/claim/cut.py" 1235, iv 619 0, iv 3 0, iv 0 0, iv 0 0, iv 3 0, .ref 662, .bool true, iv 181 0, .ref 663, .none, .ref 664, .ref 665, .ref 666, iv 1239 0, iv 619 0, sv "/claim/cut.py" 1240]
noncomputable def ob_668 (P : Params) : Obj := qf "set_register" "set_register" (tS 94) (.none) (sv "perlcore.rematch" 1184) 667
noncomputable def ob_669 (P : Params) : Obj := qt []
noncomputable def ob_671 (P : Params) : Obj := qt [sv "run" 1245]
noncomputable def ob_672 (P : Params) : Obj := qt []
noncomputable def ob_674 (P : Params) : Obj := qc [sv "go_on" 1242, sv "go_on" 1243, sv "/claim/cut.py" 1244, iv 622 0, iv 1 0, iv 0 0, iv 0 0, iv 3 0, .ref 669, .bool true, iv 181 0, .ref 670, .none, .ref 671, .ref 672, .ref 673, iv 1246 0, iv 622 0, sv "/claim/cut.py" 1247]
noncomputable def ob_675 (P : Params) : Obj := qf "go_on" "go_on" (tS 95) (.none) (sv "perlcore.rematch" 1184) 674
noncomputable def ob_676 (P : Params) : Obj := qt []
noncomputable def ob_678 (P : Params) : Obj := qt [sv "run" 1252, sv "row" 1253]
noncomputable def ob_679 (P : Params) : Obj := qt []
noncomputable def ob_681 (P : Params) : Obj := qc [sv "row_test" 1249, sv "row_test" 1250, sv "/claim/cut.py" 1251, iv 625 0, iv 2 0, iv 0 0, iv 0 0, iv 3 0, .ref 676, .bool true, iv 181 0, .ref 677, .none, .ref 678, .ref 679, .ref 680, iv 1254 0, iv 625 0, sv "/claim/cut.py" 1255]
noncomputable def ob_682 (P : Params) : Obj := qf "row_test" "row_test" (tS 96) (.none) (sv "perlcore.rematch" 1184) 681
noncomputable def ob_683 (P : Params) : Obj := qt []
noncomputable def ob_685 (P : Params) : Obj := qt [sv "run" 1260, sv "test" 1261, sv "at" 1262, sv "most" 1263, sv "stop" 1264]
noncomputable def ob_686 (P : Params) : Obj := qt []
noncomputable def ob_688 (P : Params) : Obj := qc [sv "run_end" 1257, sv "run_end" 1258, sv "/claim/cut.py" 1259, iv 630 0, iv 4 0, iv 0 0, iv 0 0, iv 3 0, .ref 683, .bool true, iv 181 0, .ref 684, .none, .ref 685, .ref 686, .ref 687, iv 1265 0, iv 630 0, sv "/claim/cut.py" 1266]
noncomputable def ob_689 (P : Params) : Obj := qf "run_end" "run_end" (tS 97) (.none) (sv "perlcore.rematch" 1184) 688
noncomputable def ob_690 (P : Params) : Obj := qt []
noncomputable def ob_692 (P : Params) : Obj := qt [sv "run" 1271, sv "row" 1272, sv "word" 1273, sv "test" 1274, sv "least" 1275, sv "most" 1276, sv "is_lazy" 1277, sv "low" 1278, sv "end" 1279]
noncomputable def ob_693 (P : Params) : Obj := qt []
noncomputable def ob_695 (P : Params) : Obj := qc [sv "row_run" 1268, sv "row_run" 1269, sv "/claim/cut.py" 1270, iv 635 0, iv 2 0, iv 0 0, iv 0 0, iv 3 0, .ref 690, .bool true, iv 181 0, .ref 691, .none, .ref 692, .ref 693, .ref 694, iv 1280 0, iv 635 0, sv "/claim/cut.py" 1281]
noncomputable def ob_696 (P : Params) : Obj := qf "row_run" "row_run" (tS 98) (.none) (sv "perlcore.rematch" 1184) 695
noncomputable def ob_697 (P : Params) : Obj := qt []
noncomputable def ob_699 (P : Params) : Obj := qt [sv "run" 1286, sv "word" 1287, sv "at" 1288, sv "text" 1289, sv "is_word_ahead" 1290, sv "is_edge" 1291]
noncomputable def ob_700 (P : Params) : Obj := qt []
noncomputable def ob_702 (P : Params) : Obj := qc [sv "place_holds" 1283, sv "place_holds" 1284, sv "/claim/cut.py" 1285, iv 649 0, iv 2 0, iv 0 0, iv 0 0, iv 3 0, .ref 697, .bool true, iv 181 0, .ref 698, .none, .ref 699, .ref 700, .ref 701, iv 1292 0, iv 649 0, sv "/claim/cut.py" 1293]
noncomputable def ob_703 (P : Params) : Obj := qf "place_holds" "place_holds" (tS 99) (.none) (sv "perlcore.rematch" 1184) 702
noncomputable def ob_704 (P : Params) : Obj := qt []
noncomputable def ob_706 (P : Params) : Obj := qt [sv "run" 1298, sv "row" 1299]
noncomputable def ob_707 (P : Params) : Obj := qt []
noncomputable def ob_709 (P : Params) : Obj := qc [sv "row_at" 1295, sv "row_at" 1296, sv "/claim/cut.py" 1297, iv 667 0, iv 2 0, iv 0 0, iv 0 0, iv 3 0, .ref 704, .bool true, iv 181 0, .ref 705, .none, .ref 706, .ref 707, .ref 708, iv 1300 0, iv 667 0, sv "/claim/cut.py" 1301]
noncomputable def ob_710 (P : Params) : Obj := qf "row_at" "row_at" (tS 100) (.none) (sv "perlcore.rematch" 1184) 709
noncomputable def ob_711 (P : Params) : Obj := qt []
noncomputable def ob_713 (P : Params) : Obj := qt [sv "run" 1306, sv "row" 1307, sv "n" 1308, sv "begin" 1309, sv "end" 1310, sv "k" 1311]
noncomputable def ob_714 (P : Params) : Obj := qt []
noncomputable def ob_716 (P : Params) : Obj := qc [sv "row_back" 1303, sv "row_back" 1304, sv "/claim/cut.py" 1305, iv 669 0, iv 2 0, iv 0 0, iv 0 0, iv 3 0, .ref 711, .bool true, iv 181 0, .ref 712, .none, .ref 713, .ref 714, .ref 715, iv 1312 0, iv 669 0, sv "/claim/cut.py" 1313]
noncomputable def ob_717 (P : Params) : Obj := qf "row_back" "row_back" (tS 101) (.none) (sv "perlcore.rematch" 1184) 716
noncomputable def ob_718 (P : Params) : Obj := qt []
noncomputable def ob_720 (P : Params) : Obj := qt [sv "run" 1318, sv "row" 1319]
noncomputable def ob_721 (P : Params) : Obj := qt []
noncomputable def ob_723 (P : Params) : Obj := qc [sv "row_open" 1315, sv "row_open" 1316, sv "/claim/cut.py" 1317, iv 682 0, iv 2 0, iv 0 0, iv 0 0, iv 3 0, .ref 718, .bool true, iv 181 0, .ref 719, .none, .ref 720, .ref 721, .ref 722, iv 1320 0, iv 682 0, sv "/claim/cut.py" 1321]
noncomputable def ob_724 (P : Params) : Obj := qf "row_open" "row_open" (tS 102) (.none) (sv "perlcore.rematch" 1184) 723
noncomputable def ob_725 (P : Params) : Obj := qt []
noncomputable def ob_727 (P : Params) : Obj := qt [sv "run" 1326, sv "row" 1327]
noncomputable def ob_728 (P : Params) : Obj := qt []
noncomputable def ob_730 (P : Params) : Obj := qc [sv "row_close" 1323, sv "row_close" 1324, sv "/claim/cut.py" 1325, iv 685 0, iv 2 0, iv 0 0, iv 0 0, iv 3 0, .ref 725, .bool true, iv 181 0, .ref 726, .none, .ref 727, .ref 728, .ref 729, iv 1328 0, iv 685 0, sv "/claim/cut.py" 1329]
noncomputable def ob_731 (P : Params) : Obj := qf "row_close" "row_close" (tS 103) (.none) (sv "perlcore.rematch" 1184) 730
noncomputable def ob_732 (P : Params) : Obj := qt []
noncomputable def ob_734 (P : Params) : Obj := qt [sv "run" 1334, sv "row" 1335]
noncomputable def ob_735 (P : Params) : Obj := qt []
noncomputable def ob_737 (P : Params) : Obj := qc [sv "row_jump" 1331, sv "row_jump" 1332, sv "/claim/cut.py" 1333, iv 689 0, iv 2 0, iv 0 0, iv 0 0, iv 3 0, .ref 732, .bool true, iv 181 0, .ref 733, .none, .ref 734, .ref 735, .ref 736, iv 1336 0, iv 689 0, sv "/claim/cut.py" 1337]
noncomputable def ob_738 (P : Params) : Obj := qf "row_jump" "row_jump" (tS 104) (.none) (sv "perlcore.rematch" 1184) 737
noncomputable def ob_739 (P : Params) : Obj := qt []
noncomputable def ob_741 (P : Params) : Obj := qt [sv "run" 1342, sv "row" 1343]
noncomputable def ob_742 (P : Params) : Obj := qt []
noncomputable def ob_744 (P : Params) : Obj := qc [sv "row_split" 1339, sv "row_split" 1340, sv "/claim/cut.py" 1341, iv 692 0, iv 2 0, iv 0 0, iv 0 0, iv 3 0, .ref 739, .bool true, iv 181 0, .ref 740, .none, .ref 741, .ref 742, .ref 743, iv 1344 0, iv 692 0, sv "/claim/cut.py" 1345]
noncomputable def ob_745 (P : Params) : Obj := qf "row_split" "row_split" (tS 105) (.none) (sv "perlcore.rematch" 1184) 744
noncomputable def ob_746 (P : Params) : Obj := qt []
noncomputable def ob_748 (P : Params) : Obj := qt [sv "run" 1350, sv "row" 1351]
noncomputable def ob_749 (P : Params) : Obj := qt []
noncomputable def ob_751 (P : Params) : Obj := qc [sv "row_zero" 1347, sv "row_zero" 1348, sv "/claim/cut.py" 1349, iv 696 0, iv 2 0, iv 0 0, iv 0 0, iv 3 0, .ref 746, .bool true, iv 181 0, .ref 747, .none, .ref 748, .ref 749, .ref 750, iv 1352 0, iv 696 0, sv "/claim/cut.py" 1353]
noncomputable def ob_752 (P : Params) : Obj := qf "row_zero" "row_zero" (tS 106) (.none) (sv "perlcore.rematch" 1184) 751
noncomputable def ob_753 (P : Params) : Obj := qt []
noncomputable def ob_755 (P : Params) : Obj := qt [sv "run" 1358, sv "row" 1359, sv "word" 1360, sv "count" 1361, sv "place" 1362, sv "least" 1363, sv "most" 1364, sv "is_lazy" 1365, sv "again" 1366, sv "behind" 1367, sv "rounds" 1368]
noncomputable def ob_756 (P : Params) : Obj := qt []
noncomputable def ob_758 (P : Params) : Obj := qc [sv "row_loop" 1355, sv "row_loop" 1356, sv "/claim/cut.py" 1357, iv 700 0, iv 2 0, iv 0 0, iv 0 0, iv 3 0, .ref 753, .bool true, iv 181 0, .ref 754, .none, .ref 755, .ref 756, .ref 757, iv 1369 0, iv 700 0, sv "/claim/cut.py" 1370]
noncomputable def ob_759 (P : Params) : Obj := qf "row_loop" "row_loop" (tS 107) (.none) (sv "perlcore.rematch" 1184) 758
noncomputable def ob_760 (P : Params) : Obj := qt []
noncomputable def ob_762 (P : Params) : Obj := qt [sv "run" 1375, sv "row" 1376]
noncomputable def ob_763 (P : Params) : Obj := qt []
noncomputable def ob_765 (P : Params) : Obj := qc [sv "row_again" 1372, sv "row_again" 1373, sv "/claim/cut.py" 1374, iv 714 0, iv 2 0, iv 0 0, iv 0 0, iv 3 0, .ref 760, .bool true, iv 181 0, .ref 761, .none, .ref 762, .ref 763, .ref 764, iv 1377 0, iv 714 0, sv "/claim/cut.py" 1378]
noncomputable def ob_766 (P : Params) : Obj := qf "row_again" "row_again" (tS 108) (.none) (sv "perlcore.rematch" 1184) 765
noncomputable def ob_767 (P : Params) : Obj := qt []
noncomputable def ob_769 (P : Params) : Obj := qt [sv "run" 1383, sv "row" 1384]
noncomputable def ob_770 (P : Params) : Obj := qt []
noncomputable def ob_772 (P : Params) : Obj := qc [sv "row_mark" 1380, sv "row_mark" 1381, sv "/claim/cut.py" 1382, iv 719 0, iv 2 0, iv 0 0, iv 0 0, iv 3 0, .ref 767, .bool true, iv 181 0, .ref 768, .none, .ref 769, .ref 770, .ref 771, iv 1385 0, iv 719 0, sv "/claim/cut.py" 1386]
noncomputable def ob_773 (P : Params) : Obj := qf "row_mark" "row_mark" (tS 109) (.none) (sv "perlcore.rematch" 1184) 772
noncomputable def ob_774 (P : Params) : Obj := qt []
noncomputable def ob_777 (P : Params) : Obj := qc [sv "row_cut" 1388, sv "row_cut" 1389, sv "/claim/cut.py" 1390, iv 723 0, iv 2 0, iv 0 0, iv 0 0, iv 3 0, .ref 774, .bool true, iv 181 0, .ref 775, .none, .none, .none, .ref 776, iv 1391 0, iv 723 0, sv "/claim/cut.py" 1392]
noncomputable def ob_778 (P : Params) : Obj := qf "row_cut" "row_cut" (tS 110) (.none) (sv "perlcore.rematch" 1184) 777
noncomputable def ob_779 (P : Params) : Obj := qt []
noncomputable def ob_781 (P : Params) : Obj := qt [sv "run" 1397, sv "entry" 1398]
noncomputable def ob_782 (P : Params) : Obj := qt []
noncomputable def ob_784 (P : Params) : Obj := qc [sv "undo_entry" 1394, sv "undo_entry" 1395, sv "/claim/cut.py" 1396, iv 727 0, iv 2 0, iv 0 0, iv 0 0, iv 3 0, .ref 779, .bool true, iv 181 0, .ref 780, .none, .ref 781, .ref 782, .ref 783, iv 1399 0, iv 727 0, sv "/claim/cut.py" 1400]
noncomputable def ob_785 (P : Params) : Obj := qf "undo_entry" "undo_entry" (tS 111) (.none) (sv "perlcore.rematch" 1184) 784
noncomputable def ob_786 (P : Params) : Obj := qt []
noncomputable def ob_788 (P : Params) : Obj := qt [sv "run" 1405, sv "row" 1406, sv "height" 1407]
noncomputable def ob_789 (P : Params) : Obj := qt []
noncomputable def ob_791 (P : Params) : Obj := qc [sv "row_refuse" 1402, sv "row_refuse" 1403, sv "/claim/cut.py" 1404, iv 732 0, iv 2 0, iv 0 0, iv 0 0, iv 3 0, .ref 786, .bool true, iv 181 0, .ref 787, .none, .ref 788, .ref 789, .ref 790, iv 1408 0, iv 732 0, sv "/claim/cut.py" 1409]
noncomputable def ob_792 (P : Params) : Obj := qf "row_refuse" "row_refuse" (tS 112) (.none) (sv "perlcore.rematch" 1184) 791
noncomputable def ob_793 (P : Params) : Obj := qt []
noncomputable def ob_795 (P : Params) : Obj := qt [sv "run" 1414, sv "row" 1415]
noncomputable def ob_796 (P : Params) : Obj := qt []
noncomputable def ob_798 (P : Params) : Obj := qc [sv "row_place" 1411, sv "row_place" 1412, sv "/claim/cut.py" 1413, iv 737 0, iv 2 0, iv 0 0, iv 0 0, iv 3 0, .ref 793, .bool true, iv 181 0, .ref 794, .none, .ref 795, .ref 796, .ref 797, iv 1416 0, iv 737 0, sv "/claim/cut.py" 1417]
noncomputable def ob_799 (P : Params) : Obj := qf "row_place" "row_place" (tS 113) (.none) (sv "perlcore.rematch" 1184) 798
noncomputable def ob_800 (P : Params) : Obj := qt []
noncomputable def ob_802 (P : Params) : Obj := qt [sv "run" 1422, sv "row" 1423]
noncomputable def ob_803 (P : Params) : Obj := qt []
noncomputable def ob_805 (P : Params) : Obj := qc [sv "row_return" 1419, sv "row_return" 1420, sv "/claim/cut.py" 1421, iv 740 0, iv 2 0, iv 0 0, iv 0 0, iv 3 0, .ref 800, .bool true, iv 181 0, .ref 801, .none, .ref 802, .ref 803, .ref 804, iv 1424 0, iv 740 0, sv "/claim/cut.py" 1425]
noncomputable def ob_806 (P : Params) : Obj := qf "row_return" "row_return" (tS 114) (.none) (sv "perlcore.rematch" 1184) 805
noncomputable def ob_807 (P : Params) : Obj := qt []
noncomputable def ob_809 (P : Params) : Obj := qt [sv "run" 1430, sv "row" 1431]
noncomputable def ob_810 (P : Params) : Obj := qt []
noncomputable def ob_812 (P : Params) : Obj := qc [sv "row_behind" 1427, sv "row_behind" 1428, sv "/claim/cut.py" 1429, iv 743 0, iv 2 0, iv 0 0, iv 0 0, iv 3 0, .ref 807, .bool true, iv 181 0, .ref 808, .none, .ref 809, .ref 810, .ref 811, iv 1432 0, iv 743 0, sv "/claim/cut.py" 1433]
noncomputable def ob_813 (P : Params) : Obj := qf "row_behind" "row_behind" (tS 115) (.none) (sv "perlcore.rematch" 1184) 812
noncomputable def ob_814 (P : Params) : Obj := qt []
noncomputable def ob_816 (P : Params) : Obj := qt []
noncomputable def ob_817 (P : Params) : Obj := qt []
noncomputable def ob_819 (P : Params) : Obj := qc [sv "row_words" 1435, sv "row_words" 1436, sv "/claim/cut.py" 1437, iv 748 0, iv 0 0, iv 0 0, iv 0 0, iv 3 0, .ref 814, .bool true, iv 181 0, .ref 815, .none, .ref 816, .ref 817, .ref 818, iv 1438 0, iv 748 0, sv "/claim/cut.py" 1439]
noncomputable def ob_820 (P : Params) : Obj := qf "row_words" "row_words" (tS 116) (.none) (sv "perlcore.rematch" 1184) 819
noncomputable def ob_821 (P : Params) : Obj := qt []
noncomputable def ob_823 (P : Params) : Obj := qt [sv "run" 1444, sv "entry" 1445, sv "word" 1446, sv "row" 1447, sv "test" 1448, sv "at" 1449, sv "left" 1450]
noncomputable def ob_824 (P : Params) : Obj := qt []
noncomputable def ob_826 (P : Params) : Obj := qc [sv "take_more" 1441, sv "take_more" 1442, sv "/claim/cut.py" 1443, iv 750 0, iv 2 0, iv 0 0, iv 0 0, iv 3 0, .ref 821, .bool true, iv 181 0, .ref 822, .none, .ref 823, .ref 824, .ref 825, iv 1451 0, iv 750 0, sv "/claim/cut.py" 1452]
noncomputable def ob_827 (P : Params) : Obj := qf "take_more" "take_more" (tS 117) (.none) (sv "perlcore.rematch" 1184) 826
noncomputable def ob_828 (P : Params) : Obj := qt []
noncomputable def ob_830 (P : Params) : Obj := qt [sv "run" 1457, sv "entry" 1458]
noncomputable def ob_831 (P : Params) : Obj := qt []
noncomputable def ob_833 (P : Params) : Obj := qc [sv "back_up" 1454, sv "back_up" 1455, sv "/claim/cut.py" 1456, iv 759 0, iv 1 0, iv 0 0, iv 0 0, iv 3 0, .ref 828, .bool true, iv 181 0, .ref 829, .none, .ref 830, .ref 831, .ref 832, iv 1459 0, iv 759 0, sv "/claim/cut.py" 1460]
noncomputable def ob_834 (P : Params) : Obj := qf "back_up" "back_up" (tS 118) (.none) (sv "perlcore.rematch" 1184) 833
noncomputable def ob_835 (P : Params) : Obj := qt []
noncomputable def ob_837 (P : Params) : Obj := qt [sv "run" 1465, sv "words" 1466, sv "start" 1467, sv "row" 1468, sv "is_right" 1469]
noncomputable def ob_838 (P : Params) : Obj := qt []
noncomputable def ob_840 (P : Params) : Obj := qc [sv "match_from" 1462, sv "match_from" 1463, sv "/claim/cut.py" 1464, iv 778 0, iv 3 0, iv 0 0, iv 0 0, iv 3 0, .ref 835, .bool true, iv 181 0, .ref 836, .none, .ref 837, .ref 838, .ref 839, iv 1470 0, iv 778 0, sv "/claim/cut.py" 1471]
noncomputable def ob_841 (P : Params) : Obj := qf "match_from" "match_from" (tS 119) (.none) (sv "perlcore.rematch" 1184) 840
noncomputable def ob_842 (P : Params) : Obj := qt [.none, .none]
noncomputable def ob_843 (P : Params) : Obj := qt []
noncomputable def ob_845 (P : Params) : Obj := qt [sv "program" 1476, sv "text" 1477, sv "at" 1478, sv "limits" 1479, sv "least_end" 1480, sv "begin" 1481, sv "spent" 1482, sv "run" 1483, sv "words" 1484, sv "start" 1485]
noncomputable def ob_846 (P : Params) : Obj := qt []
noncomputable def ob_848 (P : Params) : Obj := qc [sv "search_pattern" 1473, sv "search_pattern" 1474, sv "/claim/cut.py" 1475, iv 799 0, iv 7 0, iv 0 0, iv 0 0, iv 3 0, .ref 843, .bool true, iv 181 0, .ref 844, .none, .ref 845, .ref 846, .ref 847, iv 1486 0, iv 799 0, sv "/claim/cut.py" 1487]
noncomputable def ob_849 (P : Params) : Obj := ⟨.type "function", none, .func (FuncData.mk (qs "search_pattern") (qs "search_pattern") (pS (tS 120)) (bS (tS 120)) (sS (tS 120)) 3 ([]) (.ref 842) (.none) (.none) (sv "perlcore.rematch" 1184) (none) (.ref 848) (.none) 0), #[]⟩
noncomputable def ob_850 (P : Params) : Obj := qt [.none, .none]
noncomputable def ob_851 (P : Params) : Obj := qt []
noncomputable def ob_853 (P : Params) : Obj := qt [sv "program" 1494, sv "text" 1495, sv "at" 1496, sv "was_empty" 1497, sv "limits" 1498, sv "begin" 1499, sv "spent" 1500]
noncomputable def ob_854 (P : Params) : Obj := qt []
noncomputable def ob_856 (P : Params) : Obj := qc [sv "next_match" 1491, sv "next_match" 1492, sv "/claim/cut.py" 1493, iv 810 0, iv 7 0, iv 0 0, iv 0 0, iv 3 0, .ref 851, .bool true, iv 181 0, .ref 852, .none, .ref 853, .ref 854, .ref 855, iv 1501 0, iv 810 0, sv "/claim/cut.py" 1502]
noncomputable def ob_857 (P : Params) : Obj := ⟨.type "function", none, .func (FuncData.mk (qs "next_match") (qs "next_match") (pS (tS 122)) (bS (tS 122)) (sS (tS 122)) 3 ([]) (.ref 850) (.none) (.none) (sv "perlcore.reglobal" 1489) (none) (.ref 856) (.none) 0), #[]⟩
noncomputable def ob_858 (P : Params) : Obj := qt [.none]
noncomputable def ob_859 (P : Params) : Obj := qt []
noncomputable def ob_861 (P : Params) : Obj := qt [sv "program" 1507, sv "text" 1508, sv "replace" 1509, sv "is_global" 1510, sv "limits" 1511, sv "begin" 1512, sv "parts" 1513, sv "done" 1514, sv "count" 1515, sv "spent" 1516, sv "groups" 1517, sv "first" 1518, sv "end" 1519]
noncomputable def ob_862 (P : Params) : Obj := qt []
noncomputable def ob_864 (P : Params) : Obj := qc [sv "substitute" 1504, sv "substitute" 1505, sv "/claim/cut.py" 1506, iv 814 0, iv 6 0, iv 0 0, iv 0 0, iv 3 0, .ref 859, .bool true, iv 181 0, .ref 860, .none, .ref 861, .ref 862, .ref 863, iv 1520 0, iv 814 0, sv "/claim/cut.py" 1521]
noncomputable def ob_865 (P : Params) : Obj := ⟨.type "function", none, .func (FuncData.mk (qs "substitute") (qs "substitute") (pS (tS 123)) (bS (tS 123)) (sS (tS 123)) 3 ([]) (.ref 858) (.none) (.none) (sv "perlcore.reglobal" 1489) (none) (.ref 864) (.none) 0), #[]⟩
noncomputable def ob_866 (P : Params) : Obj := qt []
noncomputable def ob_868 (P : Params) : Obj := qt [sv "groups" 1528]
noncomputable def ob_869 (P : Params) : Obj := qt []
noncomputable def ob_871 (P : Params) : Obj := qc [sv "_law_group" 1525, sv "_law_group" 1526, sv "/claim/cut.py" 1527, iv 831 0, iv 1 0, iv 0 0, iv 0 0, iv 3 0, .ref 866, .bool true, iv 181 0, .ref 867, .none, .ref 868, .ref 869, .ref 870, iv 1529 0, iv 831 0, sv "/claim/cut.py" 1530]
noncomputable def ob_872 (P : Params) : Obj := qf "_law_group" "_law_group" (tS 125) (.none) (sv "law_sz0093_01" 1523) 871
noncomputable def ob_873 (P : Params) : Obj := qt []
noncomputable def ob_875 (P : Params) : Obj := qt [sv "script" 1535, sv "cells" 1536, sv "number" 1537, sv "even" 1538, sv "one" 1539, sv "row" 1540, sv "more" 1541, sv "turn" 1542, sv "halved" 1543, sv "count" 1544, sv "longer" 1545, sv "many" 1546]
noncomputable def ob_876 (P : Params) : Obj := qt [sv "times" 1547]
noncomputable def ob_878 (P : Params) : Obj := qc [sv "law" 1532, sv "law" 1533, sv "/claim/cut.py" 1534, iv 833 0, iv 1 0, iv 0 0, iv 0 0, iv 3 0, .ref 873, .bool true, iv 181 0, .ref 874, .none, .ref 875, .ref 876, .ref 877, iv 1548 0, iv 833 0, sv "/claim/cut.py" 1549]
noncomputable def ob_879 (P : Params) : Obj := qf "law" "law" (tS 126) (.none) (sv "law_sz0093_01" 1523) 878
noncomputable def oc_0 (P : Params) : List Obj := [
 boot_o_0 P,
 boot_o_1 P,
 ob_2 P,
 ob_3 P,
 boot_o_4 P,
 boot_o_5 P,
 boot_o_6 P,
 boot_o_7 P,
 boot_o_8 P,
 boot_o_9 P,
 boot_o_10 P,
 qt [],
 { cls := .none, data := .fields #[iv 3 0, iv 0 0, .ref 21, iv 10 0, iv 0 0, .ref 42, iv 23 0, iv 0 0, .ref 77, iv 43 0, iv 0 0, .ref 84, iv 53 0, iv 0 0, .ref 91, iv 58 0, iv 0 0, .ref 98, iv 66 0, iv 0 0, .ref 105, iv 75 0, iv 0 0, .ref 112, iv 93 0, iv 0 0, .ref 119, iv 99 0, iv 0 0, .ref 126, iv 104 0, iv 0 0, .ref 146, iv 109 0, iv 0 0, .ref 165, iv 117 0, iv 0 0, .ref 227, iv 119 0, iv 0 0, .ref 234, iv 133 0, iv 0 0, .ref 241, iv 139 0, iv 0 0, .ref 248, iv 141 0, iv 0 0, .ref 253, iv 143 0, iv 0 0, .ref 260, iv 149 0, iv 0 0, .ref 267, iv 154 0, iv 0 0, .ref 274, iv 159 0, iv 0 0, .ref 281, iv 172 0, iv 0 0, .ref 289, iv 191 0, iv 0 0, .ref 324, iv 196 0, iv 0 0, .ref 331, iv 201 0, iv 0 0, .ref 338, iv 208 0, iv 0 0, .ref 345, iv 212 0, iv 0 0, .ref 350, iv 220 0, iv 0 0, .ref 355, iv 228 0, iv 0 0, .ref 360, iv 236 0, iv 0 0, .ref 367, iv 252 0, iv 0 0, .ref 374, iv 258 0, iv 0 0, .ref 381, iv 262 0, iv 0 0, .ref 388, iv 267 0, iv 0 0, .ref 395, iv 278 0, iv 0 0, .ref 402, iv 295 0, iv 0 0, .ref 409, iv 297 0, iv 0 0, .ref 416, iv 306 0, iv 0 0, .ref 423, iv 327 0, iv 0 0, .ref 434, iv 342 0, iv 0 0, .ref 441, iv 355 0, iv 0 0, .ref 448, iv 358 0, iv 0 0, .ref 455, iv 362 0, iv 0 0, .ref 460, iv 364 0, iv 0 0, .ref 467, iv 375 0, iv 0 0, .ref 474, iv 390 0, iv 0 0, .ref 481, iv 395 0, iv 0 0, .ref 488, iv 398 0, iv 0 0, .ref 495, iv 403 0, iv 0 0, .ref 502, iv 413 0, iv 0 0, .ref 507, iv 435 0, iv 0 0, .ref 523, iv 446 0, iv 0 0, .ref 528, iv 450 0, iv 0 0, .ref 535, iv 459 0, iv 0 0, .ref 542, iv 466 0, iv 0 0, .ref 549, iv 477 0, iv 0 0, .ref 556, iv 495 0, iv 0 0, .ref 563, iv 514 0, iv 0 0, .ref 570, iv 523 0, iv 0 0, .ref 577, iv 529 0, iv 0 0, .ref 584, iv 535 0, iv 0 0, .ref 591, iv 554 0, iv 0 0, .ref 598, iv 556 0, iv 0 0, .ref 605, iv 580 0, iv 0 0, .ref 610, iv 590 0, iv 0 0, .ref 617, iv 594 0, iv 0 0, .ref 624, iv 605 0, iv 0 0, .ref 646, iv 619 0, iv 0 0, .ref 667, iv 622 0, iv 0 0, .ref 674, iv 625 0, iv 0 0, .ref 681, iv 630 0, iv 0 0, .ref 688, iv 635 0, iv 0 0, .ref 695, iv 649 0, iv 0 0, .ref 702, iv 667 0, iv 0 0, .ref 709, iv 669 0, iv 0 0, .ref 716, iv 682 0, iv 0 0, .ref 723, iv 685 0, iv 0 0, .ref 730, iv 689 0, iv 0 0, .ref 737, iv 692 0, iv 0 0, .ref 744, iv 696 0, iv 0 0, .ref 751, iv 700 0, iv 0 0, .ref 758, iv 714 0, iv 0 0, .ref 765, iv 719 0, iv 0 0, .ref 772, iv 723 0, iv 0 0, .ref 777, iv 727 0, iv 0 0, .ref 784, iv 732 0, iv 0 0, .ref 791, iv 737 0, iv 0 0, .ref 798, iv 740 0, iv 0 0, .ref 805, iv 743 0, iv 0 0, .ref 812, iv 748 0, iv 0 0, .ref 819, iv 750 0, iv 0 0, .ref 826, iv 759 0, iv 0 0, .ref 833, iv 778 0, iv 0 0, .ref 840, iv 799 0, iv 0 0, .ref 848, iv 810 0, iv 0 0, .ref 856, iv 814 0, iv 0 0, .ref 864, iv 831 0, iv 0 0, .ref 871, iv 833 0, iv 0 0, .ref 878] },
 qc [sv "<module>" 182, sv "<module>" 183, sv "/claim/cut.py" 184, iv 1 0, iv 0 0, iv 0 0, iv 0 0, iv 0 0, .ref 11, .bool false, iv 181 0, .ref 12, .none, .none, .none, .none, iv 185 0, iv 1 0, sv "/claim/cut.py" 186],
 { cls := .type "frame", slots := #[some (.ref 13), some (.ref 3), some (.ref 3), none, some (sv "__main__" 164), none, some (.ref 0)] },
 ob_15 P,
 qt [],
 { cls := .type "builtin_function_or_method", data := .fields #[.builtin "type.__prepare__", .type "type"] },
 { cls := .type "dict", data := .dict #[qd P "__module__" 200 (sv "perlcore.recompile" 187), qd P "__qualname__" 202 (sv "Program" 201), qd P "__firstlineno__" 204 (iv 3 203), qd P "__init__" 215 (.ref 29), qd P "__static_attributes__" 220 (.ref 30)] 5 },
 qt [],
 { cls := .none, data := .fields #[iv 5 0, iv 4 0, .ref 28] },
 qc [sv "Program" 195, sv "Program" 196, sv "/claim/cut.py" 197, iv 3 0, iv 0 0, iv 0 0, iv 0 0, iv 0 0, .ref 19, .bool false, iv 181 0, .ref 20, .none, .none, .none, .none, iv 198 0, iv 3 0, sv "/claim/cut.py" 199],
 { cls := .type "frame", slots := #[some (.ref 21), some (.ref 3), some (.ref 18), none, some (sv "perlcore.recompile" 187), none, some (.ref 0)] },
 ob_23 P,
 { cls := .none, data := .fields #[] },
 ob_25 P,
 ob_26 P,
 qn "__init__" "Program.__init__" (cS 2 0),
 ob_28 P,
 ob_29 P,
 ob_30 P,
 ob_31 P,
 ob_32 P,
 ob_33 P,
 ob_34 P,
 { cls := .type "super", data := .fields #[.ref 32, .ref 32, .ref 32] },
 { cls := .type "builtin_function_or_method", data := .fields #[.builtin "object.__init_subclass__", .ref 32] },
 qt [],
 { cls := .type "builtin_function_or_method", data := .fields #[.builtin "type.__prepare__", .type "type"] },
 { cls := .type "dict", data := .dict #[qd P "__module__" 235 (sv "perlcore.recompile" 187), qd P "__qualname__" 237 (sv "RowMaker" 236), qd P "__firstlineno__" 239 (iv 10 238), qd P "__init__" 246 (.ref 50), qd P "add" 254 (.ref 57), qd P "fresh" 261 (.ref 64), qd P "__static_attributes__" 264 (.ref 65)] 7 }]
noncomputable def oc_1 (P : Params) : List Obj := [
 qt [],
 { cls := .none, data := .fields #[iv 12 0, iv 4 0, .ref 49, iv 16 0, iv 4 0, .ref 56, iv 20 0, iv 4 0, .ref 63] },
 qc [sv "RowMaker" 230, sv "RowMaker" 231, sv "/claim/cut.py" 232, iv 10 0, iv 0 0, iv 0 0, iv 0 0, iv 0 0, .ref 40, .bool false, iv 181 0, .ref 41, .none, .none, .none, .none, iv 233 0, iv 10 0, sv "/claim/cut.py" 234],
 { cls := .type "frame", slots := #[some (.ref 42), some (.ref 3), some (.ref 39), none, some (sv "perlcore.recompile" 187), none, some (.ref 0)] },
 ob_44 P,
 { cls := .none, data := .fields #[] },
 ob_46 P,
 ob_47 P,
 qn "__init__" "RowMaker.__init__" (cS 3 0),
 ob_49 P,
 ob_50 P,
 ob_51 P,
 { cls := .none, data := .fields #[] },
 ob_53 P,
 ob_54 P,
 qn "add" "RowMaker.add" (cS 3 1),
 ob_56 P,
 ob_57 P,
 ob_58 P,
 { cls := .none, data := .fields #[] },
 ob_60 P,
 ob_61 P,
 qn "fresh" "RowMaker.fresh" (cS 3 2),
 ob_63 P,
 ob_64 P,
 ob_65 P,
 ob_66 P,
 ob_67 P,
 ob_68 P,
 ob_69 P,
 { cls := .type "super", data := .fields #[.ref 67, .ref 67, .ref 67] },
 { cls := .type "builtin_function_or_method", data := .fields #[.builtin "object.__init_subclass__", .ref 67] },
 ob_72 P,
 { cls := .none, data := .fields #[] },
 ob_74 P,
 ob_75 P,
 qn "add_node" "add_node" (tS 4),
 ob_77 P,
 ob_78 P,
 ob_79 P]
noncomputable def oc_2 (P : Params) : List Obj := [
 { cls := .none, data := .fields #[] },
 ob_81 P,
 ob_82 P,
 qn "add_branches" "add_branches" (tS 5),
 ob_84 P,
 ob_85 P,
 ob_86 P,
 { cls := .none, data := .fields #[] },
 ob_88 P,
 ob_89 P,
 qn "add_atomic" "add_atomic" (tS 6),
 ob_91 P,
 ob_92 P,
 ob_93 P,
 { cls := .none, data := .fields #[] },
 ob_95 P,
 ob_96 P,
 qn "add_repeats" "add_repeats" (tS 7),
 ob_98 P,
 ob_99 P,
 ob_100 P,
 { cls := .none, data := .fields #[] },
 ob_102 P,
 ob_103 P,
 qn "add_loop" "add_loop" (tS 8),
 ob_105 P,
 ob_106 P,
 ob_107 P,
 { cls := .none, data := .fields #[] },
 ob_109 P,
 ob_110 P,
 qn "add_look" "add_look" (tS 9),
 ob_112 P,
 ob_113 P,
 ob_114 P,
 { cls := .none, data := .fields #[] },
 ob_116 P,
 ob_117 P,
 qn "compile_tree" "compile_tree" (tS 10),
 ob_119 P]
noncomputable def oc_3 (P : Params) : List Obj := [
 ob_120 P,
 ob_121 P,
 { cls := .type "builtin_function_or_method", data := .fields #[.builtin "type.__prepare__", .type "type"] },
 { cls := .type "dict", data := .dict #[qd P "__module__" 367 (sv "perlcore.errors" 358), qd P "__qualname__" 369 (sv "PerlError" 368), qd P "__firstlineno__" 371 (iv 99 370), qd P "__init__" 379 (.ref 134), qd P "__static_attributes__" 381 (.ref 135)] 5 },
 qt [],
 { cls := .none, data := .fields #[iv 101 0, iv 4 0, .ref 133] },
 qc [sv "PerlError" 362, sv "PerlError" 363, sv "/claim/cut.py" 364, iv 99 0, iv 0 0, iv 0 0, iv 0 0, iv 0 0, .ref 124, .bool false, iv 181 0, .ref 125, .none, .none, .none, .none, iv 365 0, iv 99 0, sv "/claim/cut.py" 366],
 { cls := .type "frame", slots := #[some (.ref 126), some (.ref 3), some (.ref 123), none, some (sv "perlcore.errors" 358), none, some (.ref 0)] },
 ob_128 P,
 { cls := .none, data := .fields #[] },
 ob_130 P,
 ob_131 P,
 qn "__init__" "PerlError.__init__" (cS 12 0),
 ob_133 P,
 ob_134 P,
 ob_135 P,
 ob_136 P,
 ob_137 P,
 ob_138 P,
 { cls := .type "super", data := .fields #[.ref 137, .ref 137, .ref 137] },
 { cls := .type "builtin_function_or_method", data := .fields #[.builtin "object.__init_subclass__", .ref 137] },
 ob_141 P,
 { cls := .type "builtin_function_or_method", data := .fields #[.builtin "type.__prepare__", .type "type"] },
 { cls := .type "dict", data := .dict #[qd P "__module__" 396 (sv "perlcore.errors" 358), qd P "__qualname__" 398 (sv "BadPattern" 397), qd P "__firstlineno__" 400 (iv 104 399), qd P "__init__" 409 (.ref 154), qd P "__static_attributes__" 411 (.ref 155)] 5 },
 qt [],
 { cls := .none, data := .fields #[iv 106 0, iv 4 0, .ref 153] },
 qc [sv "BadPattern" 391, sv "BadPattern" 392, sv "/claim/cut.py" 393, iv 104 0, iv 0 0, iv 0 0, iv 0 0, iv 0 0, .ref 144, .bool false, iv 181 0, .ref 145, .none, .none, .none, .none, iv 394 0, iv 104 0, sv "/claim/cut.py" 395],
 { cls := .type "frame", slots := #[some (.ref 146), some (.ref 3), some (.ref 143), none, some (sv "perlcore.errors" 358), none, some (.ref 0)] },
 ob_148 P,
 { cls := .none, data := .fields #[] },
 ob_150 P,
 ob_151 P,
 qn "__init__" "BadPattern.__init__" (cS 13 0),
 ob_153 P,
 ob_154 P,
 ob_155 P,
 ob_156 P,
 ob_157 P,
 { cls := .type "super", data := .fields #[.ref 157, .ref 157, .ref 157] },
 { cls := .type "builtin_function_or_method", data := .fields #[.builtin "object.__init_subclass__", .ref 157] }]
noncomputable def oc_4 (P : Params) : List Obj := [
 ob_160 P,
 { cls := .type "builtin_function_or_method", data := .fields #[.builtin "type.__prepare__", .type "type"] },
 { cls := .type "dict", data := .dict #[qd P "__module__" 422 (sv "perlcore.errors" 358), qd P "__qualname__" 424 (sv "TooLong" 423), qd P "__firstlineno__" 426 (iv 109 425), qd P "__init__" 434 (.ref 173), qd P "__static_attributes__" 436 (.ref 174)] 5 },
 qt [],
 { cls := .none, data := .fields #[iv 111 0, iv 4 0, .ref 172] },
 qc [sv "TooLong" 417, sv "TooLong" 418, sv "/claim/cut.py" 419, iv 109 0, iv 0 0, iv 0 0, iv 0 0, iv 0 0, .ref 163, .bool false, iv 181 0, .ref 164, .none, .none, .none, .none, iv 420 0, iv 109 0, sv "/claim/cut.py" 421],
 { cls := .type "frame", slots := #[some (.ref 165), some (.ref 3), some (.ref 162), none, some (sv "perlcore.errors" 358), none, some (.ref 0)] },
 ob_167 P,
 { cls := .none, data := .fields #[] },
 ob_169 P,
 ob_170 P,
 qn "__init__" "TooLong.__init__" (cS 14 0),
 ob_172 P,
 ob_173 P,
 ob_174 P,
 ob_175 P,
 ob_176 P,
 { cls := .type "super", data := .fields #[.ref 176, .ref 176, .ref 176] },
 { cls := .type "builtin_function_or_method", data := .fields #[.builtin "object.__init_subclass__", .ref 176] },
 ob_179 P,
 ob_180 P,
 ob_181 P,
 ob_182 P,
 ob_183 P,
 ob_184 P,
 ob_185 P,
 ob_186 P,
 ob_187 P,
 ob_188 P,
 ob_189 P,
 ob_190 P,
 ob_191 P,
 ob_192 P,
 ob_193 P,
 ob_194 P,
 ob_195 P,
 ob_196 P,
 ob_197 P,
 ob_198 P,
 ob_199 P]
noncomputable def oc_5 (P : Params) : List Obj := [
 ob_200 P,
 ob_201 P,
 ob_202 P,
 ob_203 P,
 ob_204 P,
 ob_205 P,
 ob_206 P,
 ob_207 P,
 ob_208 P,
 ob_209 P,
 ob_210 P,
 ob_211 P,
 ob_212 P,
 ob_213 P,
 ob_214 P,
 ob_215 P,
 ob_216 P,
 ob_217 P,
 ob_218 P,
 ob_219 P,
 ob_220 P,
 ob_221 P,
 ob_222 P,
 { cls := .none, data := .fields #[] },
 ob_224 P,
 ob_225 P,
 qn "is_word_sign" "is_word_sign" (tS 18),
 ob_227 P,
 ob_228 P,
 ob_229 P,
 { cls := .none, data := .fields #[] },
 ob_231 P,
 ob_232 P,
 qn "in_class" "in_class" (tS 19),
 ob_234 P,
 ob_235 P,
 ob_236 P,
 { cls := .none, data := .fields #[] },
 ob_238 P,
 ob_239 P]
noncomputable def oc_6 (P : Params) : List Obj := [
 qn "other_case" "other_case" (tS 20),
 ob_241 P,
 ob_242 P,
 ob_243 P,
 { cls := .none, data := .fields #[] },
 ob_245 P,
 ob_246 P,
 qn "same_sign" "same_sign" (tS 21),
 ob_248 P,
 ob_249 P,
 ob_250 P,
 { cls := .none, data := .fields #[] },
 qn "posix_items" "posix_items" (tS 22),
 ob_253 P,
 ob_254 P,
 ob_255 P,
 { cls := .none, data := .fields #[] },
 ob_257 P,
 ob_258 P,
 qn "item_holds" "item_holds" (tS 23),
 ob_260 P,
 ob_261 P,
 ob_262 P,
 { cls := .none, data := .fields #[] },
 ob_264 P,
 ob_265 P,
 qn "items_hold" "items_hold" (tS 24),
 ob_267 P,
 ob_268 P,
 ob_269 P,
 { cls := .none, data := .fields #[] },
 ob_271 P,
 ob_272 P,
 qn "set_holds" "set_holds" (tS 25),
 ob_274 P,
 ob_275 P,
 ob_276 P,
 { cls := .none, data := .fields #[] },
 ob_278 P,
 ob_279 P]
noncomputable def oc_7 (P : Params) : List Obj := [
 qn "sign_fits" "sign_fits" (tS 26),
 ob_281 P,
 ob_282 P,
 ob_283 P,
 qt [],
 { cls := .type "builtin_function_or_method", data := .fields #[.builtin "type.__prepare__", .type "type"] },
 { cls := .type "dict", data := .dict #[qd P "__module__" 641 (sv "perlcore.reescape" 603), qd P "__qualname__" 643 (sv "PatternText" 642), qd P "__firstlineno__" 645 (iv 172 644), qd P "__init__" 654 (.ref 297), qd P "peek" 661 (.ref 304), qd P "skips" 669 (.ref 311), qd P "__static_attributes__" 677 (.ref 312)] 7 },
 qt [],
 { cls := .none, data := .fields #[iv 174 0, iv 4 0, .ref 296, iv 183 0, iv 4 0, .ref 303, iv 186 0, iv 4 0, .ref 310] },
 qc [sv "PatternText" 636, sv "PatternText" 637, sv "/claim/cut.py" 638, iv 172 0, iv 0 0, iv 0 0, iv 0 0, iv 0 0, .ref 287, .bool false, iv 181 0, .ref 288, .none, .none, .none, .none, iv 639 0, iv 172 0, sv "/claim/cut.py" 640],
 { cls := .type "frame", slots := #[some (.ref 289), some (.ref 3), some (.ref 286), none, some (sv "perlcore.reescape" 603), none, some (.ref 0)] },
 ob_291 P,
 { cls := .none, data := .fields #[] },
 ob_293 P,
 ob_294 P,
 qn "__init__" "PatternText.__init__" (cS 34 0),
 ob_296 P,
 ob_297 P,
 ob_298 P,
 { cls := .none, data := .fields #[] },
 ob_300 P,
 ob_301 P,
 qn "peek" "PatternText.peek" (cS 34 1),
 ob_303 P,
 ob_304 P,
 ob_305 P,
 { cls := .none, data := .fields #[] },
 ob_307 P,
 ob_308 P,
 qn "skips" "PatternText.skips" (cS 34 2),
 ob_310 P,
 ob_311 P,
 ob_312 P,
 ob_313 P,
 ob_314 P,
 ob_315 P,
 ob_316 P,
 { cls := .type "super", data := .fields #[.ref 314, .ref 314, .ref 314] },
 { cls := .type "builtin_function_or_method", data := .fields #[.builtin "object.__init_subclass__", .ref 314] },
 ob_319 P]
noncomputable def oc_8 (P : Params) : List Obj := [
 { cls := .none, data := .fields #[] },
 ob_321 P,
 ob_322 P,
 qn "run_of" "run_of" (tS 35),
 ob_324 P,
 ob_325 P,
 ob_326 P,
 { cls := .none, data := .fields #[] },
 ob_328 P,
 ob_329 P,
 qn "number_of_run" "number_of_run" (tS 36),
 ob_331 P,
 ob_332 P,
 ob_333 P,
 { cls := .none, data := .fields #[] },
 ob_335 P,
 ob_336 P,
 qn "until_sign" "until_sign" (tS 37),
 ob_338 P,
 ob_339 P,
 ob_340 P,
 { cls := .none, data := .fields #[] },
 ob_342 P,
 ob_343 P,
 qn "sign_of_code" "sign_of_code" (tS 38),
 ob_345 P,
 ob_346 P,
 ob_347 P,
 { cls := .none, data := .fields #[] },
 qn "read_hex_sign" "read_hex_sign" (tS 39),
 ob_350 P,
 ob_351 P,
 ob_352 P,
 { cls := .none, data := .fields #[] },
 qn "read_octal_sign" "read_octal_sign" (tS 40),
 ob_355 P,
 ob_356 P,
 ob_357 P,
 { cls := .none, data := .fields #[] },
 qn "read_named_sign" "read_named_sign" (tS 41)]
noncomputable def oc_9 (P : Params) : List Obj := [
 ob_360 P,
 ob_361 P,
 ob_362 P,
 { cls := .none, data := .fields #[] },
 ob_364 P,
 ob_365 P,
 qn "read_plain_escape" "read_plain_escape" (tS 42),
 ob_367 P,
 ob_368 P,
 ob_369 P,
 { cls := .none, data := .fields #[] },
 ob_371 P,
 ob_372 P,
 qn "read_control" "read_control" (tS 43),
 ob_374 P,
 ob_375 P,
 ob_376 P,
 { cls := .none, data := .fields #[] },
 ob_378 P,
 ob_379 P,
 qn "signs_end" "signs_end" (tS 44),
 ob_381 P,
 ob_382 P,
 ob_383 P,
 { cls := .none, data := .fields #[] },
 ob_385 P,
 ob_386 P,
 qn "posix_end" "posix_end" (tS 45),
 ob_388 P,
 ob_389 P,
 ob_390 P,
 { cls := .none, data := .fields #[] },
 ob_392 P,
 ob_393 P,
 qn "read_posix" "read_posix" (tS 46),
 ob_395 P,
 ob_396 P,
 ob_397 P,
 { cls := .none, data := .fields #[] },
 ob_399 P]
noncomputable def oc_10 (P : Params) : List Obj := [
 ob_400 P,
 qn "read_member" "read_member" (tS 47),
 ob_402 P,
 ob_403 P,
 ob_404 P,
 { cls := .none, data := .fields #[] },
 ob_406 P,
 ob_407 P,
 qn "is_one_sign" "is_one_sign" (tS 48),
 ob_409 P,
 ob_410 P,
 ob_411 P,
 { cls := .none, data := .fields #[] },
 ob_413 P,
 ob_414 P,
 qn "read_range_end" "read_range_end" (tS 49),
 ob_416 P,
 ob_417 P,
 ob_418 P,
 { cls := .none, data := .fields #[] },
 ob_420 P,
 ob_421 P,
 qn "read_set" "read_set" (tS 50),
 ob_423 P,
 ob_424 P,
 ob_425 P,
 ob_426 P,
 ob_427 P,
 ob_428 P,
 ob_429 P,
 { cls := .none, data := .fields #[] },
 ob_431 P,
 ob_432 P,
 qn "count_groups" "count_groups" (tS 55),
 ob_434 P,
 ob_435 P,
 ob_436 P,
 { cls := .none, data := .fields #[] },
 ob_438 P,
 ob_439 P]
noncomputable def oc_11 (P : Params) : List Obj := [
 qn "behind_set" "behind_set" (tS 56),
 ob_441 P,
 ob_442 P,
 ob_443 P,
 { cls := .none, data := .fields #[] },
 ob_445 P,
 ob_446 P,
 qn "behind_posix" "behind_posix" (tS 57),
 ob_448 P,
 ob_449 P,
 ob_450 P,
 { cls := .none, data := .fields #[] },
 ob_452 P,
 ob_453 P,
 qn "opens_capture" "opens_capture" (tS 58),
 ob_455 P,
 ob_456 P,
 ob_457 P,
 { cls := .none, data := .fields #[] },
 qn "is_name_text" "is_name_text" (tS 59),
 ob_460 P,
 ob_461 P,
 ob_462 P,
 { cls := .none, data := .fields #[] },
 ob_464 P,
 ob_465 P,
 qn "braces_count" "braces_count" (tS 60),
 ob_467 P,
 ob_468 P,
 ob_469 P,
 { cls := .none, data := .fields #[] },
 ob_471 P,
 ob_472 P,
 qn "take_count" "take_count" (tS 61),
 ob_474 P,
 ob_475 P,
 ob_476 P,
 { cls := .none, data := .fields #[] },
 ob_478 P,
 ob_479 P]
noncomputable def oc_12 (P : Params) : List Obj := [
 qn "read_name" "read_name" (tS 62),
 ob_481 P,
 ob_482 P,
 ob_483 P,
 { cls := .none, data := .fields #[] },
 ob_485 P,
 ob_486 P,
 qn "speak_of" "speak_of" (tS 63),
 ob_488 P,
 ob_489 P,
 ob_490 P,
 { cls := .none, data := .fields #[] },
 ob_492 P,
 ob_493 P,
 qn "read_named_back" "read_named_back" (tS 64),
 ob_495 P,
 ob_496 P,
 ob_497 P,
 { cls := .none, data := .fields #[] },
 ob_499 P,
 ob_500 P,
 qn "read_numbered_back" "read_numbered_back" (tS 65),
 ob_502 P,
 ob_503 P,
 ob_504 P,
 { cls := .none, data := .fields #[] },
 qn "width_of" "width_of" (tS 66),
 ob_507 P,
 ob_508 P,
 ob_509 P,
 ob_510 P,
 ob_511 P,
 ob_512 P,
 ob_513 P,
 ob_514 P,
 ob_515 P,
 ob_516 P,
 ob_517 P,
 ob_518 P,
 { cls := .none, data := .fields #[] }]
noncomputable def oc_13 (P : Params) : List Obj := [
 ob_520 P,
 ob_521 P,
 qn "skip_unseen" "skip_unseen" (tS 72),
 ob_523 P,
 ob_524 P,
 ob_525 P,
 { cls := .none, data := .fields #[] },
 qn "read_flags" "read_flags" (tS 73),
 ob_528 P,
 ob_529 P,
 ob_530 P,
 { cls := .none, data := .fields #[] },
 ob_532 P,
 ob_533 P,
 qn "read_inline" "read_inline" (tS 74),
 ob_535 P,
 ob_536 P,
 ob_537 P,
 { cls := .none, data := .fields #[] },
 ob_539 P,
 ob_540 P,
 qn "read_alternation" "read_alternation" (tS 75),
 ob_542 P,
 ob_543 P,
 ob_544 P,
 { cls := .none, data := .fields #[] },
 ob_546 P,
 ob_547 P,
 qn "read_branch" "read_branch" (tS 76),
 ob_549 P,
 ob_550 P,
 ob_551 P,
 { cls := .none, data := .fields #[] },
 ob_553 P,
 ob_554 P,
 qn "read_atom" "read_atom" (tS 77),
 ob_556 P,
 ob_557 P,
 ob_558 P,
 { cls := .none, data := .fields #[] }]
noncomputable def oc_14 (P : Params) : List Obj := [
 ob_560 P,
 ob_561 P,
 qn "read_counted" "read_counted" (tS 78),
 ob_563 P,
 ob_564 P,
 ob_565 P,
 { cls := .none, data := .fields #[] },
 ob_567 P,
 ob_568 P,
 qn "read_inner" "read_inner" (tS 79),
 ob_570 P,
 ob_571 P,
 ob_572 P,
 { cls := .none, data := .fields #[] },
 ob_574 P,
 ob_575 P,
 qn "read_capture" "read_capture" (tS 80),
 ob_577 P,
 ob_578 P,
 ob_579 P,
 { cls := .none, data := .fields #[] },
 ob_581 P,
 ob_582 P,
 qn "read_look" "read_look" (tS 81),
 ob_584 P,
 ob_585 P,
 ob_586 P,
 { cls := .none, data := .fields #[] },
 ob_588 P,
 ob_589 P,
 qn "read_group" "read_group" (tS 82),
 ob_591 P,
 ob_592 P,
 ob_593 P,
 { cls := .none, data := .fields #[] },
 ob_595 P,
 ob_596 P,
 qn "is_sign_told" "is_sign_told" (tS 83),
 ob_598 P,
 ob_599 P]
noncomputable def oc_15 (P : Params) : List Obj := [
 ob_600 P,
 { cls := .none, data := .fields #[] },
 ob_602 P,
 ob_603 P,
 qn "read_escape" "read_escape" (tS 84),
 ob_605 P,
 ob_606 P,
 ob_607 P,
 { cls := .none, data := .fields #[] },
 qn "parse_pattern" "parse_pattern" (tS 85),
 ob_610 P,
 ob_611 P,
 ob_612 P,
 { cls := .none, data := .fields #[] },
 ob_614 P,
 ob_615 P,
 qn "compile_pattern" "compile_pattern" (tS 87),
 ob_617 P,
 ob_618 P,
 qt [],
 { cls := .type "builtin_function_or_method", data := .fields #[.builtin "type.__prepare__", .type "type"] },
 { cls := .type "dict", data := .dict #[qd P "__module__" 1143 (sv "perlcore.limits" 1134), qd P "__qualname__" 1145 (sv "Limits" 1144), qd P "__firstlineno__" 1147 (iv 594 1146), qd P "__init__" 1170 (.ref 633), qd P "__static_attributes__" 1176 (.ref 634)] 5 },
 qt [],
 { cls := .none, data := .fields #[iv 596 0, iv 4 0, .ref 632] },
 qc [sv "Limits" 1138, sv "Limits" 1139, sv "/claim/cut.py" 1140, iv 594 0, iv 0 0, iv 0 0, iv 0 0, iv 0 0, .ref 622, .bool false, iv 181 0, .ref 623, .none, .none, .none, .none, iv 1141 0, iv 594 0, sv "/claim/cut.py" 1142],
 { cls := .type "frame", slots := #[some (.ref 624), some (.ref 3), some (.ref 621), none, some (sv "perlcore.limits" 1134), none, some (.ref 0)] },
 ob_626 P,
 ob_627 P,
 { cls := .none, data := .fields #[] },
 ob_629 P,
 ob_630 P,
 qn "__init__" "Limits.__init__" (cS 89 0),
 ob_632 P,
 ob_633 P,
 ob_634 P,
 ob_635 P,
 ob_636 P,
 ob_637 P,
 ob_638 P,
 { cls := .type "super", data := .fields #[.ref 636, .ref 636, .ref 636] }]
noncomputable def oc_16 (P : Params) : List Obj := [
 { cls := .type "builtin_function_or_method", data := .fields #[.builtin "object.__init_subclass__", .ref 636] },
 qt [],
 { cls := .type "builtin_function_or_method", data := .fields #[.builtin "type.__prepare__", .type "type"] },
 { cls := .type "dict", data := .dict #[qd P "__module__" 1197 (sv "perlcore.rematch" 1184), qd P "__qualname__" 1199 (sv "MatchRun" 1198), qd P "__firstlineno__" 1201 (iv 605 1200), qd P "__init__" 1213 (.ref 654), qd P "__static_attributes__" 1225 (.ref 655)] 5 },
 qt [],
 { cls := .none, data := .fields #[iv 607 0, iv 4 0, .ref 653] },
 qc [sv "MatchRun" 1192, sv "MatchRun" 1193, sv "/claim/cut.py" 1194, iv 605 0, iv 0 0, iv 0 0, iv 0 0, iv 0 0, .ref 644, .bool false, iv 181 0, .ref 645, .none, .none, .none, .none, iv 1195 0, iv 605 0, sv "/claim/cut.py" 1196],
 { cls := .type "frame", slots := #[some (.ref 646), some (.ref 3), some (.ref 643), none, some (sv "perlcore.rematch" 1184), none, some (.ref 0)] },
 ob_648 P,
 { cls := .none, data := .fields #[] },
 ob_650 P,
 ob_651 P,
 qn "__init__" "MatchRun.__init__" (cS 93 0),
 ob_653 P,
 ob_654 P,
 ob_655 P,
 ob_656 P,
 ob_657 P,
 ob_658 P,
 ob_659 P,
 { cls := .type "super", data := .fields #[.ref 657, .ref 657, .ref 657] },
 { cls := .type "builtin_function_or_method", data := .fields #[.builtin "object.__init_subclass__", .ref 657] },
 ob_662 P,
 { cls := .none, data := .fields #[] },
 ob_664 P,
 ob_665 P,
 qn "set_register" "set_register" (tS 94),
 ob_667 P,
 ob_668 P,
 ob_669 P,
 { cls := .none, data := .fields #[] },
 ob_671 P,
 ob_672 P,
 qn "go_on" "go_on" (tS 95),
 ob_674 P,
 ob_675 P,
 ob_676 P,
 { cls := .none, data := .fields #[] },
 ob_678 P,
 ob_679 P]
noncomputable def oc_17 (P : Params) : List Obj := [
 qn "row_test" "row_test" (tS 96),
 ob_681 P,
 ob_682 P,
 ob_683 P,
 { cls := .none, data := .fields #[] },
 ob_685 P,
 ob_686 P,
 qn "run_end" "run_end" (tS 97),
 ob_688 P,
 ob_689 P,
 ob_690 P,
 { cls := .none, data := .fields #[] },
 ob_692 P,
 ob_693 P,
 qn "row_run" "row_run" (tS 98),
 ob_695 P,
 ob_696 P,
 ob_697 P,
 { cls := .none, data := .fields #[] },
 ob_699 P,
 ob_700 P,
 qn "place_holds" "place_holds" (tS 99),
 ob_702 P,
 ob_703 P,
 ob_704 P,
 { cls := .none, data := .fields #[] },
 ob_706 P,
 ob_707 P,
 qn "row_at" "row_at" (tS 100),
 ob_709 P,
 ob_710 P,
 ob_711 P,
 { cls := .none, data := .fields #[] },
 ob_713 P,
 ob_714 P,
 qn "row_back" "row_back" (tS 101),
 ob_716 P,
 ob_717 P,
 ob_718 P,
 { cls := .none, data := .fields #[] }]
noncomputable def oc_18 (P : Params) : List Obj := [
 ob_720 P,
 ob_721 P,
 qn "row_open" "row_open" (tS 102),
 ob_723 P,
 ob_724 P,
 ob_725 P,
 { cls := .none, data := .fields #[] },
 ob_727 P,
 ob_728 P,
 qn "row_close" "row_close" (tS 103),
 ob_730 P,
 ob_731 P,
 ob_732 P,
 { cls := .none, data := .fields #[] },
 ob_734 P,
 ob_735 P,
 qn "row_jump" "row_jump" (tS 104),
 ob_737 P,
 ob_738 P,
 ob_739 P,
 { cls := .none, data := .fields #[] },
 ob_741 P,
 ob_742 P,
 qn "row_split" "row_split" (tS 105),
 ob_744 P,
 ob_745 P,
 ob_746 P,
 { cls := .none, data := .fields #[] },
 ob_748 P,
 ob_749 P,
 qn "row_zero" "row_zero" (tS 106),
 ob_751 P,
 ob_752 P,
 ob_753 P,
 { cls := .none, data := .fields #[] },
 ob_755 P,
 ob_756 P,
 qn "row_loop" "row_loop" (tS 107),
 ob_758 P,
 ob_759 P]
noncomputable def oc_19 (P : Params) : List Obj := [
 ob_760 P,
 { cls := .none, data := .fields #[] },
 ob_762 P,
 ob_763 P,
 qn "row_again" "row_again" (tS 108),
 ob_765 P,
 ob_766 P,
 ob_767 P,
 { cls := .none, data := .fields #[] },
 ob_769 P,
 ob_770 P,
 qn "row_mark" "row_mark" (tS 109),
 ob_772 P,
 ob_773 P,
 ob_774 P,
 { cls := .none, data := .fields #[] },
 qn "row_cut" "row_cut" (tS 110),
 ob_777 P,
 ob_778 P,
 ob_779 P,
 { cls := .none, data := .fields #[] },
 ob_781 P,
 ob_782 P,
 qn "undo_entry" "undo_entry" (tS 111),
 ob_784 P,
 ob_785 P,
 ob_786 P,
 { cls := .none, data := .fields #[] },
 ob_788 P,
 ob_789 P,
 qn "row_refuse" "row_refuse" (tS 112),
 ob_791 P,
 ob_792 P,
 ob_793 P,
 { cls := .none, data := .fields #[] },
 ob_795 P,
 ob_796 P,
 qn "row_place" "row_place" (tS 113),
 ob_798 P,
 ob_799 P]
noncomputable def oc_20 (P : Params) : List Obj := [
 ob_800 P,
 { cls := .none, data := .fields #[] },
 ob_802 P,
 ob_803 P,
 qn "row_return" "row_return" (tS 114),
 ob_805 P,
 ob_806 P,
 ob_807 P,
 { cls := .none, data := .fields #[] },
 ob_809 P,
 ob_810 P,
 qn "row_behind" "row_behind" (tS 115),
 ob_812 P,
 ob_813 P,
 ob_814 P,
 { cls := .none, data := .fields #[] },
 ob_816 P,
 ob_817 P,
 qn "row_words" "row_words" (tS 116),
 ob_819 P,
 ob_820 P,
 ob_821 P,
 { cls := .none, data := .fields #[] },
 ob_823 P,
 ob_824 P,
 qn "take_more" "take_more" (tS 117),
 ob_826 P,
 ob_827 P,
 ob_828 P,
 { cls := .none, data := .fields #[] },
 ob_830 P,
 ob_831 P,
 qn "back_up" "back_up" (tS 118),
 ob_833 P,
 ob_834 P,
 ob_835 P,
 { cls := .none, data := .fields #[] },
 ob_837 P,
 ob_838 P,
 qn "match_from" "match_from" (tS 119)]
noncomputable def oc_21 (P : Params) : List Obj := [
 ob_840 P,
 ob_841 P,
 ob_842 P,
 ob_843 P,
 { cls := .none, data := .fields #[] },
 ob_845 P,
 ob_846 P,
 qn "search_pattern" "search_pattern" (tS 120),
 ob_848 P,
 ob_849 P,
 ob_850 P,
 ob_851 P,
 { cls := .none, data := .fields #[] },
 ob_853 P,
 ob_854 P,
 qn "next_match" "next_match" (tS 122),
 ob_856 P,
 ob_857 P,
 ob_858 P,
 ob_859 P,
 { cls := .none, data := .fields #[] },
 ob_861 P,
 ob_862 P,
 qn "substitute" "substitute" (tS 123),
 ob_864 P,
 ob_865 P,
 ob_866 P,
 { cls := .none, data := .fields #[] },
 ob_868 P,
 ob_869 P,
 qn "_law_group" "_law_group" (tS 125),
 ob_871 P,
 ob_872 P,
 ob_873 P,
 { cls := .none, data := .fields #[] },
 ob_875 P,
 ob_876 P,
 qn "law" "law" (tS 126),
 ob_878 P,
 ob_879 P]
noncomputable def HL (P : Params) : List Obj := oc_0 P ++ (oc_1 P ++ (oc_2 P ++ (oc_3 P ++ (oc_4 P ++ (oc_5 P ++ (oc_6 P ++ (oc_7 P ++ (oc_8 P ++ (oc_9 P ++ (oc_10 P ++ (oc_11 P ++ (oc_12 P ++ (oc_13 P ++ (oc_14 P ++ (oc_15 P ++ (oc_16 P ++ (oc_17 P ++ (oc_18 P ++ (oc_19 P ++ (oc_20 P ++ (oc_21 P)))))))))))))))))))))
noncomputable def HF (P : Params) : Heap := ⟨(HL P).toArray, (boot_heap P).life⟩
noncomputable def kas : List Nat := [2, 3, 15, 23, 25, 26, 28, 29, 30, 31, 32, 33, 34, 44, 46, 47, 49, 50, 51, 53, 54, 56, 57, 58, 60, 61, 63, 64, 65, 66, 67, 68, 69, 72, 74, 75, 77, 78, 79, 81, 82, 84, 85, 86, 88, 89, 91, 92, 93, 95, 96, 98, 99, 100, 102, 103, 105, 106, 107, 109, 110, 112, 113, 114, 116, 117, 119, 120, 121, 128, 130, 131, 133, 134, 135, 136, 137, 138, 141, 148, 150, 151, 153, 154, 155, 156, 157, 160, 167, 169, 170, 172, 173, 174, 175, 176, 179, 180, 181, 182, 183, 184, 185, 186, 187, 188, 189, 190, 191, 192, 193, 194, 195, 196, 197, 198, 199, 200, 201, 202, 203, 204, 205, 206, 207, 208, 209, 210, 211, 212, 213, 214, 215, 216, 217, 218, 219, 220, 221, 222, 224, 225, 227, 228, 229, 231, 232, 234, 235, 236, 238, 239, 241, 242, 243, 245, 246, 248, 249, 250, 253, 254, 255, 257, 258, 260, 261, 262, 264, 265, 267, 268, 269, 271, 272, 274, 275, 276, 278, 279, 281, 282, 283, 291, 293, 294, 296, 297, 298, 300, 301, 303, 304, 305, 307, 308, 310, 311, 312, 313, 314, 315, 316, 319, 321, 322, 324, 325, 326, 328, 329, 331, 332, 333, 335, 336, 338, 339, 340, 342, 343, 345, 346, 347, 350, 351, 352, 355, 356, 357, 360, 361, 362, 364, 365, 367, 368, 369, 371, 372, 374, 375, 376, 378, 379, 381, 382, 383, 385, 386, 388, 389, 390, 392, 393, 395, 396, 397, 399, 400, 402, 403, 404, 406, 407, 409, 410, 411, 413, 414, 416, 417, 418, 420, 421, 423, 424, 425, 426, 427, 428, 429, 431, 432, 434, 435, 436, 438, 439, 441, 442, 443, 445, 446, 448, 449, 450, 452, 453, 455, 456, 457, 460, 461, 462, 464, 465, 467, 468, 469, 471, 472, 474, 475, 476, 478, 479, 481, 482, 483, 485, 486, 488, 489, 490, 492, 493, 495, 496, 497, 499, 500, 502, 503, 504, 507, 508, 509, 510, 511, 512, 513, 514, 515, 516, 517, 518, 520, 521, 523, 524, 525, 528, 529, 530, 532, 533, 535, 536, 537, 539, 540, 542, 543, 544, 546, 547, 549, 550, 551, 553, 554, 556, 557, 558, 560, 561, 563, 564, 565, 567, 568, 570, 571, 572, 574, 575, 577, 578, 579, 581, 582, 584, 585, 586, 588, 589, 591, 592, 593, 595, 596, 598, 599, 600, 602, 603, 605, 606, 607, 610, 611, 612, 614, 615, 617, 618, 626, 627, 629, 630, 632, 633, 634, 635, 636, 637, 638, 648, 650, 651, 653, 654, 655, 656, 657, 658, 659, 662, 664, 665, 667, 668, 669, 671, 672, 674, 675, 676, 678, 679, 681, 682, 683, 685, 686, 688, 689, 690, 692, 693, 695, 696, 697, 699, 700, 702, 703, 704, 706, 707, 709, 710, 711, 713, 714, 716, 717, 718, 720, 721, 723, 724, 725, 727, 728, 730, 731, 732, 734, 735, 737, 738, 739, 741, 742, 744, 745, 746, 748, 749, 751, 752, 753, 755, 756, 758, 759, 760, 762, 763, 765, 766, 767, 769, 770, 772, 773, 774, 777, 778, 779, 781, 782, 784, 785, 786, 788, 789, 791, 792, 793, 795, 796, 798, 799, 800, 802, 803, 805, 806, 807, 809, 810, 812, 813, 814, 816, 817, 819, 820, 821, 823, 824, 826, 827, 828, 830, 831, 833, 834, 835, 837, 838, 840, 841, 842, 843, 845, 846, 848, 849, 850, 851, 853, 854, 856, 857, 858, 859, 861, 862, 864, 865, 866, 868, 869, 871, 872, 873, 875, 876, 878, 879]
noncomputable def K : Params → Frag := fun P => (nat_lit 2, ob_2 P) :: (nat_lit 3, ob_3 P) :: (nat_lit 15, ob_15 P) :: (nat_lit 23, ob_23 P) :: (nat_lit 25, ob_25 P) :: (nat_lit 26, ob_26 P) :: (nat_lit 28, ob_28 P) :: (nat_lit 29, ob_29 P) :: (nat_lit 30, ob_30 P) :: (nat_lit 31, ob_31 P) :: (nat_lit 32, ob_32 P) :: (nat_lit 33, ob_33 P) :: (nat_lit 34, ob_34 P) :: (nat_lit 44, ob_44 P) :: (nat_lit 46, ob_46 P) :: (nat_lit 47, ob_47 P) :: (nat_lit 49, ob_49 P) :: (nat_lit 50, ob_50 P) :: (nat_lit 51, ob_51 P) :: (nat_lit 53, ob_53 P) :: (nat_lit 54, ob_54 P) :: (nat_lit 56, ob_56 P) :: (nat_lit 57, ob_57 P) :: (nat_lit 58, ob_58 P) :: (nat_lit 60, ob_60 P) :: (nat_lit 61, ob_61 P) :: (nat_lit 63, ob_63 P) :: (nat_lit 64, ob_64 P) :: (nat_lit 65, ob_65 P) :: (nat_lit 66, ob_66 P) :: (nat_lit 67, ob_67 P) :: (nat_lit 68, ob_68 P) :: (nat_lit 69, ob_69 P) :: (nat_lit 72, ob_72 P) :: (nat_lit 74, ob_74 P) :: (nat_lit 75, ob_75 P) :: (nat_lit 77, ob_77 P) :: (nat_lit 78, ob_78 P) :: (nat_lit 79, ob_79 P) :: (nat_lit 81, ob_81 P) :: (nat_lit 82, ob_82 P) :: (nat_lit 84, ob_84 P) :: (nat_lit 85, ob_85 P) :: (nat_lit 86, ob_86 P) :: (nat_lit 88, ob_88 P) :: (nat_lit 89, ob_89 P) :: (nat_lit 91, ob_91 P) :: (nat_lit 92, ob_92 P) :: (nat_lit 93, ob_93 P) :: (nat_lit 95, ob_95 P) :: (nat_lit 96, ob_96 P) :: (nat_lit 98, ob_98 P) :: (nat_lit 99, ob_99 P) :: (nat_lit 100, ob_100 P) :: (nat_lit 102, ob_102 P) :: (nat_lit 103, ob_103 P) :: (nat_lit 105, ob_105 P) :: (nat_lit 106, ob_106 P) :: (nat_lit 107, ob_107 P) :: (nat_lit 109, ob_109 P) :: (nat_lit 110, ob_110 P) :: (nat_lit 112, ob_112 P) :: (nat_lit 113, ob_113 P) :: (nat_lit 114, ob_114 P) :: (nat_lit 116, ob_116 P) :: (nat_lit 117, ob_117 P) :: (nat_lit 119, ob_119 P) :: (nat_lit 120, ob_120 P) :: (nat_lit 121, ob_121 P) :: (nat_lit 128, ob_128 P) :: (nat_lit 130, ob_130 P) :: (nat_lit 131, ob_131 P) :: (nat_lit 133, ob_133 P) :: (nat_lit 134, ob_134 P) :: (nat_lit 135, ob_135 P) :: (nat_lit 136, ob_136 P) :: (nat_lit 137, ob_137 P) :: (nat_lit 138, ob_138 P) :: (nat_lit 141, ob_141 P) :: (nat_lit 148, ob_148 P) :: (nat_lit 150, ob_150 P) :: (nat_lit 151, ob_151 P) :: (nat_lit 153, ob_153 P) :: (nat_lit 154, ob_154 P) :: (nat_lit 155, ob_155 P) :: (nat_lit 156, ob_156 P) :: (nat_lit 157, ob_157 P) :: (nat_lit 160, ob_160 P) :: (nat_lit 167, ob_167 P) :: (nat_lit 169, ob_169 P) :: (nat_lit 170, ob_170 P) :: (nat_lit 172, ob_172 P) :: (nat_lit 173, ob_173 P) :: (nat_lit 174, ob_174 P) :: (nat_lit 175, ob_175 P) :: (nat_lit 176, ob_176 P) :: (nat_lit 179, ob_179 P) :: (nat_lit 180, ob_180 P) :: (nat_lit 181, ob_181 P) :: (nat_lit 182, ob_182 P) :: (nat_lit 183, ob_183 P) :: (nat_lit 184, ob_184 P) :: (nat_lit 185, ob_185 P) :: (nat_lit 186, ob_186 P) :: (nat_lit 187, ob_187 P) :: (nat_lit 188, ob_188 P) :: (nat_lit 189, ob_189 P) :: (nat_lit 190, ob_190 P) :: (nat_lit 191, ob_191 P) :: (nat_lit 192, ob_192 P) :: (nat_lit 193, ob_193 P) :: (nat_lit 194, ob_194 P) :: (nat_lit 195, ob_195 P) :: (nat_lit 196, ob_196 P) :: (nat_lit 197, ob_197 P) :: (nat_lit 198, ob_198 P) :: (nat_lit 199, ob_199 P) :: (nat_lit 200, ob_200 P) :: (nat_lit 201, ob_201 P) :: (nat_lit 202, ob_202 P) :: (nat_lit 203, ob_203 P) :: (nat_lit 204, ob_204 P) :: (nat_lit 205, ob_205 P) :: (nat_lit 206, ob_206 P) :: (nat_lit 207, ob_207 P) :: (nat_lit 208, ob_208 P) :: (nat_lit 209, ob_209 P) :: (nat_lit 210, ob_210 P) :: (nat_lit 211, ob_211 P) :: (nat_lit 212, ob_212 P) :: (nat_lit 213, ob_213 P) :: (nat_lit 214, ob_214 P) :: (nat_lit 215, ob_215 P) :: (nat_lit 216, ob_216 P) :: (nat_lit 217, ob_217 P) :: (nat_lit 218, ob_218 P) :: (nat_lit 219, ob_219 P) :: (nat_lit 220, ob_220 P) :: (nat_lit 221, ob_221 P) :: (nat_lit 222, ob_222 P) :: (nat_lit 224, ob_224 P) :: (nat_lit 225, ob_225 P) :: (nat_lit 227, ob_227 P) :: (nat_lit 228, ob_228 P) :: (nat_lit 229, ob_229 P) :: (nat_lit 231, ob_231 P) :: (nat_lit 232, ob_232 P) :: (nat_lit 234, ob_234 P) :: (nat_lit 235, ob_235 P) :: (nat_lit 236, ob_236 P) :: (nat_lit 238, ob_238 P) :: (nat_lit 239, ob_239 P) :: (nat_lit 241, ob_241 P) :: (nat_lit 242, ob_242 P) :: (nat_lit 243, ob_243 P) :: (nat_lit 245, ob_245 P) :: (nat_lit 246, ob_246 P) :: (nat_lit 248, ob_248 P) :: (nat_lit 249, ob_249 P) :: (nat_lit 250, ob_250 P) :: (nat_lit 253, ob_253 P) :: (nat_lit 254, ob_254 P) :: (nat_lit 255, ob_255 P) :: (nat_lit 257, ob_257 P) :: (nat_lit 258, ob_258 P) :: (nat_lit 260, ob_260 P) :: (nat_lit 261, ob_261 P) :: (nat_lit 262, ob_262 P) :: (nat_lit 264, ob_264 P) :: (nat_lit 265, ob_265 P) :: (nat_lit 267, ob_267 P) :: (nat_lit 268, ob_268 P) :: (nat_lit 269, ob_269 P) :: (nat_lit 271, ob_271 P) :: (nat_lit 272, ob_272 P) :: (nat_lit 274, ob_274 P) :: (nat_lit 275, ob_275 P) :: (nat_lit 276, ob_276 P) :: (nat_lit 278, ob_278 P) :: (nat_lit 279, ob_279 P) :: (nat_lit 281, ob_281 P) :: (nat_lit 282, ob_282 P) :: (nat_lit 283, ob_283 P) :: (nat_lit 291, ob_291 P) :: (nat_lit 293, ob_293 P) :: (nat_lit 294, ob_294 P) :: (nat_lit 296, ob_296 P) :: (nat_lit 297, ob_297 P) :: (nat_lit 298, ob_298 P) :: (nat_lit 300, ob_300 P) :: (nat_lit 301, ob_301 P) :: (nat_lit 303, ob_303 P) :: (nat_lit 304, ob_304 P) :: (nat_lit 305, ob_305 P) :: (nat_lit 307, ob_307 P) :: (nat_lit 308, ob_308 P) :: (nat_lit 310, ob_310 P) :: (nat_lit 311, ob_311 P) :: (nat_lit 312, ob_312 P) :: (nat_lit 313, ob_313 P) :: (nat_lit 314, ob_314 P) :: (nat_lit 315, ob_315 P) :: (nat_lit 316, ob_316 P) :: (nat_lit 319, ob_319 P) :: (nat_lit 321, ob_321 P) :: (nat_lit 322, ob_322 P) :: (nat_lit 324, ob_324 P) :: (nat_lit 325, ob_325 P) :: (nat_lit 326, ob_326 P) :: (nat_lit 328, ob_328 P) :: (nat_lit 329, ob_329 P) :: (nat_lit 331, ob_331 P) :: (nat_lit 332, ob_332 P) :: (nat_lit 333, ob_333 P) :: (nat_lit 335, ob_335 P) :: (nat_lit 336, ob_336 P) :: (nat_lit 338, ob_338 P) :: (nat_lit 339, ob_339 P) :: (nat_lit 340, ob_340 P) :: (nat_lit 342, ob_342 P) :: (nat_lit 343, ob_343 P) :: (nat_lit 345, ob_345 P) :: (nat_lit 346, ob_346 P) :: (nat_lit 347, ob_347 P) :: (nat_lit 350, ob_350 P) :: (nat_lit 351, ob_351 P) :: (nat_lit 352, ob_352 P) :: (nat_lit 355, ob_355 P) :: (nat_lit 356, ob_356 P) :: (nat_lit 357, ob_357 P) :: (nat_lit 360, ob_360 P) :: (nat_lit 361, ob_361 P) :: (nat_lit 362, ob_362 P) :: (nat_lit 364, ob_364 P) :: (nat_lit 365, ob_365 P) :: (nat_lit 367, ob_367 P) :: (nat_lit 368, ob_368 P) :: (nat_lit 369, ob_369 P) :: (nat_lit 371, ob_371 P) :: (nat_lit 372, ob_372 P) :: (nat_lit 374, ob_374 P) :: (nat_lit 375, ob_375 P) :: (nat_lit 376, ob_376 P) :: (nat_lit 378, ob_378 P) :: (nat_lit 379, ob_379 P) :: (nat_lit 381, ob_381 P) :: (nat_lit 382, ob_382 P) :: (nat_lit 383, ob_383 P) :: (nat_lit 385, ob_385 P) :: (nat_lit 386, ob_386 P) :: (nat_lit 388, ob_388 P) :: (nat_lit 389, ob_389 P) :: (nat_lit 390, ob_390 P) :: (nat_lit 392, ob_392 P) :: (nat_lit 393, ob_393 P) :: (nat_lit 395, ob_395 P) :: (nat_lit 396, ob_396 P) :: (nat_lit 397, ob_397 P) :: (nat_lit 399, ob_399 P) :: (nat_lit 400, ob_400 P) :: (nat_lit 402, ob_402 P) :: (nat_lit 403, ob_403 P) :: (nat_lit 404, ob_404 P) :: (nat_lit 406, ob_406 P) :: (nat_lit 407, ob_407 P) :: (nat_lit 409, ob_409 P) :: (nat_lit 410, ob_410 P) :: (nat_lit 411, ob_411 P) :: (nat_lit 413, ob_413 P) :: (nat_lit 414, ob_414 P) :: (nat_lit 416, ob_416 P) :: (nat_lit 417, ob_417 P) :: (nat_lit 418, ob_418 P) :: (nat_lit 420, ob_420 P) :: (nat_lit 421, ob_421 P) :: (nat_lit 423, ob_423 P) :: (nat_lit 424, ob_424 P) :: (nat_lit 425, ob_425 P) :: (nat_lit 426, ob_426 P) :: (nat_lit 427, ob_427 P) :: (nat_lit 428, ob_428 P) :: (nat_lit 429, ob_429 P) :: (nat_lit 431, ob_431 P) :: (nat_lit 432, ob_432 P) :: (nat_lit 434, ob_434 P) :: (nat_lit 435, ob_435 P) :: (nat_lit 436, ob_436 P) :: (nat_lit 438, ob_438 P) :: (nat_lit 439, ob_439 P) :: (nat_lit 441, ob_441 P) :: (nat_lit 442, ob_442 P) :: (nat_lit 443, ob_443 P) :: (nat_lit 445, ob_445 P) :: (nat_lit 446, ob_446 P) :: (nat_lit 448, ob_448 P) :: (nat_lit 449, ob_449 P) :: (nat_lit 450, ob_450 P) :: (nat_lit 452, ob_452 P) :: (nat_lit 453, ob_453 P) :: (nat_lit 455, ob_455 P) :: (nat_lit 456, ob_456 P) :: (nat_lit 457, ob_457 P) :: (nat_lit 460, ob_460 P) :: (nat_lit 461, ob_461 P) :: (nat_lit 462, ob_462 P) :: (nat_lit 464, ob_464 P) :: (nat_lit 465, ob_465 P) :: (nat_lit 467, ob_467 P) :: (nat_lit 468, ob_468 P) :: (nat_lit 469, ob_469 P) :: (nat_lit 471, ob_471 P) :: (nat_lit 472, ob_472 P) :: (nat_lit 474, ob_474 P) :: (nat_lit 475, ob_475 P) :: (nat_lit 476, ob_476 P) :: (nat_lit 478, ob_478 P) :: (nat_lit 479, ob_479 P) :: (nat_lit 481, ob_481 P) :: (nat_lit 482, ob_482 P) :: (nat_lit 483, ob_483 P) :: (nat_lit 485, ob_485 P) :: (nat_lit 486, ob_486 P) :: (nat_lit 488, ob_488 P) :: (nat_lit 489, ob_489 P) :: (nat_lit 490, ob_490 P) :: (nat_lit 492, ob_492 P) :: (nat_lit 493, ob_493 P) :: (nat_lit 495, ob_495 P) :: (nat_lit 496, ob_496 P) :: (nat_lit 497, ob_497 P) :: (nat_lit 499, ob_499 P) :: (nat_lit 500, ob_500 P) :: (nat_lit 502, ob_502 P) :: (nat_lit 503, ob_503 P) :: (nat_lit 504, ob_504 P) :: (nat_lit 507, ob_507 P) :: (nat_lit 508, ob_508 P) :: (nat_lit 509, ob_509 P) :: (nat_lit 510, ob_510 P) :: (nat_lit 511, ob_511 P) :: (nat_lit 512, ob_512 P) :: (nat_lit 513, ob_513 P) :: (nat_lit 514, ob_514 P) :: (nat_lit 515, ob_515 P) :: (nat_lit 516, ob_516 P) :: (nat_lit 517, ob_517 P) :: (nat_lit 518, ob_518 P) :: (nat_lit 520, ob_520 P) :: (nat_lit 521, ob_521 P) :: (nat_lit 523, ob_523 P) :: (nat_lit 524, ob_524 P) :: (nat_lit 525, ob_525 P) :: (nat_lit 528, ob_528 P) :: (nat_lit 529, ob_529 P) :: (nat_lit 530, ob_530 P) :: (nat_lit 532, ob_532 P) :: (nat_lit 533, ob_533 P) :: (nat_lit 535, ob_535 P) :: (nat_lit 536, ob_536 P) :: (nat_lit 537, ob_537 P) :: (nat_lit 539, ob_539 P) :: (nat_lit 540, ob_540 P) :: (nat_lit 542, ob_542 P) :: (nat_lit 543, ob_543 P) :: (nat_lit 544, ob_544 P) :: (nat_lit 546, ob_546 P) :: (nat_lit 547, ob_547 P) :: (nat_lit 549, ob_549 P) :: (nat_lit 550, ob_550 P) :: (nat_lit 551, ob_551 P) :: (nat_lit 553, ob_553 P) :: (nat_lit 554, ob_554 P) :: (nat_lit 556, ob_556 P) :: (nat_lit 557, ob_557 P) :: (nat_lit 558, ob_558 P) :: (nat_lit 560, ob_560 P) :: (nat_lit 561, ob_561 P) :: (nat_lit 563, ob_563 P) :: (nat_lit 564, ob_564 P) :: (nat_lit 565, ob_565 P) :: (nat_lit 567, ob_567 P) :: (nat_lit 568, ob_568 P) :: (nat_lit 570, ob_570 P) :: (nat_lit 571, ob_571 P) :: (nat_lit 572, ob_572 P) :: (nat_lit 574, ob_574 P) :: (nat_lit 575, ob_575 P) :: (nat_lit 577, ob_577 P) :: (nat_lit 578, ob_578 P) :: (nat_lit 579, ob_579 P) :: (nat_lit 581, ob_581 P) :: (nat_lit 582, ob_582 P) :: (nat_lit 584, ob_584 P) :: (nat_lit 585, ob_585 P) :: (nat_lit 586, ob_586 P) :: (nat_lit 588, ob_588 P) :: (nat_lit 589, ob_589 P) :: (nat_lit 591, ob_591 P) :: (nat_lit 592, ob_592 P) :: (nat_lit 593, ob_593 P) :: (nat_lit 595, ob_595 P) :: (nat_lit 596, ob_596 P) :: (nat_lit 598, ob_598 P) :: (nat_lit 599, ob_599 P) :: (nat_lit 600, ob_600 P) :: (nat_lit 602, ob_602 P) :: (nat_lit 603, ob_603 P) :: (nat_lit 605, ob_605 P) :: (nat_lit 606, ob_606 P) :: (nat_lit 607, ob_607 P) :: (nat_lit 610, ob_610 P) :: (nat_lit 611, ob_611 P) :: (nat_lit 612, ob_612 P) :: (nat_lit 614, ob_614 P) :: (nat_lit 615, ob_615 P) :: (nat_lit 617, ob_617 P) :: (nat_lit 618, ob_618 P) :: (nat_lit 626, ob_626 P) :: (nat_lit 627, ob_627 P) :: (nat_lit 629, ob_629 P) :: (nat_lit 630, ob_630 P) :: (nat_lit 632, ob_632 P) :: (nat_lit 633, ob_633 P) :: (nat_lit 634, ob_634 P) :: (nat_lit 635, ob_635 P) :: (nat_lit 636, ob_636 P) :: (nat_lit 637, ob_637 P) :: (nat_lit 638, ob_638 P) :: (nat_lit 648, ob_648 P) :: (nat_lit 650, ob_650 P) :: (nat_lit 651, ob_651 P) :: (nat_lit 653, ob_653 P) :: (nat_lit 654, ob_654 P) :: (nat_lit 655, ob_655 P) :: (nat_lit 656, ob_656 P) :: (nat_lit 657, ob_657 P) :: (nat_lit 658, ob_658 P) :: (nat_lit 659, ob_659 P) :: (nat_lit 662, ob_662 P) :: (nat_lit 664, ob_664 P) :: (nat_lit 665, ob_665 P) :: (nat_lit 667, ob_667 P) :: (nat_lit 668, ob_668 P) :: (nat_lit 669, ob_669 P) :: (nat_lit 671, ob_671 P) :: (nat_lit 672, ob_672 P) :: (nat_lit 674, ob_674 P) :: (nat_lit 675, ob_675 P) :: (nat_lit 676, ob_676 P) :: (nat_lit 678, ob_678 P) :: (nat_lit 679, ob_679 P) :: (nat_lit 681, ob_681 P) :: (nat_lit 682, ob_682 P) :: (nat_lit 683, ob_683 P) :: (nat_lit 685, ob_685 P) :: (nat_lit 686, ob_686 P) :: (nat_lit 688, ob_688 P) :: (nat_lit 689, ob_689 P) :: (nat_lit 690, ob_690 P) :: (nat_lit 692, ob_692 P) :: (nat_lit 693, ob_693 P) :: (nat_lit 695, ob_695 P) :: (nat_lit 696, ob_696 P) :: (nat_lit 697, ob_697 P) :: (nat_lit 699, ob_699 P) :: (nat_lit 700, ob_700 P) :: (nat_lit 702, ob_702 P) :: (nat_lit 703, ob_703 P) :: (nat_lit 704, ob_704 P) :: (nat_lit 706, ob_706 P) :: (nat_lit 707, ob_707 P) :: (nat_lit 709, ob_709 P) :: (nat_lit 710, ob_710 P) :: (nat_lit 711, ob_711 P) :: (nat_lit 713, ob_713 P) :: (nat_lit 714, ob_714 P) :: (nat_lit 716, ob_716 P) :: (nat_lit 717, ob_717 P) :: (nat_lit 718, ob_718 P) :: (nat_lit 720, ob_720 P) :: (nat_lit 721, ob_721 P) :: (nat_lit 723, ob_723 P) :: (nat_lit 724, ob_724 P) :: (nat_lit 725, ob_725 P) :: (nat_lit 727, ob_727 P) :: (nat_lit 728, ob_728 P) :: (nat_lit 730, ob_730 P) :: (nat_lit 731, ob_731 P) :: (nat_lit 732, ob_732 P) :: (nat_lit 734, ob_734 P) :: (nat_lit 735, ob_735 P) :: (nat_lit 737, ob_737 P) :: (nat_lit 738, ob_738 P) :: (nat_lit 739, ob_739 P) :: (nat_lit 741, ob_741 P) :: (nat_lit 742, ob_742 P) :: (nat_lit 744, ob_744 P) :: (nat_lit 745, ob_745 P) :: (nat_lit 746, ob_746 P) :: (nat_lit 748, ob_748 P) :: (nat_lit 749, ob_749 P) :: (nat_lit 751, ob_751 P) :: (nat_lit 752, ob_752 P) :: (nat_lit 753, ob_753 P) :: (nat_lit 755, ob_755 P) :: (nat_lit 756, ob_756 P) :: (nat_lit 758, ob_758 P) :: (nat_lit 759, ob_759 P) :: (nat_lit 760, ob_760 P) :: (nat_lit 762, ob_762 P) :: (nat_lit 763, ob_763 P) :: (nat_lit 765, ob_765 P) :: (nat_lit 766, ob_766 P) :: (nat_lit 767, ob_767 P) :: (nat_lit 769, ob_769 P) :: (nat_lit 770, ob_770 P) :: (nat_lit 772, ob_772 P) :: (nat_lit 773, ob_773 P) :: (nat_lit 774, ob_774 P) :: (nat_lit 777, ob_777 P) :: (nat_lit 778, ob_778 P) :: (nat_lit 779, ob_779 P) :: (nat_lit 781, ob_781 P) :: (nat_lit 782, ob_782 P) :: (nat_lit 784, ob_784 P) :: (nat_lit 785, ob_785 P) :: (nat_lit 786, ob_786 P) :: (nat_lit 788, ob_788 P) :: (nat_lit 789, ob_789 P) :: (nat_lit 791, ob_791 P) :: (nat_lit 792, ob_792 P) :: (nat_lit 793, ob_793 P) :: (nat_lit 795, ob_795 P) :: (nat_lit 796, ob_796 P) :: (nat_lit 798, ob_798 P) :: (nat_lit 799, ob_799 P) :: (nat_lit 800, ob_800 P) :: (nat_lit 802, ob_802 P) :: (nat_lit 803, ob_803 P) :: (nat_lit 805, ob_805 P) :: (nat_lit 806, ob_806 P) :: (nat_lit 807, ob_807 P) :: (nat_lit 809, ob_809 P) :: (nat_lit 810, ob_810 P) :: (nat_lit 812, ob_812 P) :: (nat_lit 813, ob_813 P) :: (nat_lit 814, ob_814 P) :: (nat_lit 816, ob_816 P) :: (nat_lit 817, ob_817 P) :: (nat_lit 819, ob_819 P) :: (nat_lit 820, ob_820 P) :: (nat_lit 821, ob_821 P) :: (nat_lit 823, ob_823 P) :: (nat_lit 824, ob_824 P) :: (nat_lit 826, ob_826 P) :: (nat_lit 827, ob_827 P) :: (nat_lit 828, ob_828 P) :: (nat_lit 830, ob_830 P) :: (nat_lit 831, ob_831 P) :: (nat_lit 833, ob_833 P) :: (nat_lit 834, ob_834 P) :: (nat_lit 835, ob_835 P) :: (nat_lit 837, ob_837 P) :: (nat_lit 838, ob_838 P) :: (nat_lit 840, ob_840 P) :: (nat_lit 841, ob_841 P) :: (nat_lit 842, ob_842 P) :: (nat_lit 843, ob_843 P) :: (nat_lit 845, ob_845 P) :: (nat_lit 846, ob_846 P) :: (nat_lit 848, ob_848 P) :: (nat_lit 849, ob_849 P) :: (nat_lit 850, ob_850 P) :: (nat_lit 851, ob_851 P) :: (nat_lit 853, ob_853 P) :: (nat_lit 854, ob_854 P) :: (nat_lit 856, ob_856 P) :: (nat_lit 857, ob_857 P) :: (nat_lit 858, ob_858 P) :: (nat_lit 859, ob_859 P) :: (nat_lit 861, ob_861 P) :: (nat_lit 862, ob_862 P) :: (nat_lit 864, ob_864 P) :: (nat_lit 865, ob_865 P) :: (nat_lit 866, ob_866 P) :: (nat_lit 868, ob_868 P) :: (nat_lit 869, ob_869 P) :: (nat_lit 871, ob_871 P) :: (nat_lit 872, ob_872 P) :: (nat_lit 873, ob_873 P) :: (nat_lit 875, ob_875 P) :: (nat_lit 876, ob_876 P) :: (nat_lit 878, ob_878 P) :: (nat_lit 879, ob_879 P) :: []
noncomputable abbrev hN : Nat := 880
noncomputable abbrev hT : Nat := 1551
noncomputable abbrev hS : Nat := 5658
noncomputable def qv : Program := view pw [1, 2, 3, 4, 5, 6, 7, 8, 9, 10, 12, 13, 14, 16, 17, 18, 19, 20, 21, 22, 23, 24, 25, 26, 28, 29, 30, 31, 32, 33, 34, 35, 36, 37, 38, 39, 40, 41, 42, 43, 44, 45, 46, 47, 48, 49, 50, 52, 53, 54, 55, 56, 57, 58, 59, 60, 61, 62, 63, 64, 65, 66, 68, 69, 70, 71, 72, 73, 74, 75, 76, 77, 78, 79, 80, 81, 82, 83, 84, 85, 87, 89, 91, 92, 93, 94, 95, 96, 97, 98, 99, 100, 101, 102, 103, 104, 105, 106, 107, 108, 109, 110, 111, 112, 113, 114, 115, 116, 117, 118, 119, 125, 126]
noncomputable def lo : List Str := [Str.ofString "POSIX_RANGES", Str.ofString "PLAIN_ESCAPES", Str.ofString "COUNT_SIGNS", Str.ofString "LOOKS", Str.ofString "NAME_SIGNS", Str.ofString "Limits", Str.ofString "search_pattern", Str.ofString "next_match", Str.ofString "substitute"]
end Mp
namespace Mp
noncomputable abbrev rwN := PySem.Challenge.rw_sz0093_01
noncomputable abbrev denQ := PySem.W.Fast.tw11892475500146522536
noncomputable abbrev tabQ := PySem.W.Fast.tw14364793385576792824
noncomputable abbrev stepTQ := PySem.W.Fast.tw10156331382660048174
noncomputable abbrev stepOkQ := PySem.W.Fast.tw6613529449190102663
theorem fin_tree (P : Params) : absHeap (tpB 10 (HL P)) hN (boot_heap P).life = HF P := by kernel_rfl
noncomputable def S0T (P : Params) (os : OsState) : SharedT := ⟨tpB 10 (boot_heap P).objs.toList, (boot_heap P).objs.size, (boot_heap P).life, #[], boot_drawn, boot_toks, os⟩
noncomputable def S1T (P : Params) (os : OsState) : SharedT := ⟨tpB 10 (HL P), hN, (boot_heap P).life, #[], boot_drawn, hT, os⟩
noncomputable abbrev runQ (w : World) : Prop := ∀ os, tpD (stepOkQ (nat_lit 11) (some (.ref (nat_lit 6)))) (stepTQ (denQ tabQ) pw w) 300 20 (S0T w.params os) (topStub pw) = some (S1T w.params os)
theorem run_f (w : World) : runQ (w.withFollow "special-get-raises" false) := fun os => by kernel_rfl
theorem run_t (w : World) : runQ (w.withFollow "special-get-raises" true) := fun os => by kernel_rfl
theorem run_all (w : World) (os : OsState) : topRun treeTable pw w 11 (some (.ref 6)) (20 * 300 + 1) ⟨boot_heap w.params, #[], boot_drawn, boot_toks, os⟩ (topStub pw) = some ⟨HF w.params, #[], boot_drawn, hT, os⟩ := by
  have h := byRow2 "special-get-raises" (P := runQ) run_f run_t w os
  unfold denQ tabQ stepTQ stepOkQ at h
  rw [← PySem.W.Fast.te11892475500146522536, ← PySem.W.Fast.te14364793385576792824, ← PySem.W.Fast.te10156331382660048174, ← PySem.W.Fast.te6613529449190102663] at h
  have k := tpD_spec h
  unfold S0T S1T SharedT.abs at k
  dsimp only at k
  rw [fin_tree, ← boot_tree] at k
  exact k
theorem hl_all (P : Params) : (HL P).all tpF = true := by kernel_rfl
theorem kas_eq (P : Params) : kas = (K P).map (·.1) := by kernel_rfl
theorem K_eq (P : Params) : K P = tpZ (HL P) 0 kas := by kernel_rfl
noncomputable abbrev Xt1 : Shared → Bool := fun s => xlAt qv [] s && recOk (RowW.records (OpenRow.toRowW (OpenLaw.row rwN))) s
noncomputable abbrev Sf (P : Params) (os : OsState) : Shared := ⟨HF P, #[], boot_drawn, hT, os⟩
noncomputable abbrev md : List Str := importedModules pw.main.body
theorem l3 (w : World) (os : OsState) : Hook.obs (kHook K kas kas_eq) (Sf w.params os) = Hook.val (kHook K kas kas_eq) w := by
  show kas.map (Heap.get? (HF w.params)) = (K w.params).map fun p => some p.2
  rw [K_eq]
  exact tpGet (by rw [← K_eq]; exact kas_eq _) (hl_all _)
theorem lop (w : World) : (fencedOpening treeTable pw w (2 * hS + 100)).map (fun s => (s.heap, s.gens, s.drawn, s.toks)) = some (boot_heap w.params, Array.mk [], boot_drawn, boot_toks) := boot_open (by kernel_rfl) (by kernel_rfl) (fun s => by kernel_rfl) w
theorem l0 (w : World) : ((boot_heap w.params).isNs mainGlobals && (#[] : Array GenState).size == 0, (boot_heap w.params).objs.size, (boot_heap w.params).nsMap mainGlobals "__annotations__") = (true, 11, some (.ref 6)) := by kernel_rfl
theorem l1 (w : World) (os : OsState) : (staticsOk md (boot_heap w.params) (HF w.params) && namesBound pw (HF w.params) && gensDone (Sf w.params os) && laidKept (boot_heap w.params) (HF w.params)) = true := by kernel_rfl
theorem l2a (w : World) (os : OsState) : seen ((recsOf qv).map (·.name)) (ownsOf qv) [] { Sf w.params os with gens := #[] } = expectedOf qv ∧ (HF w.params).bltView = bltViewBooted ∧
    (HF w.params).keysOk (looseW qv lo) ((recsOf qv).map (·.name)) ((litsOf qv).map (·.1)) ((clssOf qv (looseW qv lo)).map (·.name)) = true :=
  ⟨by kernel_rfl, by kernel_rfl, by kernel_rfl⟩
theorem l2b (w : World) (os : OsState) : (HF w.params).accountedOkI md = true ∧ (HF w.params).isNs mainGlobals = true ∧ (HF w.params).isNs builtinsNs = true ∧ tablesOk qv (HF w.params) = true ∧ Xt1 (Sf w.params os) = true :=
  ⟨by kernel_rfl, by kernel_rfl, by kernel_rfl, by kernel_rfl, by kernel_rfl⟩
theorem l2c (w : World) (os : OsState) : tabsOk qv (Sf w.params os) = true ∧ pinSeenD qv (drecsOf qv) (Sf w.params os) = pinGoodD (drecsOf qv) ∧ plainSeenE qv (looseW qv lo) (Sf w.params os) = plainGoodE qv (looseW qv lo) ∧
    plainSeenD qv lo (Sf w.params os) = plainGoodD qv lo ∧ wideSeen qv (Sf w.params os) = wideGood qv ∧ clsSeenW qv lo (Sf w.params os) = clsGoodW qv lo :=
  ⟨by kernel_rfl, by kernel_rfl, by kernel_rfl, by kernel_rfl, by kernel_rfl, by kernel_rfl⟩
theorem l2 (w : World) (os : OsState) : openSeen qv lo md Xt1 true (Sf w.params os) = openGood qv lo := by
  obtain ⟨a1, a2, a3⟩ := l2a w os
  obtain ⟨b1, b2, b3, b4, b5⟩ := l2b w os
  obtain ⟨c1, c2, c3, c4, c5, c6⟩ := l2c w os
  refine looks_pair a1 (looks_pair a2 (looks_pair ?_ (looks_pair c1 (looks_pair c2 (looks_pair c3 (looks_pair c4 (looks_pair c5 c6)))))))
  exact look_both (look_both (look_both (look_both (look_both (look_both a3 b1) b2) b3) b4) b5) rfl
theorem left_ : LeftO pw qv lo Xt1 (Hook.obs (kHook K kas kas_eq)) (Hook.val (kHook K kas kas_eq)) (2 * hS + 100) :=
  LeftO.of_pieces lop l0 run_all (by kernel_rfl) (fun w => funext fun os => looks_pair (l1 w os) (looks_pair (l2 w os) (l3 w os)))
theorem said0 : PySem.W.Fast.tw9446332074065402090 rwN = true := by kernel_rfl
theorem said1 : OpenLaw.wellSaid rwN = true := by rw [PySem.W.Fast.te9446332074065402090]; exact said0
theorem chains1 : (chainsOk qv && opensWell pw && (frees (OpenRow.toRowW (OpenLaw.row rwN)) && (OpenLaw.row rwN).within.isEmpty)) = true := by kernel_rfl
end Mp
namespace Mp
noncomputable section
structure Base where
  prog : Program
  w : World
  p : Program
  loose : List Str
  mean : ExcName → Option Value
  mg : Str → Option Value
  mb : Str → Option Value
  scr : Addr
  sob : Obj
noncomputable abbrev cAt : Nat → List Str := fun n => match n with
  | 32 => ["rows", "groups", "registers", "names"]
  | 67 => ["rows", "registers"]
  | 137 => ["text"]
  | 157 => ["at"]
  | 176 => ["steps"]
  | 314 => ["text", "total", "at", "groups", "depth", "names", "spoken"]
  | 636 => ["width", "depth", "steps", "text", "items"]
  | 657 => ["program", "text", "begin", "least_end", "most", "steps", "at", "row", "groups", "registers", "pile"]
  | _ => []
noncomputable def cdK (K : Frag) : Nat → CD := fun n => match n with
  | 0 => cdOf K 879
  | _ => cdOf K 0
noncomputable abbrev cx (c : Base) : Cx := ⟨c.prog, c.w, K c.w.params ++ [(c.scr, c.sob)], c.p, c.loose, c.mean, c.mg, c.mb, fun n => bif Nat.beq n 5000000 then c.scr else n, cAt, cdK (K c.w.params)⟩
noncomputable abbrev ex_879 (c : Base) : Env → Prop := fun e => ∃ L a cl, e = envX (fdOf (cx c).K 879).qualname (fdOf (cx c).K 879).scope L a (.ref (cdOf (cx c).K 879).code) cl
noncomputable def sc_879 (c : Base) : Sc := ⟨(fdOf (cx c).K 879).scope, ["script", "cells", "number", "even", "one", "row", "more", "turn", "halved", "count", "longer", "many"], ["times"], ex_879 c⟩
theorem ln_879_1 (c : Base) : LocName (sc_879 c) 1 "cells" := ⟨rfl, by kernel_rfl, by kernel_rfl⟩
theorem ln_879_0 (c : Base) : LocName (sc_879 c) 0 "script" := ⟨rfl, by kernel_rfl, by kernel_rfl⟩
theorem gz_len (c : Base) : nsIn (cx c).K mainGlobals "len" = some none := by kernel_rfl
theorem bn_879_len (c : Base) : BltName (cx c) (sc_879 c) "len" (.builtin "len") := ⟨gz_len c, by kernel_rfl, by decide, by kernel_rfl, by kernel_rfl⟩
noncomputable def B_law_0 (xs : List V) : SS := (junkS [2, 3, 4, 5] (asgS (asgL 1) (hE addL (scrE 5000000 2 xs (lE 0) partN (partE (cE (.int 2)))) (sliE (listE (esC (cE (.int 0)) (esC (cE (.int 2)) esN))) (partE (bltE lenG (esC (scrE 5000000 2 xs (lE 0) partN (partE (cE (.int 2)))) esN))) partN))))
theorem co_879_0 (c : Base) : CelOwn (sc_879 c) 0 "times" := ⟨rfl, by kernel_rfl⟩
noncomputable def B_law_1 (xs : List V) : SS := (asgS (asgC 0) (subE (tupE (esC (cE (.int 3)) (esC (cE (.int 1)) esN))) (bE modV (subE (lE 1) (cE (.int 0))) (cE (.int 2)))))
theorem ln_879_2 (c : Base) : LocName (sc_879 c) 2 "number" := ⟨rfl, by kernel_rfl, by kernel_rfl⟩
theorem cn_879_0 (c : Base) : CelName (sc_879 c) 0 "times" := ⟨rfl, by kernel_rfl, by kernel_rfl, by kernel_rfl⟩
noncomputable def B_law_2 (xs : List V) : SS := (junkS [6] (asgS (asgL 2) (bE addV (cE (.int 1)) (bE modV (subE (lE 1) (cE (.int 1))) (ifE (tE (bE eqV (ceE 0) (cE (.int 3)))) (cE (.int 6)) (cE (.int 12)))))))
noncomputable def sc_618 (c : Base) : Sc := ⟨(fdOf (cx c).K 618).scope, ["text", "flags", "node", "groups", "names"], [], fun _ => True⟩
theorem fk_618 (c : Base) : FnK (cx c) 618 ["text", "flags"] ["text", "flags", "node", "groups", "names"] [2] [] where
  at_ := by kernel_rfl
  isF := ⟨by kernel_rfl, by kernel_rfl, by kernel_rfl, by kernel_rfl⟩
  code := by kernel_rfl
  bind := bindD (ds := []) (fun _ _ => .nil) (one_ar (fun S ws h => by obtain ⟨w0, w1, rfl⟩ := len2 h; kernel_rfl))
  ars := by decide
  pre := ⟨["node", "groups", "names"], rfl⟩
  nd := by decide
  loc := by kernel_rfl
  cell := by kernel_rfl
  co := by kernel_rfl
  gen := by kernel_rfl
  kind := by kernel_rfl
theorem ln_618_4 (c : Base) : LocName (sc_618 c) 4 "names" := ⟨rfl, by kernel_rfl, by kernel_rfl⟩
theorem ln_618_3 (c : Base) : LocName (sc_618 c) 3 "groups" := ⟨rfl, by kernel_rfl, by kernel_rfl⟩
theorem ln_618_2 (c : Base) : LocName (sc_618 c) 2 "node" := ⟨rfl, by kernel_rfl, by kernel_rfl⟩
noncomputable def sc_120 (c : Base) : Sc := ⟨(fdOf (cx c).K 120).scope, ["node", "groups", "names", "maker"], [], fun _ => True⟩
theorem fk_120 (c : Base) : FnK (cx c) 120 ["node", "groups", "names"] ["node", "groups", "names", "maker"] [3] [] where
  at_ := by kernel_rfl
  isF := ⟨by kernel_rfl, by kernel_rfl, by kernel_rfl, by kernel_rfl⟩
  code := by kernel_rfl
  bind := bindD (ds := []) (fun _ _ => .nil) (one_ar (fun S ws h => by obtain ⟨w0, w1, w2, rfl⟩ := len3 h; kernel_rfl))
  ars := by decide
  pre := ⟨["maker"], rfl⟩
  nd := by decide
  loc := by kernel_rfl
  cell := by kernel_rfl
  co := by kernel_rfl
  gen := by kernel_rfl
  kind := by kernel_rfl
theorem ln_120_2 (c : Base) : LocName (sc_120 c) 2 "names" := ⟨rfl, by kernel_rfl, by kernel_rfl⟩
theorem ln_120_3 (c : Base) : LocName (sc_120 c) 3 "maker" := ⟨rfl, by kernel_rfl, by kernel_rfl⟩
theorem ao_67_1 (c : Base) : AttrOk (cx c) 67 1 "registers" := ⟨rfl, by kernel_rfl, by kernel_rfl, by kernel_rfl⟩
theorem ln_120_1 (c : Base) : LocName (sc_120 c) 1 "groups" := ⟨rfl, by kernel_rfl, by kernel_rfl⟩
theorem ao_67_0 (c : Base) : AttrOk (cx c) 67 0 "rows" := ⟨rfl, by kernel_rfl, by kernel_rfl, by kernel_rfl⟩
theorem mk_32 (c : Base) : MakeOk (cx c) 32 29 := ⟨by kernel_rfl, by kernel_rfl, by kernel_rfl, trivial⟩
noncomputable def sc_29 (c : Base) : Sc := ⟨(fdOf (cx c).K 29).scope, ["self", "rows", "groups", "registers", "names"], [], fun _ => True⟩
theorem fk_29 (c : Base) : FnK (cx c) 29 ["self", "rows", "groups", "registers", "names"] ["self", "rows", "groups", "registers", "names"] [5] [] where
  at_ := by kernel_rfl
  isF := ⟨by kernel_rfl, by kernel_rfl, by kernel_rfl, by kernel_rfl⟩
  code := by kernel_rfl
  bind := bindD (ds := []) (fun _ _ => .nil) (one_ar (fun S ws h => by obtain ⟨w0, w1, w2, w3, w4, rfl⟩ := len5 h; kernel_rfl))
  ars := by decide
  pre := ⟨[], rfl⟩
  nd := by decide
  loc := by kernel_rfl
  cell := by kernel_rfl
  co := by kernel_rfl
  gen := by kernel_rfl
  kind := by kernel_rfl
theorem ln_29_0 (c : Base) : LocName (sc_29 c) 0 "self" := ⟨rfl, by kernel_rfl, by kernel_rfl⟩
theorem nd_32 : (cAt 32).Nodup := by decide
theorem fw_32 : (cAt 32).length ≤ 100 := by decide
theorem so_32_3 (c : Base) : SetOk (cx c) 32 3 "names" := ⟨rfl, nd_32, fw_32, by kernel_rfl, by kernel_rfl, by kernel_rfl, by kernel_rfl⟩
theorem ln_29_4 (c : Base) : LocName (sc_29 c) 4 "names" := ⟨rfl, by kernel_rfl, by kernel_rfl⟩
theorem so_32_2 (c : Base) : SetOk (cx c) 32 2 "registers" := ⟨rfl, nd_32, fw_32, by kernel_rfl, by kernel_rfl, by kernel_rfl, by kernel_rfl⟩
theorem ln_29_3 (c : Base) : LocName (sc_29 c) 3 "registers" := ⟨rfl, by kernel_rfl, by kernel_rfl⟩
theorem so_32_1 (c : Base) : SetOk (cx c) 32 1 "groups" := ⟨rfl, nd_32, fw_32, by kernel_rfl, by kernel_rfl, by kernel_rfl, by kernel_rfl⟩
theorem ln_29_2 (c : Base) : LocName (sc_29 c) 2 "groups" := ⟨rfl, by kernel_rfl, by kernel_rfl⟩
theorem so_32_0 (c : Base) : SetOk (cx c) 32 0 "rows" := ⟨rfl, nd_32, fw_32, by kernel_rfl, by kernel_rfl, by kernel_rfl, by kernel_rfl⟩
theorem ln_29_1 (c : Base) : LocName (sc_29 c) 1 "rows" := ⟨rfl, by kernel_rfl, by kernel_rfl⟩
noncomputable def B_Program___init__ : SS := (seqS (asgS (asgA 32 0 (lE 0)) (lE 1))
  (seqS (asgS (asgA 32 1 (lE 0)) (lE 2))
  (seqS (asgS (asgA 32 2 (lE 0)) (lE 3))
  (seqS (asgS (asgA 32 3 (lE 0)) (lE 4))
  nilS))))
theorem S_Program___init__ (c : Base) : SoundB (cx c) 0 (sc_29 c) (stOf (cx c).K 29) B_Program___init__ := (sb_cons (s_asg (u_attr (l_name (ln_29_0 c)) (so_32_0 c)) (l_name (ln_29_1 c)) (fun _ => rfl) (fun _ => rfl) (fun _ => rfl))
  (sb_cons (s_asg (u_attr (l_name (ln_29_0 c)) (so_32_1 c)) (l_name (ln_29_2 c)) (fun _ => rfl) (fun _ => rfl) (fun _ => rfl))
  (sb_cons (s_asg (u_attr (l_name (ln_29_0 c)) (so_32_2 c)) (l_name (ln_29_3 c)) (fun _ => rfl) (fun _ => rfl) (fun _ => rfl))
  (sb_cons (s_asg (u_attr (l_name (ln_29_0 c)) (so_32_3 c)) (l_name (ln_29_4 c)) (fun _ => rfl) (fun _ => rfl) (fun _ => rfl))
  sb_nil))))
noncomputable def F_Program___init__ : FnG := runB [5] 5 5 [] B_Program___init__
theorem ok_Program___init__ (c : Base) : CallOk (cx c) 1 (.ref ((cx c).ga 29)) F_Program___init__ := fn_okK (fk_29 c) (S_Program___init__ c)
theorem kp_32 (c : Base) : keepIn (cx c).K (.ref ((cx c).ga 32)) = true := by kernel_rfl
theorem gv_Program (c : Base) : nsIn (cx c).K mainGlobals "Program" = some (some (.ref 32)) := by kernel_rfl
theorem gn_120_Program (c : Base) : GloName (cx c) (sc_120 c) "Program" (.ref 32) := ⟨gv_Program c, by kernel_rfl, by kernel_rfl⟩
theorem fn_120_Program (c : Base) : FnName (cx c) (sc_120 c) "Program" 32 := ⟨gn_120_Program c, kp_32 c⟩
theorem kp_57 (c : Base) : keepIn (cx c).K (.ref ((cx c).ga 57)) = true := by kernel_rfl
theorem mo_57 (c : Base) : MethOk (cx c) 67 "add" 57 := ⟨by kernel_rfl, by kernel_rfl, by kernel_rfl, kp_57 c, (by decide : ("add" : Str) ∉ cAt 67)⟩
noncomputable def sc_57 (c : Base) : Sc := ⟨(fdOf (cx c).K 57).scope, ["self", "row"], [], fun _ => True⟩
theorem fk_57 (c : Base) : FnK (cx c) 57 ["self", "row"] ["self", "row"] [2] [] where
  at_ := by kernel_rfl
  isF := ⟨by kernel_rfl, by kernel_rfl, by kernel_rfl, by kernel_rfl⟩
  code := by kernel_rfl
  bind := bindD (ds := []) (fun _ _ => .nil) (one_ar (fun S ws h => by obtain ⟨w0, w1, rfl⟩ := len2 h; kernel_rfl))
  ars := by decide
  pre := ⟨[], rfl⟩
  nd := by decide
  loc := by kernel_rfl
  cell := by kernel_rfl
  co := by kernel_rfl
  gen := by kernel_rfl
  kind := by kernel_rfl
theorem ln_57_0 (c : Base) : LocName (sc_57 c) 0 "self" := ⟨rfl, by kernel_rfl, by kernel_rfl⟩
theorem bn_57_len (c : Base) : BltName (cx c) (sc_57 c) "len" (.builtin "len") := ⟨gz_len c, by kernel_rfl, by decide, by kernel_rfl, by kernel_rfl⟩
theorem ln_57_1 (c : Base) : LocName (sc_57 c) 1 "row" := ⟨rfl, by kernel_rfl, by kernel_rfl⟩
noncomputable def B_RowMaker_add : SS := (seqS (exprS (appendE (attrE 67 0 (lE 0)) (lE 1)))
  (seqS (retS (bE subV (bltE lenG (esC (attrE 67 0 (lE 0)) esN)) (cE (.int 1))))
  nilS))
theorem S_RowMaker_add (c : Base) : SoundB (cx c) 0 (sc_57 c) (stOf (cx c).K 57) B_RowMaker_add := (sb_cons (s_expr (b_append (b_attr (l_name (ln_57_0 c)) (ao_67_0 c) (fun _ => rfl)) (l_name (ln_57_1 c)) (fun _ => ⟨rfl, rfl⟩) (fun _ => rfl)) (fun _ => rfl))
  (sb_cons (s_ret (b_op (b_blt (bn_57_len c) f_len (es_cons (b_attr (l_name (ln_57_0 c)) (ao_67_0 c) (fun _ => rfl)) es_nil (fun _ => rfl)) (fun _ => ⟨rfl, rfl⟩) (fun _ => ⟨rfl, trivial⟩) (fun _ => rfl)) c_int bin_sub))
  sb_nil))
noncomputable def F_RowMaker_add : FnG := runB [2] 2 2 [] B_RowMaker_add
theorem ok_RowMaker_add (c : Base) : CallOk (cx c) 1 (.ref ((cx c).ga 57)) F_RowMaker_add := fn_okK (fk_57 c) (S_RowMaker_add c)
theorem ln_120_0 (c : Base) : LocName (sc_120 c) 0 "node" := ⟨rfl, by kernel_rfl, by kernel_rfl⟩
noncomputable def sc_78 (c : Base) : Sc := ⟨(fdOf (cx c).K 78).scope, ["maker", "node", "word", "one", "register"], [], fun _ => True⟩
theorem fk_78 (c : Base) : FnK (cx c) 78 ["maker", "node"] ["maker", "node", "word", "one", "register"] [2] [] where
  at_ := by kernel_rfl
  isF := ⟨by kernel_rfl, by kernel_rfl, by kernel_rfl, by kernel_rfl⟩
  code := by kernel_rfl
  bind := bindD (ds := []) (fun _ _ => .nil) (one_ar (fun S ws h => by obtain ⟨w0, w1, rfl⟩ := len2 h; kernel_rfl))
  ars := by decide
  pre := ⟨["word", "one", "register"], rfl⟩
  nd := by decide
  loc := by kernel_rfl
  cell := by kernel_rfl
  co := by kernel_rfl
  gen := by kernel_rfl
  kind := by kernel_rfl
theorem ln_78_2 (c : Base) : LocName (sc_78 c) 2 "word" := ⟨rfl, by kernel_rfl, by kernel_rfl⟩
theorem ln_78_0 (c : Base) : LocName (sc_78 c) 0 "maker" := ⟨rfl, by kernel_rfl, by kernel_rfl⟩
theorem ln_78_1 (c : Base) : LocName (sc_78 c) 1 "node" := ⟨rfl, by kernel_rfl, by kernel_rfl⟩
theorem ln_78_3 (c : Base) : LocName (sc_78 c) 3 "one" := ⟨rfl, by kernel_rfl, by kernel_rfl⟩
theorem kp_78 (c : Base) : keepIn (cx c).K (.ref ((cx c).ga 78)) = true := by kernel_rfl
theorem gv_add_node (c : Base) : nsIn (cx c).K mainGlobals "add_node" = some (some (.ref 78)) := by kernel_rfl
theorem gn_78_add_node (c : Base) : GloName (cx c) (sc_78 c) "add_node" (.ref 78) := ⟨gv_add_node c, by kernel_rfl, by kernel_rfl⟩
theorem fn_78_add_node (c : Base) : FnName (cx c) (sc_78 c) "add_node" 78 := ⟨gn_78_add_node c, kp_78 c⟩
theorem ln_78_4 (c : Base) : LocName (sc_78 c) 4 "register" := ⟨rfl, by kernel_rfl, by kernel_rfl⟩
theorem kp_64 (c : Base) : keepIn (cx c).K (.ref ((cx c).ga 64)) = true := by kernel_rfl
theorem mo_64 (c : Base) : MethOk (cx c) 67 "fresh" 64 := ⟨by kernel_rfl, by kernel_rfl, by kernel_rfl, kp_64 c, (by decide : ("fresh" : Str) ∉ cAt 67)⟩
noncomputable def sc_64 (c : Base) : Sc := ⟨(fdOf (cx c).K 64).scope, ["self"], [], fun _ => True⟩
theorem fk_64 (c : Base) : FnK (cx c) 64 ["self"] ["self"] [1] [] where
  at_ := by kernel_rfl
  isF := ⟨by kernel_rfl, by kernel_rfl, by kernel_rfl, by kernel_rfl⟩
  code := by kernel_rfl
  bind := bindD (ds := []) (fun _ _ => .nil) (one_ar (fun S ws h => by obtain ⟨w0, rfl⟩ := len1 h; kernel_rfl))
  ars := by decide
  pre := ⟨[], rfl⟩
  nd := by decide
  loc := by kernel_rfl
  cell := by kernel_rfl
  co := by kernel_rfl
  gen := by kernel_rfl
  kind := by kernel_rfl
theorem ln_64_0 (c : Base) : LocName (sc_64 c) 0 "self" := ⟨rfl, by kernel_rfl, by kernel_rfl⟩
theorem nd_67 : (cAt 67).Nodup := by decide
theorem fw_67 : (cAt 67).length ≤ 100 := by decide
theorem so_67_1 (c : Base) : SetOk (cx c) 67 1 "registers" := ⟨rfl, nd_67, fw_67, by kernel_rfl, by kernel_rfl, by kernel_rfl, by kernel_rfl⟩
noncomputable def B_RowMaker_fresh : SS := (seqS (augA 67 1 iaddV (lE 0) (cE (.int 1)))
  (seqS (retS (bE subV (attrE 67 1 (lE 0)) (cE (.int 1))))
  nilS))
theorem S_RowMaker_fresh (c : Base) : SoundB (cx c) 0 (sc_64 c) (stOf (cx c).K 64) B_RowMaker_fresh := (sb_cons (s_augA (l_name (ln_64_0 c)) (ao_67_1 c) (so_67_1 c) c_int bin_iadd)
  (sb_cons (s_ret (b_op (b_attr (l_name (ln_64_0 c)) (ao_67_1 c) (fun _ => rfl)) c_int bin_sub))
  sb_nil))
noncomputable def F_RowMaker_fresh : FnG := runB [1] 1 1 [] B_RowMaker_fresh
theorem ok_RowMaker_fresh (c : Base) : CallOk (cx c) 1 (.ref ((cx c).ga 64)) F_RowMaker_fresh := fn_okK (fk_64 c) (S_RowMaker_fresh c)
noncomputable def sc_99 (c : Base) : Sc := ⟨(fdOf (cx c).K 99).scope, ["maker", "node", "word", "inner", "least", "most", "mode"], [], fun _ => True⟩
theorem fk_99 (c : Base) : FnK (cx c) 99 ["maker", "node"] ["maker", "node", "word", "inner", "least", "most", "mode"] [2] [] where
  at_ := by kernel_rfl
  isF := ⟨by kernel_rfl, by kernel_rfl, by kernel_rfl, by kernel_rfl⟩
  code := by kernel_rfl
  bind := bindD (ds := []) (fun _ _ => .nil) (one_ar (fun S ws h => by obtain ⟨w0, w1, rfl⟩ := len2 h; kernel_rfl))
  ars := by decide
  pre := ⟨["word", "inner", "least", "most", "mode"], rfl⟩
  nd := by decide
  loc := by kernel_rfl
  cell := by kernel_rfl
  co := by kernel_rfl
  gen := by kernel_rfl
  kind := by kernel_rfl
theorem ln_99_6 (c : Base) : LocName (sc_99 c) 6 "mode" := ⟨rfl, by kernel_rfl, by kernel_rfl⟩
theorem ln_99_3 (c : Base) : LocName (sc_99 c) 3 "inner" := ⟨rfl, by kernel_rfl, by kernel_rfl⟩
theorem vr_15 (c : Base) {led ρ} : VR (cx c) led ρ (.tup [(.str [115, 105, 103, 110]), (.str [97, 110, 121]), (.str [115, 101, 116])]) (.ref 15) := .tup [(.str [115, 105, 103, 110]), (.str [97, 110, 121]), (.str [115, 101, 116])] [(.str ⟨[115, 105, 103, 110].toArray⟩ 189), (.str ⟨[97, 110, 121].toArray⟩ 190), (.str ⟨[115, 101, 116].toArray⟩ 191)] 15 0 (.inr (by kernel_rfl)) (.cons (.str _ _) (.cons (.str _ _) (.cons (.str _ _) .nil)))
theorem gv_ONE_SIGN (c : Base) : nsIn (cx c).K mainGlobals "ONE_SIGN" = some (some (.ref 15)) := by kernel_rfl
theorem gn_99_ONE_SIGN (c : Base) : GloName (cx c) (sc_99 c) "ONE_SIGN" (.ref 15) := ⟨gv_ONE_SIGN c, by kernel_rfl, by kernel_rfl⟩
theorem ln_99_0 (c : Base) : LocName (sc_99 c) 0 "maker" := ⟨rfl, by kernel_rfl, by kernel_rfl⟩
theorem ln_99_5 (c : Base) : LocName (sc_99 c) 5 "most" := ⟨rfl, by kernel_rfl, by kernel_rfl⟩
theorem ln_99_4 (c : Base) : LocName (sc_99 c) 4 "least" := ⟨rfl, by kernel_rfl, by kernel_rfl⟩
theorem ln_99_2 (c : Base) : LocName (sc_99 c) 2 "word" := ⟨rfl, by kernel_rfl, by kernel_rfl⟩
theorem ln_99_1 (c : Base) : LocName (sc_99 c) 1 "node" := ⟨rfl, by kernel_rfl, by kernel_rfl⟩
noncomputable def B_add_repeats : SS := (seqS (asgS (asgT [2, 3, 4, 5, 6]) (lE 1))
  (seqS (ifS (tE (bE eqV (lE 6) (cE (.str [111, 119, 110]))))
  noS
  (seqS (ifS (tE (hE inT (subE (lE 3) (cE (.int 0))) (cE (.tup [(.str [115, 105, 103, 110]), (.str [97, 110, 121]), (.str [115, 101, 116])]))))
  (seqS (exprS (methE 67 F_RowMaker_add (lE 0) (esC (tupE (esC (cE (.str [114, 117, 110])) (esC (lE 3) (esC (lE 4) (esC (lE 5) (esC (bE eqV (lE 6) (cE (.str [108, 97, 122, 121]))) esN)))))) esN)))
  nilS)
  noS)
  nilS))
  nilS))
theorem S_add_repeats (c : Base) : SoundB (cx c) 1 (sc_99 c) (stOf (cx c).K 99) B_add_repeats := (sb_cons (s_asg (u_tup (.cons (ln_99_2 c) (.cons (ln_99_3 c) (.cons (ln_99_4 c) (.cons (ln_99_5 c) (.cons (ln_99_6 c) .nil)))))) (l_name (ln_99_1 c)) (fun _ => rfl) (fun _ => rfl) (fun _ => rfl))
  (sb_cons (s_if (t_cmp (l_name (ln_99_6 c)) (c_str (by kernel_rfl)) bin_eq rfl)
  no_b
  (sb_cons (s_if (ht_cmp (b_sub (l_name (ln_99_3 c)) c_int (fun _ _ => rfl)) (g_name (gn_99_ONE_SIGN c) (fun _ _ => (vr_15 c))) binh_in rfl)
  (sb_cons (s_expr (b_meth (l_name (ln_99_0 c)) (mo_57 c) ((ok_RowMaker_add c).up rfl) (es_cons (b_tup (es_cons (c_str (by kernel_rfl)) (es_cons (l_name (ln_99_3 c)) (es_cons (l_name (ln_99_4 c)) (es_cons (l_name (ln_99_5 c)) (es_cons (b_cmp (l_name (ln_99_6 c)) (c_str (by kernel_rfl)) bin_eq rfl) es_nil (fun _ => rfl)) (fun _ => rfl)) (fun _ => rfl)) (fun _ => rfl)) (fun _ => rfl))) es_nil (fun _ => rfl)) (fun _ => ⟨rfl, rfl⟩) nilOk_cons (fun _ => rfl)) (fun _ => rfl))
  sb_nil)
  no_b)
  sb_nil))
  sb_nil))
noncomputable def F_add_repeats : FnG := runB [2] 2 7 [] B_add_repeats
theorem ok_add_repeats (c : Base) : CallOk (cx c) 2 (.ref ((cx c).ga 99)) F_add_repeats := fn_okK (fk_99 c) (S_add_repeats c)
theorem kp_99 (c : Base) : keepIn (cx c).K (.ref ((cx c).ga 99)) = true := by kernel_rfl
theorem gv_add_repeats (c : Base) : nsIn (cx c).K mainGlobals "add_repeats" = some (some (.ref 99)) := by kernel_rfl
theorem gn_78_add_repeats (c : Base) : GloName (cx c) (sc_78 c) "add_repeats" (.ref 99) := ⟨gv_add_repeats c, by kernel_rfl, by kernel_rfl⟩
theorem fn_78_add_repeats (c : Base) : FnName (cx c) (sc_78 c) "add_repeats" 99 := ⟨gn_78_add_repeats c, kp_99 c⟩
noncomputable def B_add_node (g_add_node : FnG) : SS := (seqS (asgS (asgL 2) (subE (lE 1) (cE (.int 0))))
  (seqS (ifS (tE (hE inT (lE 2) (tupE (esC (cE (.str [115, 105, 103, 110])) (esC (cE (.str [97, 110, 121])) (esC (cE (.str [115, 101, 116])) (esC (cE (.str [97, 116])) (esC (cE (.str [98, 97, 99, 107])) esN))))))))
  (seqS (exprS (methE 67 F_RowMaker_add (lE 0) (esC (lE 1) esN)))
  nilS)
  (seqS (ifS (tE (bE eqV (lE 2) (cE (.str [115, 101, 113]))))
  (seqS (forVS (subE (lE 1) (cE (.int 1))) (asgL 3)
  (seqS (exprS (callE g_add_node (esC (lE 0) (esC (lE 3) esN))))
  nilS) 1000)
  nilS)
  (seqS (ifS (tE (bE eqV (lE 2) (cE (.str [97, 108, 116]))))
  noS
  (seqS (ifS (tE (bE eqV (lE 2) (cE (.str [103, 114, 111, 117, 112]))))
  (seqS (asgS (asgL 4) (methE 67 F_RowMaker_fresh (lE 0) esN))
  (seqS (exprS (methE 67 F_RowMaker_add (lE 0) (esC (tupE (esC (cE (.str [111, 112, 101, 110])) (esC (lE 4) esN))) esN)))
  (seqS (exprS (callE g_add_node (esC (lE 0) (esC (subE (lE 1) (cE (.int 2))) esN))))
  (seqS (exprS (methE 67 F_RowMaker_add (lE 0) (esC (tupE (esC (cE (.str [99, 108, 111, 115, 101])) (esC (subE (lE 1) (cE (.int 1))) (esC (lE 4) esN)))) esN)))
  nilS))))
  (seqS (ifS (tE (bE eqV (lE 2) (cE (.str [114, 101, 112]))))
  (seqS (exprS (callE F_add_repeats (esC (lE 0) (esC (lE 1) esN))))
  nilS)
  noS)
  nilS))
  nilS))
  nilS))
  nilS))
  nilS))
theorem S_add_node (c : Base) (d : Nat) (hd : 2 ≤ d) {g_add_node : FnG} (h_add_node : CallOk (cx c) d (.ref ((cx c).ga 78)) g_add_node) : SoundB (cx c) d (sc_78 c) (stOf (cx c).K 78) (B_add_node g_add_node) := (sb_cons (s_asg (u_name (ln_78_2 c)) (b_sub (l_name (ln_78_1 c)) c_int (fun _ _ => rfl)) (fun _ => rfl) (fun _ => rfl) (fun _ => rfl))
  (sb_cons (s_if (ht_cmp (l_name (ln_78_2 c)) (b_tup (es_cons (c_str (by kernel_rfl)) (es_cons (c_str (by kernel_rfl)) (es_cons (c_str (by kernel_rfl)) (es_cons (c_str (by kernel_rfl)) (es_cons (c_str (by kernel_rfl)) es_nil (fun _ => rfl)) (fun _ => rfl)) (fun _ => rfl)) (fun _ => rfl)) (fun _ => rfl))) binh_in rfl)
  (sb_cons (s_expr (b_meth (l_name (ln_78_0 c)) (mo_57 c) ((ok_RowMaker_add c).le (Nat.le_trans (Nat.le_of_ble_eq_true rfl) hd)) (es_cons (l_name (ln_78_1 c)) es_nil (fun _ => rfl)) (fun _ => ⟨rfl, rfl⟩) nilOk_cons (fun _ => rfl)) (fun _ => rfl))
  sb_nil)
  (sb_cons (s_if (t_cmp (l_name (ln_78_2 c)) (c_str (by kernel_rfl)) bin_eq rfl)
  (sb_cons (s_for 1000 (b_sub (l_name (ln_78_1 c)) c_int (fun _ _ => rfl)) (u_name (ln_78_3 c))
  (sb_cons (s_expr (b_call (fn_78_add_node c) h_add_node (es_cons (l_name (ln_78_0 c)) (es_cons (l_name (ln_78_3 c)) es_nil (fun _ => rfl)) (fun _ => rfl)) (fun _ => ⟨rfl, rfl⟩) nilOk_cons (fun _ => rfl)) (fun _ => rfl))
  sb_nil) (.inl (fun _ _ => rfl)) (fun _ _ => rfl))
  sb_nil)
  (sb_cons (s_if (t_cmp (l_name (ln_78_2 c)) (c_str (by kernel_rfl)) bin_eq rfl)
  no_b
  (sb_cons (s_if (t_cmp (l_name (ln_78_2 c)) (c_str (by kernel_rfl)) bin_eq rfl)
  (sb_cons (s_asg (u_name (ln_78_4 c)) (b_meth (l_name (ln_78_0 c)) (mo_64 c) ((ok_RowMaker_fresh c).le (Nat.le_trans (Nat.le_of_ble_eq_true rfl) hd)) es_nil (fun _ => ⟨rfl, trivial⟩) nilOk_nil (fun _ => rfl)) (fun _ => rfl) (fun _ => rfl) (fun _ => rfl))
  (sb_cons (s_expr (b_meth (l_name (ln_78_0 c)) (mo_57 c) ((ok_RowMaker_add c).le (Nat.le_trans (Nat.le_of_ble_eq_true rfl) hd)) (es_cons (b_tup (es_cons (c_str (by kernel_rfl)) (es_cons (l_name (ln_78_4 c)) es_nil (fun _ => rfl)) (fun _ => rfl))) es_nil (fun _ => rfl)) (fun _ => ⟨rfl, rfl⟩) nilOk_cons (fun _ => rfl)) (fun _ => rfl))
  (sb_cons (s_expr (b_call (fn_78_add_node c) h_add_node (es_cons (l_name (ln_78_0 c)) (es_cons (b_sub (l_name (ln_78_1 c)) c_int (fun _ _ => rfl)) es_nil (fun _ => rfl)) (fun _ => rfl)) (fun _ => ⟨rfl, rfl⟩) nilOk_cons (fun _ => rfl)) (fun _ => rfl))
  (sb_cons (s_expr (b_meth (l_name (ln_78_0 c)) (mo_57 c) ((ok_RowMaker_add c).le (Nat.le_trans (Nat.le_of_ble_eq_true rfl) hd)) (es_cons (b_tup (es_cons (c_str (by kernel_rfl)) (es_cons (b_sub (l_name (ln_78_1 c)) c_int (fun _ _ => rfl)) (es_cons (l_name (ln_78_4 c)) es_nil (fun _ => rfl)) (fun _ => rfl)) (fun _ => rfl))) es_nil (fun _ => rfl)) (fun _ => ⟨rfl, rfl⟩) nilOk_cons (fun _ => rfl)) (fun _ => rfl))
  sb_nil))))
  (sb_cons (s_if (t_cmp (l_name (ln_78_2 c)) (c_str (by kernel_rfl)) bin_eq rfl)
  (sb_cons (s_expr (b_call (fn_78_add_repeats c) ((ok_add_repeats c).le (Nat.le_trans (Nat.le_of_ble_eq_true rfl) hd)) (es_cons (l_name (ln_78_0 c)) (es_cons (l_name (ln_78_1 c)) es_nil (fun _ => rfl)) (fun _ => rfl)) (fun _ => ⟨rfl, rfl⟩) nilOk_cons (fun _ => rfl)) (fun _ => rfl))
  sb_nil)
  no_b)
  sb_nil))
  sb_nil))
  sb_nil))
  sb_nil))
  sb_nil))
noncomputable def F_add_node_1 : FnG := runB [2] 2 5 [] (B_add_node noF)
theorem ok_add_node_1 (c : Base) : CallOk (cx c) 3 (.ref ((cx c).ga 78)) F_add_node_1 := fn_okK (fk_78 c) (S_add_node c 2 (Nat.le_of_ble_eq_true rfl) (no_f))
noncomputable def F_add_node_2 : FnG := runB [2] 2 5 [] (B_add_node F_add_node_1)
theorem ok_add_node_2 (c : Base) : CallOk (cx c) 4 (.ref ((cx c).ga 78)) F_add_node_2 := fn_okK (fk_78 c) (S_add_node c 3 (Nat.le_of_ble_eq_true rfl) ((ok_add_node_1 c).up rfl))
noncomputable def F_add_node_3 : FnG := runB [2] 2 5 [] (B_add_node F_add_node_2)
theorem ok_add_node_3 (c : Base) : CallOk (cx c) 5 (.ref ((cx c).ga 78)) F_add_node_3 := fn_okK (fk_78 c) (S_add_node c 4 (Nat.le_of_ble_eq_true rfl) ((ok_add_node_2 c).up rfl))
noncomputable def F_add_node_4 : FnG := runB [2] 2 5 [] (B_add_node F_add_node_3)
theorem ok_add_node_4 (c : Base) : CallOk (cx c) 6 (.ref ((cx c).ga 78)) F_add_node_4 := fn_okK (fk_78 c) (S_add_node c 5 (Nat.le_of_ble_eq_true rfl) ((ok_add_node_3 c).up rfl))
noncomputable def F_add_node_5 : FnG := runB [2] 2 5 [] (B_add_node F_add_node_4)
theorem ok_add_node_5 (c : Base) : CallOk (cx c) 7 (.ref ((cx c).ga 78)) F_add_node_5 := fn_okK (fk_78 c) (S_add_node c 6 (Nat.le_of_ble_eq_true rfl) ((ok_add_node_4 c).up rfl))
noncomputable def F_add_node_6 : FnG := runB [2] 2 5 [] (B_add_node F_add_node_5)
theorem ok_add_node_6 (c : Base) : CallOk (cx c) 8 (.ref ((cx c).ga 78)) F_add_node_6 := fn_okK (fk_78 c) (S_add_node c 7 (Nat.le_of_ble_eq_true rfl) ((ok_add_node_5 c).up rfl))
theorem gn_120_add_node (c : Base) : GloName (cx c) (sc_120 c) "add_node" (.ref 78) := ⟨gv_add_node c, by kernel_rfl, by kernel_rfl⟩
theorem fn_120_add_node (c : Base) : FnName (cx c) (sc_120 c) "add_node" 78 := ⟨gn_120_add_node c, kp_78 c⟩
theorem mk_67 (c : Base) : MakeOk (cx c) 67 50 := ⟨by kernel_rfl, by kernel_rfl, by kernel_rfl, trivial⟩
noncomputable def sc_50 (c : Base) : Sc := ⟨(fdOf (cx c).K 50).scope, ["self"], [], fun _ => True⟩
theorem fk_50 (c : Base) : FnK (cx c) 50 ["self"] ["self"] [1] [] where
  at_ := by kernel_rfl
  isF := ⟨by kernel_rfl, by kernel_rfl, by kernel_rfl, by kernel_rfl⟩
  code := by kernel_rfl
  bind := bindD (ds := []) (fun _ _ => .nil) (one_ar (fun S ws h => by obtain ⟨w0, rfl⟩ := len1 h; kernel_rfl))
  ars := by decide
  pre := ⟨[], rfl⟩
  nd := by decide
  loc := by kernel_rfl
  cell := by kernel_rfl
  co := by kernel_rfl
  gen := by kernel_rfl
  kind := by kernel_rfl
theorem ln_50_0 (c : Base) : LocName (sc_50 c) 0 "self" := ⟨rfl, by kernel_rfl, by kernel_rfl⟩
theorem so_67_0 (c : Base) : SetOk (cx c) 67 0 "rows" := ⟨rfl, nd_67, fw_67, by kernel_rfl, by kernel_rfl, by kernel_rfl, by kernel_rfl⟩
noncomputable def B_RowMaker___init__ : SS := (seqS (asgS (asgA 67 0 (lE 0)) (listE esN))
  (seqS (asgS (asgA 67 1 (lE 0)) (cE (.int 0)))
  nilS))
theorem S_RowMaker___init__ (c : Base) : SoundB (cx c) 0 (sc_50 c) (stOf (cx c).K 50) B_RowMaker___init__ := (sb_cons (s_asg (u_attr (l_name (ln_50_0 c)) (so_67_0 c)) (b_list es_nil) (fun _ => rfl) (fun _ => rfl) (fun _ => rfl))
  (sb_cons (s_asg (u_attr (l_name (ln_50_0 c)) (so_67_1 c)) c_int (fun _ => rfl) (fun _ => rfl) (fun _ => rfl))
  sb_nil))
noncomputable def F_RowMaker___init__ : FnG := runB [1] 1 1 [] B_RowMaker___init__
theorem ok_RowMaker___init__ (c : Base) : CallOk (cx c) 1 (.ref ((cx c).ga 50)) F_RowMaker___init__ := fn_okK (fk_50 c) (S_RowMaker___init__ c)
theorem kp_67 (c : Base) : keepIn (cx c).K (.ref ((cx c).ga 67)) = true := by kernel_rfl
theorem gv_RowMaker (c : Base) : nsIn (cx c).K mainGlobals "RowMaker" = some (some (.ref 67)) := by kernel_rfl
theorem gn_120_RowMaker (c : Base) : GloName (cx c) (sc_120 c) "RowMaker" (.ref 67) := ⟨gv_RowMaker c, by kernel_rfl, by kernel_rfl⟩
theorem fn_120_RowMaker (c : Base) : FnName (cx c) (sc_120 c) "RowMaker" 67 := ⟨gn_120_RowMaker c, kp_67 c⟩
noncomputable def B_compile_tree : SS := (seqS (asgS (asgL 3) (clsE 67 2 F_RowMaker___init__ esN))
  (seqS (exprS (callE F_add_node_6 (esC (lE 3) (esC (lE 0) esN))))
  (seqS (exprS (methE 67 F_RowMaker_add (lE 3) (esC (tupE (esC (cE (.str [101, 110, 100])) esN)) esN)))
  (seqS (retS (clsE 32 4 F_Program___init__ (esC (attrE 67 0 (lE 3)) (esC (lE 1) (esC (attrE 67 1 (lE 3)) (esC (lE 2) esN))))))
  nilS))))
theorem S_compile_tree (c : Base) : SoundB (cx c) 8 (sc_120 c) (stOf (cx c).K 120) B_compile_tree := (sb_cons (s_asg (u_name (ln_120_3 c)) (b_cls (fn_120_RowMaker c) (mk_67 c) rfl ((ok_RowMaker___init__ c).up rfl) es_nil (fun _ => ⟨rfl, trivial⟩) nilOk_nil (fun _ => rfl)) (fun _ => rfl) (fun _ => rfl) (fun _ => rfl))
  (sb_cons (s_expr (b_call (fn_120_add_node c) ((ok_add_node_6 c).up rfl) (es_cons (l_name (ln_120_3 c)) (es_cons (l_name (ln_120_0 c)) es_nil (fun _ => rfl)) (fun _ => rfl)) (fun _ => ⟨rfl, rfl⟩) nilOk_cons (fun _ => rfl)) (fun _ => rfl))
  (sb_cons (s_expr (b_meth (l_name (ln_120_3 c)) (mo_57 c) ((ok_RowMaker_add c).up rfl) (es_cons (b_tup (es_cons (c_str (by kernel_rfl)) es_nil (fun _ => rfl))) es_nil (fun _ => rfl)) (fun _ => ⟨rfl, rfl⟩) nilOk_cons (fun _ => rfl)) (fun _ => rfl))
  (sb_cons (s_ret (b_cls (fn_120_Program c) (mk_32 c) rfl ((ok_Program___init__ c).up rfl) (es_cons (b_attr (l_name (ln_120_3 c)) (ao_67_0 c) (fun _ => rfl)) (es_cons (l_name (ln_120_1 c)) (es_cons (b_attr (l_name (ln_120_3 c)) (ao_67_1 c) (fun _ => rfl)) (es_cons (l_name (ln_120_2 c)) es_nil (fun _ => rfl)) (fun _ => rfl)) (fun _ => rfl)) (fun _ => rfl)) (fun _ => ⟨rfl, rfl⟩) nilOk_cons (fun _ => rfl)))
  sb_nil))))
noncomputable def F_compile_tree : FnG := runB [3] 3 4 [] B_compile_tree
theorem ok_compile_tree (c : Base) : CallOk (cx c) 9 (.ref ((cx c).ga 120)) F_compile_tree := fn_okK (fk_120 c) (S_compile_tree c)
theorem kp_120 (c : Base) : keepIn (cx c).K (.ref ((cx c).ga 120)) = true := by kernel_rfl
theorem gv_compile_tree (c : Base) : nsIn (cx c).K mainGlobals "compile_tree" = some (some (.ref 120)) := by kernel_rfl
theorem gn_618_compile_tree (c : Base) : GloName (cx c) (sc_618 c) "compile_tree" (.ref 120) := ⟨gv_compile_tree c, by kernel_rfl, by kernel_rfl⟩
theorem fn_618_compile_tree (c : Base) : FnName (cx c) (sc_618 c) "compile_tree" 120 := ⟨gn_618_compile_tree c, kp_120 c⟩
theorem ln_618_1 (c : Base) : LocName (sc_618 c) 1 "flags" := ⟨rfl, by kernel_rfl, by kernel_rfl⟩
theorem ln_618_0 (c : Base) : LocName (sc_618 c) 0 "text" := ⟨rfl, by kernel_rfl, by kernel_rfl⟩
noncomputable abbrev ex_611 (c : Base) : Env → Prop := fun _ => True
noncomputable def sc_611 (c : Base) : Sc := ⟨(fdOf (cx c).K 611).scope, ["text", "state", "node", "numbers", "at"], ["flags"], ex_611 c⟩
theorem ln_611_1 (c : Base) : LocName (sc_611 c) 1 "state" := ⟨rfl, by kernel_rfl, by kernel_rfl⟩
theorem ao_314_5 (c : Base) : AttrOk (cx c) 314 5 "names" := ⟨rfl, by kernel_rfl, by kernel_rfl, by kernel_rfl⟩
theorem ao_314_3 (c : Base) : AttrOk (cx c) 314 3 "groups" := ⟨rfl, by kernel_rfl, by kernel_rfl, by kernel_rfl⟩
theorem ln_611_2 (c : Base) : LocName (sc_611 c) 2 "node" := ⟨rfl, by kernel_rfl, by kernel_rfl⟩
theorem ln_611_4 (c : Base) : LocName (sc_611 c) 4 "at" := ⟨rfl, by kernel_rfl, by kernel_rfl⟩
theorem ln_611_3 (c : Base) : LocName (sc_611 c) 3 "numbers" := ⟨rfl, by kernel_rfl, by kernel_rfl⟩
theorem gz_max (c : Base) : nsIn (cx c).K mainGlobals "max" = some none := by kernel_rfl
theorem bn_611_max (c : Base) : BltName (cx c) (sc_611 c) "max" (.builtin "max") := ⟨gz_max c, by kernel_rfl, by decide, by kernel_rfl, by kernel_rfl⟩
theorem gz_min (c : Base) : nsIn (cx c).K mainGlobals "min" = some none := by kernel_rfl
theorem bn_611_min (c : Base) : BltName (cx c) (sc_611 c) "min" (.builtin "min") := ⟨gz_min c, by kernel_rfl, by decide, by kernel_rfl, by kernel_rfl⟩
theorem ao_314_6 (c : Base) : AttrOk (cx c) 314 6 "spoken" := ⟨rfl, by kernel_rfl, by kernel_rfl, by kernel_rfl⟩
theorem ao_314_2 (c : Base) : AttrOk (cx c) 314 2 "at" := ⟨rfl, by kernel_rfl, by kernel_rfl, by kernel_rfl⟩
theorem ln_611_0 (c : Base) : LocName (sc_611 c) 0 "text" := ⟨rfl, by kernel_rfl, by kernel_rfl⟩
theorem bn_611_len (c : Base) : BltName (cx c) (sc_611 c) "len" (.builtin "len") := ⟨gz_len c, by kernel_rfl, by decide, by kernel_rfl, by kernel_rfl⟩
noncomputable abbrev cs_611m0 : Scope := { kind := .function, names := [(".0", .local), ("letter", .local), ("flags", .free)], isGenerator := false, isCoroutine := false, more := [] }
noncomputable def sc_611m0 (c : Base) : Sc := ⟨relS cs_611m0 (sc_611 c).cs, ["letter"], ["flags"], fun _ => True⟩
theorem cp_611m0 (c : Base) : CompOk (sc_611 c) (sc_611m0 c) cs_611m0 "letter" [0] := ⟨rfl, rfl, by kernel_rfl, by kernel_rfl, by decide, fun _ => trivial, rfl, by kernel_rfl, by kernel_rfl, by kernel_rfl, by kernel_rfl⟩
theorem ln_611m0_0 (c : Base) : LocName (sc_611m0 c) 0 "letter" := ⟨rfl, by kernel_rfl, by kernel_rfl⟩
theorem cn_611m0_0 (c : Base) : CelName (sc_611m0 c) 0 "flags" := ⟨rfl, by kernel_rfl, by kernel_rfl, by kernel_rfl⟩
theorem gv_FLAG_LETTERS (c : Base) : nsIn (cx c).K mainGlobals "FLAG_LETTERS" = some (some (.str ⟨[105, 109, 115, 120].toArray⟩ 965)) := by kernel_rfl
theorem gn_611_FLAG_LETTERS (c : Base) : GloName (cx c) (sc_611 c) "FLAG_LETTERS" (.str ⟨[105, 109, 115, 120].toArray⟩ 965) := ⟨gv_FLAG_LETTERS c, by kernel_rfl, by kernel_rfl⟩
noncomputable def sc_543 (c : Base) : Sc := ⟨(fdOf (cx c).K 543).scope, ["state", "flags", "branches", "node"], [], fun _ => True⟩
theorem fk_543 (c : Base) : FnK (cx c) 543 ["state", "flags"] ["state", "flags", "branches", "node"] [2] [] where
  at_ := by kernel_rfl
  isF := ⟨by kernel_rfl, by kernel_rfl, by kernel_rfl, by kernel_rfl⟩
  code := by kernel_rfl
  bind := bindD (ds := []) (fun _ _ => .nil) (one_ar (fun S ws h => by obtain ⟨w0, w1, rfl⟩ := len2 h; kernel_rfl))
  ars := by decide
  pre := ⟨["branches", "node"], rfl⟩
  nd := by decide
  loc := by kernel_rfl
  cell := by kernel_rfl
  co := by kernel_rfl
  gen := by kernel_rfl
  kind := by kernel_rfl
theorem ln_543_0 (c : Base) : LocName (sc_543 c) 0 "state" := ⟨rfl, by kernel_rfl, by kernel_rfl⟩
theorem kp_311 (c : Base) : keepIn (cx c).K (.ref ((cx c).ga 311)) = true := by kernel_rfl
theorem mo_311 (c : Base) : MethOk (cx c) 314 "skips" 311 := ⟨by kernel_rfl, by kernel_rfl, by kernel_rfl, kp_311 c, (by decide : ("skips" : Str) ∉ cAt 314)⟩
noncomputable def sc_311 (c : Base) : Sc := ⟨(fdOf (cx c).K 311).scope, ["self", "word"], [], fun _ => True⟩
theorem fk_311 (c : Base) : FnK (cx c) 311 ["self", "word"] ["self", "word"] [2] [] where
  at_ := by kernel_rfl
  isF := ⟨by kernel_rfl, by kernel_rfl, by kernel_rfl, by kernel_rfl⟩
  code := by kernel_rfl
  bind := bindD (ds := []) (fun _ _ => .nil) (one_ar (fun S ws h => by obtain ⟨w0, w1, rfl⟩ := len2 h; kernel_rfl))
  ars := by decide
  pre := ⟨[], rfl⟩
  nd := by decide
  loc := by kernel_rfl
  cell := by kernel_rfl
  co := by kernel_rfl
  gen := by kernel_rfl
  kind := by kernel_rfl
theorem ln_311_1 (c : Base) : LocName (sc_311 c) 1 "word" := ⟨rfl, by kernel_rfl, by kernel_rfl⟩
theorem bn_311_len (c : Base) : BltName (cx c) (sc_311 c) "len" (.builtin "len") := ⟨gz_len c, by kernel_rfl, by decide, by kernel_rfl, by kernel_rfl⟩
theorem ln_311_0 (c : Base) : LocName (sc_311 c) 0 "self" := ⟨rfl, by kernel_rfl, by kernel_rfl⟩
theorem nd_314 : (cAt 314).Nodup := by decide
theorem fw_314 : (cAt 314).length ≤ 100 := by decide
theorem so_314_2 (c : Base) : SetOk (cx c) 314 2 "at" := ⟨rfl, nd_314, fw_314, by kernel_rfl, by kernel_rfl, by kernel_rfl, by kernel_rfl⟩
theorem ao_314_0 (c : Base) : AttrOk (cx c) 314 0 "text" := ⟨rfl, by kernel_rfl, by kernel_rfl, by kernel_rfl⟩
noncomputable def B_PatternText_skips : SS := (seqS (ifS (tE (bE neV (sliS (attrE 314 0 (lE 0)) (partE (attrE 314 2 (lE 0))) (partE (bE addV (attrE 314 2 (lE 0)) (bltE lenG (esC (lE 1) esN))))) (lE 1)))
  (seqS (retS (cE (.bool false)))
  nilS)
  nilS)
  (seqS (augA 314 2 iaddV (lE 0) (bltE lenG (esC (lE 1) esN)))
  (seqS (retS (cE (.bool true)))
  nilS)))
theorem S_PatternText_skips (c : Base) : SoundB (cx c) 0 (sc_311 c) (stOf (cx c).K 311) B_PatternText_skips := (sb_cons (s_if (t_cmp (b_sliceS (b_attr (l_name (ln_311_0 c)) (ao_314_0 c) (fun _ => rfl)) (p_some (b_attr (l_name (ln_311_0 c)) (ao_314_2 c) (fun _ => rfl))) (p_some (b_op (b_attr (l_name (ln_311_0 c)) (ao_314_2 c) (fun _ => rfl)) (b_blt (bn_311_len c) f_len (es_cons (l_name (ln_311_1 c)) es_nil (fun _ => rfl)) (fun _ => ⟨rfl, rfl⟩) (fun _ => ⟨rfl, trivial⟩) (fun _ => rfl)) bin_add)) (fun _ _ => rfl)) (l_name (ln_311_1 c)) bin_ne rfl)
  (sb_cons (s_ret c_bool)
  sb_nil)
  sb_nil)
  (sb_cons (s_augA (l_name (ln_311_0 c)) (ao_314_2 c) (so_314_2 c) (b_blt (bn_311_len c) f_len (es_cons (l_name (ln_311_1 c)) es_nil (fun _ => rfl)) (fun _ => ⟨rfl, rfl⟩) (fun _ => ⟨rfl, trivial⟩) (fun _ => rfl)) bin_iadd)
  (sb_cons (s_ret c_bool)
  sb_nil)))
noncomputable def F_PatternText_skips : FnG := runB [2] 2 2 [] B_PatternText_skips
theorem ok_PatternText_skips (c : Base) : CallOk (cx c) 1 (.ref ((cx c).ga 311)) F_PatternText_skips := fn_okK (fk_311 c) (S_PatternText_skips c)
theorem ln_543_2 (c : Base) : LocName (sc_543 c) 2 "branches" := ⟨rfl, by kernel_rfl, by kernel_rfl⟩
theorem bn_543_len (c : Base) : BltName (cx c) (sc_543 c) "len" (.builtin "len") := ⟨gz_len c, by kernel_rfl, by decide, by kernel_rfl, by kernel_rfl⟩
theorem ln_543_3 (c : Base) : LocName (sc_543 c) 3 "node" := ⟨rfl, by kernel_rfl, by kernel_rfl⟩
theorem ln_543_1 (c : Base) : LocName (sc_543 c) 1 "flags" := ⟨rfl, by kernel_rfl, by kernel_rfl⟩
theorem kp_550 (c : Base) : keepIn (cx c).K (.ref ((cx c).ga 550)) = true := by kernel_rfl
theorem gv_read_branch (c : Base) : nsIn (cx c).K mainGlobals "read_branch" = some (some (.ref 550)) := by kernel_rfl
theorem gn_543_read_branch (c : Base) : GloName (cx c) (sc_543 c) "read_branch" (.ref 550) := ⟨gv_read_branch c, by kernel_rfl, by kernel_rfl⟩
theorem fn_543_read_branch (c : Base) : FnName (cx c) (sc_543 c) "read_branch" 550 := ⟨gn_543_read_branch c, kp_550 c⟩
noncomputable def sc_571 (c : Base) : Sc := ⟨(fdOf (cx c).K 571).scope, ["state", "flags", "begun", "node"], [], fun _ => True⟩
theorem fk_571 (c : Base) : FnK (cx c) 571 ["state", "flags", "begun"] ["state", "flags", "begun", "node"] [3] [] where
  at_ := by kernel_rfl
  isF := ⟨by kernel_rfl, by kernel_rfl, by kernel_rfl, by kernel_rfl⟩
  code := by kernel_rfl
  bind := bindD (ds := []) (fun _ _ => .nil) (one_ar (fun S ws h => by obtain ⟨w0, w1, w2, rfl⟩ := len3 h; kernel_rfl))
  ars := by decide
  pre := ⟨["node"], rfl⟩
  nd := by decide
  loc := by kernel_rfl
  cell := by kernel_rfl
  co := by kernel_rfl
  gen := by kernel_rfl
  kind := by kernel_rfl
theorem ln_571_3 (c : Base) : LocName (sc_571 c) 3 "node" := ⟨rfl, by kernel_rfl, by kernel_rfl⟩
theorem ln_571_0 (c : Base) : LocName (sc_571 c) 0 "state" := ⟨rfl, by kernel_rfl, by kernel_rfl⟩
theorem ao_314_4 (c : Base) : AttrOk (cx c) 314 4 "depth" := ⟨rfl, by kernel_rfl, by kernel_rfl, by kernel_rfl⟩
theorem so_314_4 (c : Base) : SetOk (cx c) 314 4 "depth" := ⟨rfl, nd_314, fw_314, by kernel_rfl, by kernel_rfl, by kernel_rfl, by kernel_rfl⟩
theorem ln_571_1 (c : Base) : LocName (sc_571 c) 1 "flags" := ⟨rfl, by kernel_rfl, by kernel_rfl⟩
theorem kp_543 (c : Base) : keepIn (cx c).K (.ref ((cx c).ga 543)) = true := by kernel_rfl
theorem gv_read_alternation (c : Base) : nsIn (cx c).K mainGlobals "read_alternation" = some (some (.ref 543)) := by kernel_rfl
theorem gn_571_read_alternation (c : Base) : GloName (cx c) (sc_571 c) "read_alternation" (.ref 543) := ⟨gv_read_alternation c, by kernel_rfl, by kernel_rfl⟩
theorem fn_571_read_alternation (c : Base) : FnName (cx c) (sc_571 c) "read_alternation" 543 := ⟨gn_571_read_alternation c, kp_543 c⟩
theorem gv_MOST_NESTED (c : Base) : nsIn (cx c).K mainGlobals "MOST_NESTED" = some (some (.int 40 967)) := by kernel_rfl
theorem gn_571_MOST_NESTED (c : Base) : GloName (cx c) (sc_571 c) "MOST_NESTED" (.int 40 967) := ⟨gv_MOST_NESTED c, by kernel_rfl, by kernel_rfl⟩
noncomputable def sc_578 (c : Base) : Sc := ⟨(fdOf (cx c).K 578).scope, ["state", "flags", "begun", "name", "number"], [], fun _ => True⟩
theorem fk_578 (c : Base) : FnK (cx c) 578 ["state", "flags", "begun", "name"] ["state", "flags", "begun", "name", "number"] [4] [] where
  at_ := by kernel_rfl
  isF := ⟨by kernel_rfl, by kernel_rfl, by kernel_rfl, by kernel_rfl⟩
  code := by kernel_rfl
  bind := bindD (ds := []) (fun _ _ => .nil) (one_ar (fun S ws h => by obtain ⟨w0, w1, w2, w3, rfl⟩ := len4 h; kernel_rfl))
  ars := by decide
  pre := ⟨["number"], rfl⟩
  nd := by decide
  loc := by kernel_rfl
  cell := by kernel_rfl
  co := by kernel_rfl
  gen := by kernel_rfl
  kind := by kernel_rfl
theorem ln_578_2 (c : Base) : LocName (sc_578 c) 2 "begun" := ⟨rfl, by kernel_rfl, by kernel_rfl⟩
theorem ln_578_1 (c : Base) : LocName (sc_578 c) 1 "flags" := ⟨rfl, by kernel_rfl, by kernel_rfl⟩
theorem ln_578_0 (c : Base) : LocName (sc_578 c) 0 "state" := ⟨rfl, by kernel_rfl, by kernel_rfl⟩
theorem kp_571 (c : Base) : keepIn (cx c).K (.ref ((cx c).ga 571)) = true := by kernel_rfl
theorem gv_read_inner (c : Base) : nsIn (cx c).K mainGlobals "read_inner" = some (some (.ref 571)) := by kernel_rfl
theorem gn_578_read_inner (c : Base) : GloName (cx c) (sc_578 c) "read_inner" (.ref 571) := ⟨gv_read_inner c, by kernel_rfl, by kernel_rfl⟩
theorem fn_578_read_inner (c : Base) : FnName (cx c) (sc_578 c) "read_inner" 571 := ⟨gn_578_read_inner c, kp_571 c⟩
theorem ln_578_4 (c : Base) : LocName (sc_578 c) 4 "number" := ⟨rfl, by kernel_rfl, by kernel_rfl⟩
theorem ln_578_3 (c : Base) : LocName (sc_578 c) 3 "name" := ⟨rfl, by kernel_rfl, by kernel_rfl⟩
theorem so_314_3 (c : Base) : SetOk (cx c) 314 3 "groups" := ⟨rfl, nd_314, fw_314, by kernel_rfl, by kernel_rfl, by kernel_rfl, by kernel_rfl⟩
noncomputable def sc_592 (c : Base) : Sc := ⟨(fdOf (cx c).K 592).scope, ["state", "flags", "begun", "opening", "is_behind", "is_negated", "close", "changed"], [], fun _ => True⟩
theorem fk_592 (c : Base) : FnK (cx c) 592 ["state", "flags"] ["state", "flags", "begun", "opening", "is_behind", "is_negated", "close", "changed"] [2] [] where
  at_ := by kernel_rfl
  isF := ⟨by kernel_rfl, by kernel_rfl, by kernel_rfl, by kernel_rfl⟩
  code := by kernel_rfl
  bind := bindD (ds := []) (fun _ _ => .nil) (one_ar (fun S ws h => by obtain ⟨w0, w1, rfl⟩ := len2 h; kernel_rfl))
  ars := by decide
  pre := ⟨["begun", "opening", "is_behind", "is_negated", "close", "changed"], rfl⟩
  nd := by decide
  loc := by kernel_rfl
  cell := by kernel_rfl
  co := by kernel_rfl
  gen := by kernel_rfl
  kind := by kernel_rfl
theorem ln_592_0 (c : Base) : LocName (sc_592 c) 0 "state" := ⟨rfl, by kernel_rfl, by kernel_rfl⟩
theorem ln_592_2 (c : Base) : LocName (sc_592 c) 2 "begun" := ⟨rfl, by kernel_rfl, by kernel_rfl⟩
theorem ln_592_1 (c : Base) : LocName (sc_592 c) 1 "flags" := ⟨rfl, by kernel_rfl, by kernel_rfl⟩
theorem kp_578 (c : Base) : keepIn (cx c).K (.ref ((cx c).ga 578)) = true := by kernel_rfl
theorem gv_read_capture (c : Base) : nsIn (cx c).K mainGlobals "read_capture" = some (some (.ref 578)) := by kernel_rfl
theorem gn_592_read_capture (c : Base) : GloName (cx c) (sc_592 c) "read_capture" (.ref 578) := ⟨gv_read_capture c, by kernel_rfl, by kernel_rfl⟩
theorem fn_592_read_capture (c : Base) : FnName (cx c) (sc_592 c) "read_capture" 578 := ⟨gn_592_read_capture c, kp_578 c⟩
theorem ln_592_6 (c : Base) : LocName (sc_592 c) 6 "close" := ⟨rfl, by kernel_rfl, by kernel_rfl⟩
theorem ln_592_3 (c : Base) : LocName (sc_592 c) 3 "opening" := ⟨rfl, by kernel_rfl, by kernel_rfl⟩
theorem vr_514 (c : Base) {led ρ} : VR (cx c) led ρ (.tup [(.str [40, 63, 60]), (.str [62])]) (.ref 514) := .tup [(.str [40, 63, 60]), (.str [62])] [(.str ⟨[40, 63, 60].toArray⟩ 974), (.str ⟨[62].toArray⟩ 975)] 514 0 (.inr (by kernel_rfl)) (.cons (.str _ _) (.cons (.str _ _) .nil))
theorem vr_515 (c : Base) {led ρ} : VR (cx c) led ρ (.tup [(.str [40, 63, 80, 60]), (.str [62])]) (.ref 515) := .tup [(.str [40, 63, 80, 60]), (.str [62])] [(.str ⟨[40, 63, 80, 60].toArray⟩ 976), (.str ⟨[62].toArray⟩ 977)] 515 0 (.inr (by kernel_rfl)) (.cons (.str _ _) (.cons (.str _ _) .nil))
theorem vr_516 (c : Base) {led ρ} : VR (cx c) led ρ (.tup [(.str [40, 63, 39]), (.str [39])]) (.ref 516) := .tup [(.str [40, 63, 39]), (.str [39])] [(.str ⟨[40, 63, 39].toArray⟩ 978), (.str ⟨[39].toArray⟩ 979)] 516 0 (.inr (by kernel_rfl)) (.cons (.str _ _) (.cons (.str _ _) .nil))
noncomputable def L_NAME_SIGNS : List V := [(.tup [(.str [40, 63, 60]), (.str [62])]), (.tup [(.str [40, 63, 80, 60]), (.str [62])]), (.tup [(.str [40, 63, 39]), (.str [39])])]
theorem gl_517 (c : Base) : GlOk (cx c) 517 L_NAME_SIGNS [(.ref 514), (.ref 515), (.ref 516)] 0 := ⟨by kernel_rfl, fun _ _ => (.cons (vr_514 c) (.cons (vr_515 c) (.cons (vr_516 c) .nil)))⟩
theorem gv_NAME_SIGNS (c : Base) : nsIn (cx c).K mainGlobals "NAME_SIGNS" = some (some (.ref 517)) := by kernel_rfl
theorem gn_592_NAME_SIGNS (c : Base) : GloName (cx c) (sc_592 c) "NAME_SIGNS" (.ref 517) := ⟨gv_NAME_SIGNS c, by kernel_rfl, by kernel_rfl⟩
theorem ln_592_5 (c : Base) : LocName (sc_592 c) 5 "is_negated" := ⟨rfl, by kernel_rfl, by kernel_rfl⟩
theorem ln_592_4 (c : Base) : LocName (sc_592 c) 4 "is_behind" := ⟨rfl, by kernel_rfl, by kernel_rfl⟩
theorem vr_509 (c : Base) {led ρ} : VR (cx c) led ρ (.tup [(.str [40, 63, 61]), (.bool false), (.bool false)]) (.ref 509) := .tup [(.str [40, 63, 61]), (.bool false), (.bool false)] [(.str ⟨[40, 63, 61].toArray⟩ 969), (.bool false), (.bool false)] 509 0 (.inr (by kernel_rfl)) (.cons (.str _ _) (.cons (.bool _) (.cons (.bool _) .nil)))
theorem vr_510 (c : Base) {led ρ} : VR (cx c) led ρ (.tup [(.str [40, 63, 33]), (.bool false), (.bool true)]) (.ref 510) := .tup [(.str [40, 63, 33]), (.bool false), (.bool true)] [(.str ⟨[40, 63, 33].toArray⟩ 970), (.bool false), (.bool true)] 510 0 (.inr (by kernel_rfl)) (.cons (.str _ _) (.cons (.bool _) (.cons (.bool _) .nil)))
theorem vr_511 (c : Base) {led ρ} : VR (cx c) led ρ (.tup [(.str [40, 63, 60, 61]), (.bool true), (.bool false)]) (.ref 511) := .tup [(.str [40, 63, 60, 61]), (.bool true), (.bool false)] [(.str ⟨[40, 63, 60, 61].toArray⟩ 971), (.bool true), (.bool false)] 511 0 (.inr (by kernel_rfl)) (.cons (.str _ _) (.cons (.bool _) (.cons (.bool _) .nil)))
theorem vr_512 (c : Base) {led ρ} : VR (cx c) led ρ (.tup [(.str [40, 63, 60, 33]), (.bool true), (.bool true)]) (.ref 512) := .tup [(.str [40, 63, 60, 33]), (.bool true), (.bool true)] [(.str ⟨[40, 63, 60, 33].toArray⟩ 972), (.bool true), (.bool true)] 512 0 (.inr (by kernel_rfl)) (.cons (.str _ _) (.cons (.bool _) (.cons (.bool _) .nil)))
noncomputable def L_LOOKS : List V := [(.tup [(.str [40, 63, 61]), (.bool false), (.bool false)]), (.tup [(.str [40, 63, 33]), (.bool false), (.bool true)]), (.tup [(.str [40, 63, 60, 61]), (.bool true), (.bool false)]), (.tup [(.str [40, 63, 60, 33]), (.bool true), (.bool true)])]
theorem gl_513 (c : Base) : GlOk (cx c) 513 L_LOOKS [(.ref 509), (.ref 510), (.ref 511), (.ref 512)] 0 := ⟨by kernel_rfl, fun _ _ => (.cons (vr_509 c) (.cons (vr_510 c) (.cons (vr_511 c) (.cons (vr_512 c) .nil))))⟩
theorem gv_LOOKS (c : Base) : nsIn (cx c).K mainGlobals "LOOKS" = some (some (.ref 513)) := by kernel_rfl
theorem gn_592_LOOKS (c : Base) : GloName (cx c) (sc_592 c) "LOOKS" (.ref 513) := ⟨gv_LOOKS c, by kernel_rfl, by kernel_rfl⟩
noncomputable def sc_557 (c : Base) : Sc := ⟨(fdOf (cx c).K 557).scope, ["state", "flags", "sign"], [], fun _ => True⟩
theorem fk_557 (c : Base) : FnK (cx c) 557 ["state", "flags"] ["state", "flags", "sign"] [2] [] where
  at_ := by kernel_rfl
  isF := ⟨by kernel_rfl, by kernel_rfl, by kernel_rfl, by kernel_rfl⟩
  code := by kernel_rfl
  bind := bindD (ds := []) (fun _ _ => .nil) (one_ar (fun S ws h => by obtain ⟨w0, w1, rfl⟩ := len2 h; kernel_rfl))
  ars := by decide
  pre := ⟨["sign"], rfl⟩
  nd := by decide
  loc := by kernel_rfl
  cell := by kernel_rfl
  co := by kernel_rfl
  gen := by kernel_rfl
  kind := by kernel_rfl
theorem ln_557_1 (c : Base) : LocName (sc_557 c) 1 "flags" := ⟨rfl, by kernel_rfl, by kernel_rfl⟩
theorem ln_557_2 (c : Base) : LocName (sc_557 c) 2 "sign" := ⟨rfl, by kernel_rfl, by kernel_rfl⟩
theorem ln_557_0 (c : Base) : LocName (sc_557 c) 0 "state" := ⟨rfl, by kernel_rfl, by kernel_rfl⟩
theorem vr_428 (c : Base) {led ρ} : VR (cx c) led ρ (.tup [(.int 0), (.int 1)]) (.ref 428) := .tup [(.int 0), (.int 1)] [(.int 0 845), (.int 1 846)] 428 0 (.inr (by kernel_rfl)) (.cons (.int _ _) (.cons (.int _ _) .nil))
theorem vr_427 (c : Base) {led ρ} : VR (cx c) led ρ (.tup [(.int 1), (.int (-1))]) (.ref 427) := .tup [(.int 1), (.int (-1))] [(.int 1 841), (.int (-1) 843)] 427 0 (.inr (by kernel_rfl)) (.cons (.int _ _) (.cons (.int _ _) .nil))
theorem vr_426 (c : Base) {led ρ} : VR (cx c) led ρ (.tup [(.int 0), (.int (-1))]) (.ref 426) := .tup [(.int 0), (.int (-1))] [(.int 0 837), (.int (-1) 839)] 426 0 (.inr (by kernel_rfl)) (.cons (.int _ _) (.cons (.int _ _) .nil))
noncomputable def D_COUNT_SIGNS : List (List Nat × V) := [([42], (.tup [(.int 0), (.int (-1))])), ([43], (.tup [(.int 1), (.int (-1))])), ([63], (.tup [(.int 0), (.int 1)]))]
theorem di_425 (c : Base) : DiOk (cx c) 425 D_COUNT_SIGNS := ⟨⟨[⟨PyData.keyHash c.w.params ⟨[42].toArray⟩, (.str ⟨[42].toArray⟩ 836), (.ref 426)⟩, ⟨PyData.keyHash c.w.params ⟨[43].toArray⟩, (.str ⟨[43].toArray⟩ 840), (.ref 427)⟩, ⟨PyData.keyHash c.w.params ⟨[63].toArray⟩, (.str ⟨[63].toArray⟩ 844), (.ref 428)⟩].toArray, 3, by kernel_rfl, (.cons (vr_426 c) (.cons (vr_427 c) (.cons (vr_428 c) .nil)))⟩, (by decide : ((425 : Nat) == sysModules) = false)⟩
theorem gv_COUNT_SIGNS (c : Base) : nsIn (cx c).K mainGlobals "COUNT_SIGNS" = some (some (.ref 425)) := by kernel_rfl
theorem gn_557_COUNT_SIGNS (c : Base) : GloName (cx c) (sc_557 c) "COUNT_SIGNS" (.ref 425) := ⟨gv_COUNT_SIGNS c, by kernel_rfl, by kernel_rfl⟩
noncomputable def sc_606 (c : Base) : Sc := ⟨(fdOf (cx c).K 606).scope, ["state", "flags", "at", "is_folded", "letter", "begun", "number"], [], fun _ => True⟩
theorem fk_606 (c : Base) : FnK (cx c) 606 ["state", "flags"] ["state", "flags", "at", "is_folded", "letter", "begun", "number"] [2] [] where
  at_ := by kernel_rfl
  isF := ⟨by kernel_rfl, by kernel_rfl, by kernel_rfl, by kernel_rfl⟩
  code := by kernel_rfl
  bind := bindD (ds := []) (fun _ _ => .nil) (one_ar (fun S ws h => by obtain ⟨w0, w1, rfl⟩ := len2 h; kernel_rfl))
  ars := by decide
  pre := ⟨["at", "is_folded", "letter", "begun", "number"], rfl⟩
  nd := by decide
  loc := by kernel_rfl
  cell := by kernel_rfl
  co := by kernel_rfl
  gen := by kernel_rfl
  kind := by kernel_rfl
theorem ln_606_4 (c : Base) : LocName (sc_606 c) 4 "letter" := ⟨rfl, by kernel_rfl, by kernel_rfl⟩
theorem ln_606_6 (c : Base) : LocName (sc_606 c) 6 "number" := ⟨rfl, by kernel_rfl, by kernel_rfl⟩
theorem ln_606_3 (c : Base) : LocName (sc_606 c) 3 "is_folded" := ⟨rfl, by kernel_rfl, by kernel_rfl⟩
theorem ln_606_2 (c : Base) : LocName (sc_606 c) 2 "at" := ⟨rfl, by kernel_rfl, by kernel_rfl⟩
theorem ln_606_0 (c : Base) : LocName (sc_606 c) 0 "state" := ⟨rfl, by kernel_rfl, by kernel_rfl⟩
noncomputable def sc_489 (c : Base) : Sc := ⟨(fdOf (cx c).K 489).scope, ["state", "numbers", "at"], [], fun _ => True⟩
theorem fk_489 (c : Base) : FnK (cx c) 489 ["state", "numbers", "at"] ["state", "numbers", "at"] [3] [] where
  at_ := by kernel_rfl
  isF := ⟨by kernel_rfl, by kernel_rfl, by kernel_rfl, by kernel_rfl⟩
  code := by kernel_rfl
  bind := bindD (ds := []) (fun _ _ => .nil) (one_ar (fun S ws h => by obtain ⟨w0, w1, w2, rfl⟩ := len3 h; kernel_rfl))
  ars := by decide
  pre := ⟨[], rfl⟩
  nd := by decide
  loc := by kernel_rfl
  cell := by kernel_rfl
  co := by kernel_rfl
  gen := by kernel_rfl
  kind := by kernel_rfl
theorem ln_489_1 (c : Base) : LocName (sc_489 c) 1 "numbers" := ⟨rfl, by kernel_rfl, by kernel_rfl⟩
theorem ln_489_0 (c : Base) : LocName (sc_489 c) 0 "state" := ⟨rfl, by kernel_rfl, by kernel_rfl⟩
theorem ln_489_2 (c : Base) : LocName (sc_489 c) 2 "at" := ⟨rfl, by kernel_rfl, by kernel_rfl⟩
noncomputable def B_speak_of : SS := (seqS (exprS (appendE (attrE 314 6 (lE 0)) (tupE (esC (lE 1) (esC (lE 2) esN)))))
  (seqS (retS (lE 1))
  nilS))
theorem S_speak_of (c : Base) : SoundB (cx c) 0 (sc_489 c) (stOf (cx c).K 489) B_speak_of := (sb_cons (s_expr (b_append (b_attr (l_name (ln_489_0 c)) (ao_314_6 c) (fun _ => rfl)) (b_tup (es_cons (l_name (ln_489_1 c)) (es_cons (l_name (ln_489_2 c)) es_nil (fun _ => rfl)) (fun _ => rfl))) (fun _ => ⟨rfl, rfl⟩) (fun _ => rfl)) (fun _ => rfl))
  (sb_cons (s_ret (l_name (ln_489_1 c)))
  sb_nil))
noncomputable def F_speak_of : FnG := runB [3] 3 3 [] B_speak_of
theorem ok_speak_of (c : Base) : CallOk (cx c) 1 (.ref ((cx c).ga 489)) F_speak_of := fn_okK (fk_489 c) (S_speak_of c)
theorem kp_489 (c : Base) : keepIn (cx c).K (.ref ((cx c).ga 489)) = true := by kernel_rfl
theorem gv_speak_of (c : Base) : nsIn (cx c).K mainGlobals "speak_of" = some (some (.ref 489)) := by kernel_rfl
theorem gn_606_speak_of (c : Base) : GloName (cx c) (sc_606 c) "speak_of" (.ref 489) := ⟨gv_speak_of c, by kernel_rfl, by kernel_rfl⟩
theorem fn_606_speak_of (c : Base) : FnName (cx c) (sc_606 c) "speak_of" 489 := ⟨gn_606_speak_of c, kp_489 c⟩
theorem gv_FIGURES (c : Base) : nsIn (cx c).K mainGlobals "FIGURES" = some (some (.str ⟨[48, 49, 50, 51, 52, 53, 54, 55, 56, 57].toArray⟩ 832)) := by kernel_rfl
theorem gn_606_FIGURES (c : Base) : GloName (cx c) (sc_606 c) "FIGURES" (.str ⟨[48, 49, 50, 51, 52, 53, 54, 55, 56, 57].toArray⟩ 832) := ⟨gv_FIGURES c, by kernel_rfl, by kernel_rfl⟩
noncomputable def sc_325 (c : Base) : Sc := ⟨(fdOf (cx c).K 325).scope, ["state", "signs", "most", "begun"], [], fun _ => True⟩
theorem fk_325 (c : Base) : FnK (cx c) 325 ["state", "signs", "most"] ["state", "signs", "most", "begun"] [3] [] where
  at_ := by kernel_rfl
  isF := ⟨by kernel_rfl, by kernel_rfl, by kernel_rfl, by kernel_rfl⟩
  code := by kernel_rfl
  bind := bindD (ds := []) (fun _ _ => .nil) (one_ar (fun S ws h => by obtain ⟨w0, w1, w2, rfl⟩ := len3 h; kernel_rfl))
  ars := by decide
  pre := ⟨["begun"], rfl⟩
  nd := by decide
  loc := by kernel_rfl
  cell := by kernel_rfl
  co := by kernel_rfl
  gen := by kernel_rfl
  kind := by kernel_rfl
theorem ln_325_0 (c : Base) : LocName (sc_325 c) 0 "state" := ⟨rfl, by kernel_rfl, by kernel_rfl⟩
theorem ln_325_3 (c : Base) : LocName (sc_325 c) 3 "begun" := ⟨rfl, by kernel_rfl, by kernel_rfl⟩
theorem ln_325_2 (c : Base) : LocName (sc_325 c) 2 "most" := ⟨rfl, by kernel_rfl, by kernel_rfl⟩
theorem ln_325_1 (c : Base) : LocName (sc_325 c) 1 "signs" := ⟨rfl, by kernel_rfl, by kernel_rfl⟩
theorem bn_325_len (c : Base) : BltName (cx c) (sc_325 c) "len" (.builtin "len") := ⟨gz_len c, by kernel_rfl, by decide, by kernel_rfl, by kernel_rfl⟩
noncomputable def B_run_of : SS := (seqS (asgS (asgL 3) (attrE 314 2 (lE 0)))
  (seqS (whileS (tAnd (tE (bE ltV (attrE 314 2 (lE 0)) (bltE lenG (esC (attrE 314 0 (lE 0)) esN)))) (tAnd (tE (bE inV (subE (attrE 314 0 (lE 0)) (attrE 314 2 (lE 0))) (lE 1))) (tAnd (tE (bE neV (bE subV (attrE 314 2 (lE 0)) (lE 3)) (lE 2))) (tB true))))
  (seqS (augA 314 2 iaddV (lE 0) (cE (.int 1)))
  nilS) 1000)
  (seqS (retS (sliS (attrE 314 0 (lE 0)) (partE (lE 3)) (partE (attrE 314 2 (lE 0)))))
  nilS)))
theorem S_run_of (c : Base) : SoundB (cx c) 0 (sc_325 c) (stOf (cx c).K 325) B_run_of := (sb_cons (s_asg (u_name (ln_325_3 c)) (b_attr (l_name (ln_325_0 c)) (ao_314_2 c) (fun _ => rfl)) (fun _ => rfl) (fun _ => rfl) (fun _ => rfl))
  (sb_cons (s_while 1000 (t_bool (a_and (t_cmp (b_attr (l_name (ln_325_0 c)) (ao_314_2 c) (fun _ => rfl)) (b_blt (bn_325_len c) f_len (es_cons (b_attr (l_name (ln_325_0 c)) (ao_314_0 c) (fun _ => rfl)) es_nil (fun _ => rfl)) (fun _ => ⟨rfl, rfl⟩) (fun _ => ⟨rfl, trivial⟩) (fun _ => rfl)) bin_lt rfl) (a_and (t_cmp (b_sub (b_attr (l_name (ln_325_0 c)) (ao_314_0 c) (fun _ => rfl)) (b_attr (l_name (ln_325_0 c)) (ao_314_2 c) (fun _ => rfl)) (fun _ _ => rfl)) (l_name (ln_325_1 c)) bin_in rfl) (a_and (t_cmp (b_op (b_attr (l_name (ln_325_0 c)) (ao_314_2 c) (fun _ => rfl)) (l_name (ln_325_3 c)) bin_sub) (l_name (ln_325_2 c)) bin_ne rfl) a_andNil))))
  (sb_cons (s_augA (l_name (ln_325_0 c)) (ao_314_2 c) (so_314_2 c) c_int bin_iadd)
  sb_nil))
  (sb_cons (s_ret (b_sliceS (b_attr (l_name (ln_325_0 c)) (ao_314_0 c) (fun _ => rfl)) (p_some (l_name (ln_325_3 c))) (p_some (b_attr (l_name (ln_325_0 c)) (ao_314_2 c) (fun _ => rfl))) (fun _ _ => rfl)))
  sb_nil)))
noncomputable def F_run_of : FnG := runB [3] 3 4 [] B_run_of
theorem ok_run_of (c : Base) : CallOk (cx c) 1 (.ref ((cx c).ga 325)) F_run_of := fn_okK (fk_325 c) (S_run_of c)
theorem kp_325 (c : Base) : keepIn (cx c).K (.ref ((cx c).ga 325)) = true := by kernel_rfl
theorem gv_run_of (c : Base) : nsIn (cx c).K mainGlobals "run_of" = some (some (.ref 325)) := by kernel_rfl
theorem gn_606_run_of (c : Base) : GloName (cx c) (sc_606 c) "run_of" (.ref 325) := ⟨gv_run_of c, by kernel_rfl, by kernel_rfl⟩
theorem fn_606_run_of (c : Base) : FnName (cx c) (sc_606 c) "run_of" 325 := ⟨gn_606_run_of c, kp_325 c⟩
noncomputable def sc_332 (c : Base) : Sc := ⟨(fdOf (cx c).K 332).scope, ["run", "base", "found", "sign"], [], fun _ => True⟩
theorem fk_332 (c : Base) : FnK (cx c) 332 ["run", "base"] ["run", "base", "found", "sign"] [2] [] where
  at_ := by kernel_rfl
  isF := ⟨by kernel_rfl, by kernel_rfl, by kernel_rfl, by kernel_rfl⟩
  code := by kernel_rfl
  bind := bindD (ds := []) (fun _ _ => .nil) (one_ar (fun S ws h => by obtain ⟨w0, w1, rfl⟩ := len2 h; kernel_rfl))
  ars := by decide
  pre := ⟨["found", "sign"], rfl⟩
  nd := by decide
  loc := by kernel_rfl
  cell := by kernel_rfl
  co := by kernel_rfl
  gen := by kernel_rfl
  kind := by kernel_rfl
theorem ln_332_2 (c : Base) : LocName (sc_332 c) 2 "found" := ⟨rfl, by kernel_rfl, by kernel_rfl⟩
theorem ln_332_3 (c : Base) : LocName (sc_332 c) 3 "sign" := ⟨rfl, by kernel_rfl, by kernel_rfl⟩
theorem gv_MOST_CODE (c : Base) : nsIn (cx c).K mainGlobals "MOST_CODE" = some (some (.int 1114111 632)) := by kernel_rfl
theorem gn_332_MOST_CODE (c : Base) : GloName (cx c) (sc_332 c) "MOST_CODE" (.int 1114111 632) := ⟨gv_MOST_CODE c, by kernel_rfl, by kernel_rfl⟩
theorem ln_332_1 (c : Base) : LocName (sc_332 c) 1 "base" := ⟨rfl, by kernel_rfl, by kernel_rfl⟩
theorem gv_HEX_FIGURES (c : Base) : nsIn (cx c).K mainGlobals "HEX_FIGURES" = some (some (.str ⟨[48, 49, 50, 51, 52, 53, 54, 55, 56, 57, 97, 98, 99, 100, 101, 102].toArray⟩ 626)) := by kernel_rfl
theorem gn_332_HEX_FIGURES (c : Base) : GloName (cx c) (sc_332 c) "HEX_FIGURES" (.str ⟨[48, 49, 50, 51, 52, 53, 54, 55, 56, 57, 97, 98, 99, 100, 101, 102].toArray⟩ 626) := ⟨gv_HEX_FIGURES c, by kernel_rfl, by kernel_rfl⟩
theorem bn_332_min (c : Base) : BltName (cx c) (sc_332 c) "min" (.builtin "min") := ⟨gz_min c, by kernel_rfl, by decide, by kernel_rfl, by kernel_rfl⟩
theorem ln_332_0 (c : Base) : LocName (sc_332 c) 0 "run" := ⟨rfl, by kernel_rfl, by kernel_rfl⟩
noncomputable def B_number_of_run : SS := (seqS (asgS (asgL 2) (cE (.int 0)))
  (seqS (forVS (lE 0) (asgL 3)
  (seqS (asgS (asgL 2) (bltE minG (esC (bE addV (bE mulV (lE 2) (lE 1)) (indexE (cE (.str [48, 49, 50, 51, 52, 53, 54, 55, 56, 57, 97, 98, 99, 100, 101, 102])) (lowerE (lE 3)))) (esC (bE addV (cE (.int 1114111)) (cE (.int 1))) esN))))
  nilS) 1000)
  (seqS (retS (lE 2))
  nilS)))
theorem S_number_of_run (c : Base) : SoundB (cx c) 0 (sc_332 c) (stOf (cx c).K 332) B_number_of_run := (sb_cons (s_asg (u_name (ln_332_2 c)) c_int (fun _ => rfl) (fun _ => rfl) (fun _ => rfl))
  (sb_cons (s_for 1000 (l_name (ln_332_0 c)) (u_name (ln_332_3 c))
  (sb_cons (s_asg (u_name (ln_332_2 c)) (b_blt (bn_332_min c) f_min (es_cons (b_op (b_op (l_name (ln_332_2 c)) (l_name (ln_332_1 c)) bin_mul) (b_index (g_name (gn_332_HEX_FIGURES c) (fun _ _ => (.str _ _))) (b_lower (l_name (ln_332_3 c)) (fun _ => rfl)) (fun _ => ⟨rfl, rfl⟩) (fun _ => rfl)) bin_add) (es_cons (b_op (g_name (gn_332_MOST_CODE c) (fun _ _ => (.int _ _))) c_int bin_add) es_nil (fun _ => rfl)) (fun _ => rfl)) (fun _ => ⟨rfl, rfl⟩) (fun _ => ⟨rfl, rfl⟩) (fun _ => rfl)) (fun _ => rfl) (fun _ => rfl) (fun _ => rfl))
  sb_nil) (.inl (fun _ _ => rfl)) (fun _ _ => rfl))
  (sb_cons (s_ret (l_name (ln_332_2 c)))
  sb_nil)))
noncomputable def F_number_of_run : FnG := runB [2] 2 4 [] B_number_of_run
theorem ok_number_of_run (c : Base) : CallOk (cx c) 1 (.ref ((cx c).ga 332)) F_number_of_run := fn_okK (fk_332 c) (S_number_of_run c)
theorem kp_332 (c : Base) : keepIn (cx c).K (.ref ((cx c).ga 332)) = true := by kernel_rfl
theorem gv_number_of_run (c : Base) : nsIn (cx c).K mainGlobals "number_of_run" = some (some (.ref 332)) := by kernel_rfl
theorem gn_606_number_of_run (c : Base) : GloName (cx c) (sc_606 c) "number_of_run" (.ref 332) := ⟨gv_number_of_run c, by kernel_rfl, by kernel_rfl⟩
theorem fn_606_number_of_run (c : Base) : FnName (cx c) (sc_606 c) "number_of_run" 332 := ⟨gn_606_number_of_run c, kp_332 c⟩
theorem ln_606_5 (c : Base) : LocName (sc_606 c) 5 "begun" := ⟨rfl, by kernel_rfl, by kernel_rfl⟩
theorem gv_CLASS_LETTERS (c : Base) : nsIn (cx c).K mainGlobals "CLASS_LETTERS" = some (some (.str ⟨[100, 68, 119, 87, 115, 83, 104, 72, 118, 86].toArray⟩ 628)) := by kernel_rfl
theorem gn_606_CLASS_LETTERS (c : Base) : GloName (cx c) (sc_606 c) "CLASS_LETTERS" (.str ⟨[100, 68, 119, 87, 115, 83, 104, 72, 118, 86].toArray⟩ 628) := ⟨gv_CLASS_LETTERS c, by kernel_rfl, by kernel_rfl⟩
theorem kp_304 (c : Base) : keepIn (cx c).K (.ref ((cx c).ga 304)) = true := by kernel_rfl
theorem mo_304 (c : Base) : MethOk (cx c) 314 "peek" 304 := ⟨by kernel_rfl, by kernel_rfl, by kernel_rfl, kp_304 c, (by decide : ("peek" : Str) ∉ cAt 314)⟩
noncomputable def sc_304 (c : Base) : Sc := ⟨(fdOf (cx c).K 304).scope, ["self"], [], fun _ => True⟩
theorem fk_304 (c : Base) : FnK (cx c) 304 ["self"] ["self"] [1] [] where
  at_ := by kernel_rfl
  isF := ⟨by kernel_rfl, by kernel_rfl, by kernel_rfl, by kernel_rfl⟩
  code := by kernel_rfl
  bind := bindD (ds := []) (fun _ _ => .nil) (one_ar (fun S ws h => by obtain ⟨w0, rfl⟩ := len1 h; kernel_rfl))
  ars := by decide
  pre := ⟨[], rfl⟩
  nd := by decide
  loc := by kernel_rfl
  cell := by kernel_rfl
  co := by kernel_rfl
  gen := by kernel_rfl
  kind := by kernel_rfl
theorem ln_304_0 (c : Base) : LocName (sc_304 c) 0 "self" := ⟨rfl, by kernel_rfl, by kernel_rfl⟩
noncomputable def B_PatternText_peek : SS := (seqS (retS (sliS (attrE 314 0 (lE 0)) (partE (attrE 314 2 (lE 0))) (partE (bE addV (attrE 314 2 (lE 0)) (cE (.int 1))))))
  nilS)
theorem S_PatternText_peek (c : Base) : SoundB (cx c) 0 (sc_304 c) (stOf (cx c).K 304) B_PatternText_peek := (sb_cons (s_ret (b_sliceS (b_attr (l_name (ln_304_0 c)) (ao_314_0 c) (fun _ => rfl)) (p_some (b_attr (l_name (ln_304_0 c)) (ao_314_2 c) (fun _ => rfl))) (p_some (b_op (b_attr (l_name (ln_304_0 c)) (ao_314_2 c) (fun _ => rfl)) c_int bin_add)) (fun _ _ => rfl)))
  sb_nil)
noncomputable def F_PatternText_peek : FnG := runB [1] 1 1 [] B_PatternText_peek
theorem ok_PatternText_peek (c : Base) : CallOk (cx c) 1 (.ref ((cx c).ga 304)) F_PatternText_peek := fn_okK (fk_304 c) (S_PatternText_peek c)
theorem ln_606_1 (c : Base) : LocName (sc_606 c) 1 "flags" := ⟨rfl, by kernel_rfl, by kernel_rfl⟩
noncomputable def B_read_escape : SS := (seqS (asgS (asgL 2) (attrE 314 2 (lE 0)))
  (seqS (asgS (asgL 3) (bE inV (cE (.str [105])) (lE 1)))
  (seqS (augA 314 2 iaddV (lE 0) (cE (.int 1)))
  (seqS (asgS (asgL 4) (methE 314 F_PatternText_peek (lE 0) esN))
  (seqS (ifS (tOr (tAnd (tE (bE neV (lE 4) (cE (.str [])))) (tAnd (tE (bE inV (lE 4) (cE (.str [100, 68, 119, 87, 115, 83, 104, 72, 118, 86])))) (tB true))) (tOr (tAnd (tE (bE eqV (lE 4) (cE (.str [78])))) (tAnd noT (tB true))) (tB false)))
  noS
  nilS)
  (seqS (ifS (tAnd (tE (bE neV (lE 4) (cE (.str [])))) (tAnd (tE (bE inV (lE 4) (cE (.str [65, 122, 90, 98, 66, 71])))) (tB true)))
  noS
  nilS)
  (seqS (ifS (tE (methE 314 F_PatternText_skips (lE 0) (esC (cE (.str [103])) esN)))
  noS
  nilS)
  (seqS (ifS (tE (methE 314 F_PatternText_skips (lE 0) (esC (cE (.str [107])) esN)))
  noS
  nilS)
  (seqS (ifS (tAnd (tE (bE neV (lE 4) (cE (.str [])))) (tAnd (tE (bE inV (lE 4) (cE (.str [49, 50, 51, 52, 53, 54, 55, 56, 57])))) (tB true)))
  (seqS (asgS (asgL 5) (attrE 314 2 (lE 0)))
  (seqS (asgS (asgL 6) (callE F_number_of_run (esC (callE F_run_of (esC (lE 0) (esC (cE (.str [48, 49, 50, 51, 52, 53, 54, 55, 56, 57])) (esC (cE (.int (-1))) esN)))) (esC (cE (.int 10)) esN))))
  (seqS (ifS (tOr (tE (bE ltV (lE 6) (cE (.int 10)))) (tOr noT (tOr noT (tB false))))
  (seqS (retS (tupE (esC (cE (.str [98, 97, 99, 107])) (esC (callE F_speak_of (esC (lE 0) (esC (listE (esC (lE 6) esN)) (esC (lE 2) esN)))) (esC (lE 3) esN)))))
  nilS)
  nilS)
  noS)))
  nilS)
  noS)))))))))
theorem S_read_escape (c : Base) : SoundB (cx c) 1 (sc_606 c) (stOf (cx c).K 606) B_read_escape := (sb_cons (s_asg (u_name (ln_606_2 c)) (b_attr (l_name (ln_606_0 c)) (ao_314_2 c) (fun _ => rfl)) (fun _ => rfl) (fun _ => rfl) (fun _ => rfl))
  (sb_cons (s_asg (u_name (ln_606_3 c)) (b_cmp (c_str (by kernel_rfl)) (l_name (ln_606_1 c)) bin_in rfl) (fun _ => rfl) (fun _ => rfl) (fun _ => rfl))
  (sb_cons (s_augA (l_name (ln_606_0 c)) (ao_314_2 c) (so_314_2 c) c_int bin_iadd)
  (sb_cons (s_asg (u_name (ln_606_4 c)) (b_meth (l_name (ln_606_0 c)) (mo_304 c) ((ok_PatternText_peek c).up rfl) es_nil (fun _ => ⟨rfl, trivial⟩) nilOk_nil (fun _ => rfl)) (fun _ => rfl) (fun _ => rfl) (fun _ => rfl))
  (sb_cons (s_if (t_bool (a_or (t_bool (a_and (t_cmp (l_name (ln_606_4 c)) (c_str (by kernel_rfl)) bin_ne rfl) (a_and (t_cmp (l_name (ln_606_4 c)) (g_name (gn_606_CLASS_LETTERS c) (fun _ _ => (.str _ _))) bin_in rfl) a_andNil))) (a_or (t_bool (a_and (t_cmp (l_name (ln_606_4 c)) (c_str (by kernel_rfl)) bin_eq rfl) (a_and no_t a_andNil))) a_orNil)))
  no_b
  sb_nil)
  (sb_cons (s_if (t_bool (a_and (t_cmp (l_name (ln_606_4 c)) (c_str (by kernel_rfl)) bin_ne rfl) (a_and (t_cmp (l_name (ln_606_4 c)) (c_str (by kernel_rfl)) bin_in rfl) a_andNil)))
  no_b
  sb_nil)
  (sb_cons (s_if (t_val (b_meth (l_name (ln_606_0 c)) (mo_311 c) ((ok_PatternText_skips c).up rfl) (es_cons (c_str (by kernel_rfl)) es_nil (fun _ => rfl)) (fun _ => ⟨rfl, rfl⟩) nilOk_cons (fun _ => rfl)) (fun _ _ => rfl))
  no_b
  sb_nil)
  (sb_cons (s_if (t_val (b_meth (l_name (ln_606_0 c)) (mo_311 c) ((ok_PatternText_skips c).up rfl) (es_cons (c_str (by kernel_rfl)) es_nil (fun _ => rfl)) (fun _ => ⟨rfl, rfl⟩) nilOk_cons (fun _ => rfl)) (fun _ _ => rfl))
  no_b
  sb_nil)
  (sb_cons (s_if (t_bool (a_and (t_cmp (l_name (ln_606_4 c)) (c_str (by kernel_rfl)) bin_ne rfl) (a_and (t_cmp (l_name (ln_606_4 c)) (c_str (by kernel_rfl)) bin_in rfl) a_andNil)))
  (sb_cons (s_asg (u_name (ln_606_5 c)) (b_attr (l_name (ln_606_0 c)) (ao_314_2 c) (fun _ => rfl)) (fun _ => rfl) (fun _ => rfl) (fun _ => rfl))
  (sb_cons (s_asg (u_name (ln_606_6 c)) (b_call (fn_606_number_of_run c) ((ok_number_of_run c).up rfl) (es_cons (b_call (fn_606_run_of c) ((ok_run_of c).up rfl) (es_cons (l_name (ln_606_0 c)) (es_cons (g_name (gn_606_FIGURES c) (fun _ _ => (.str _ _))) (es_cons b_neg es_nil (fun _ => rfl)) (fun _ => rfl)) (fun _ => rfl)) (fun _ => ⟨rfl, rfl⟩) nilOk_cons (fun _ => rfl)) (es_cons c_int es_nil (fun _ => rfl)) (fun _ => rfl)) (fun _ => ⟨rfl, rfl⟩) nilOk_cons (fun _ => rfl)) (fun _ => rfl) (fun _ => rfl) (fun _ => rfl))
  (sb_cons (s_if (t_bool (a_or (t_cmp (l_name (ln_606_6 c)) c_int bin_lt rfl) (a_or no_t (a_or no_t a_orNil))))
  (sb_cons (s_ret (b_tup (es_cons (c_str (by kernel_rfl)) (es_cons (b_call (fn_606_speak_of c) ((ok_speak_of c).up rfl) (es_cons (l_name (ln_606_0 c)) (es_cons (b_list (es_cons (l_name (ln_606_6 c)) es_nil (fun _ => rfl))) (es_cons (l_name (ln_606_2 c)) es_nil (fun _ => rfl)) (fun _ => rfl)) (fun _ => rfl)) (fun _ => ⟨rfl, rfl⟩) nilOk_cons (fun _ => rfl)) (es_cons (l_name (ln_606_3 c)) es_nil (fun _ => rfl)) (fun _ => rfl)) (fun _ => rfl))))
  sb_nil)
  sb_nil)
  no_b)))
  sb_nil)
  no_b)))))))))
noncomputable def F_read_escape : FnG := runB [2] 2 7 [] B_read_escape
theorem ok_read_escape (c : Base) : CallOk (cx c) 2 (.ref ((cx c).ga 606)) F_read_escape := fn_okK (fk_606 c) (S_read_escape c)
theorem kp_606 (c : Base) : keepIn (cx c).K (.ref ((cx c).ga 606)) = true := by kernel_rfl
theorem gv_read_escape (c : Base) : nsIn (cx c).K mainGlobals "read_escape" = some (some (.ref 606)) := by kernel_rfl
theorem gn_557_read_escape (c : Base) : GloName (cx c) (sc_557 c) "read_escape" (.ref 606) := ⟨gv_read_escape c, by kernel_rfl, by kernel_rfl⟩
theorem fn_557_read_escape (c : Base) : FnName (cx c) (sc_557 c) "read_escape" 606 := ⟨gn_557_read_escape c, kp_606 c⟩
theorem kp_592 (c : Base) : keepIn (cx c).K (.ref ((cx c).ga 592)) = true := by kernel_rfl
theorem gv_read_group (c : Base) : nsIn (cx c).K mainGlobals "read_group" = some (some (.ref 592)) := by kernel_rfl
theorem gn_557_read_group (c : Base) : GloName (cx c) (sc_557 c) "read_group" (.ref 592) := ⟨gv_read_group c, by kernel_rfl, by kernel_rfl⟩
theorem fn_557_read_group (c : Base) : FnName (cx c) (sc_557 c) "read_group" 592 := ⟨gn_557_read_group c, kp_592 c⟩
noncomputable def sc_550 (c : Base) : Sc := ⟨(fdOf (cx c).K 550).scope, ["state", "flags", "parts", "changed"], [], fun _ => True⟩
theorem fk_550 (c : Base) : FnK (cx c) 550 ["state", "flags"] ["state", "flags", "parts", "changed"] [2] [] where
  at_ := by kernel_rfl
  isF := ⟨by kernel_rfl, by kernel_rfl, by kernel_rfl, by kernel_rfl⟩
  code := by kernel_rfl
  bind := bindD (ds := []) (fun _ _ => .nil) (one_ar (fun S ws h => by obtain ⟨w0, w1, rfl⟩ := len2 h; kernel_rfl))
  ars := by decide
  pre := ⟨["parts", "changed"], rfl⟩
  nd := by decide
  loc := by kernel_rfl
  cell := by kernel_rfl
  co := by kernel_rfl
  gen := by kernel_rfl
  kind := by kernel_rfl
theorem ln_550_1 (c : Base) : LocName (sc_550 c) 1 "flags" := ⟨rfl, by kernel_rfl, by kernel_rfl⟩
theorem ln_550_2 (c : Base) : LocName (sc_550 c) 2 "parts" := ⟨rfl, by kernel_rfl, by kernel_rfl⟩
theorem ln_550_0 (c : Base) : LocName (sc_550 c) 0 "state" := ⟨rfl, by kernel_rfl, by kernel_rfl⟩
theorem kp_557 (c : Base) : keepIn (cx c).K (.ref ((cx c).ga 557)) = true := by kernel_rfl
theorem gv_read_atom (c : Base) : nsIn (cx c).K mainGlobals "read_atom" = some (some (.ref 557)) := by kernel_rfl
theorem gn_550_read_atom (c : Base) : GloName (cx c) (sc_550 c) "read_atom" (.ref 557) := ⟨gv_read_atom c, by kernel_rfl, by kernel_rfl⟩
theorem fn_550_read_atom (c : Base) : FnName (cx c) (sc_550 c) "read_atom" 557 := ⟨gn_550_read_atom c, kp_557 c⟩
noncomputable def sc_564 (c : Base) : Sc := ⟨(fdOf (cx c).K 564).scope, ["state", "flags", "node", "count", "mode", "begun"], [], fun _ => True⟩
theorem fk_564 (c : Base) : FnK (cx c) 564 ["state", "flags", "node"] ["state", "flags", "node", "count", "mode", "begun"] [3] [] where
  at_ := by kernel_rfl
  isF := ⟨by kernel_rfl, by kernel_rfl, by kernel_rfl, by kernel_rfl⟩
  code := by kernel_rfl
  bind := bindD (ds := []) (fun _ _ => .nil) (one_ar (fun S ws h => by obtain ⟨w0, w1, w2, rfl⟩ := len3 h; kernel_rfl))
  ars := by decide
  pre := ⟨["count", "mode", "begun"], rfl⟩
  nd := by decide
  loc := by kernel_rfl
  cell := by kernel_rfl
  co := by kernel_rfl
  gen := by kernel_rfl
  kind := by kernel_rfl
theorem ln_564_4 (c : Base) : LocName (sc_564 c) 4 "mode" := ⟨rfl, by kernel_rfl, by kernel_rfl⟩
theorem ln_564_3 (c : Base) : LocName (sc_564 c) 3 "count" := ⟨rfl, by kernel_rfl, by kernel_rfl⟩
theorem ln_564_2 (c : Base) : LocName (sc_564 c) 2 "node" := ⟨rfl, by kernel_rfl, by kernel_rfl⟩
theorem ln_564_0 (c : Base) : LocName (sc_564 c) 0 "state" := ⟨rfl, by kernel_rfl, by kernel_rfl⟩
noncomputable def sc_475 (c : Base) : Sc := ⟨(fdOf (cx c).K 475).scope, ["state", "sign", "found", "least", "most", "behind"], [], fun _ => True⟩
theorem fk_475 (c : Base) : FnK (cx c) 475 ["state"] ["state", "sign", "found", "least", "most", "behind"] [1] [] where
  at_ := by kernel_rfl
  isF := ⟨by kernel_rfl, by kernel_rfl, by kernel_rfl, by kernel_rfl⟩
  code := by kernel_rfl
  bind := bindD (ds := []) (fun _ _ => .nil) (one_ar (fun S ws h => by obtain ⟨w0, rfl⟩ := len1 h; kernel_rfl))
  ars := by decide
  pre := ⟨["sign", "found", "least", "most", "behind"], rfl⟩
  nd := by decide
  loc := by kernel_rfl
  cell := by kernel_rfl
  co := by kernel_rfl
  gen := by kernel_rfl
  kind := by kernel_rfl
theorem ln_475_2 (c : Base) : LocName (sc_475 c) 2 "found" := ⟨rfl, by kernel_rfl, by kernel_rfl⟩
theorem ln_475_1 (c : Base) : LocName (sc_475 c) 1 "sign" := ⟨rfl, by kernel_rfl, by kernel_rfl⟩
theorem gn_475_COUNT_SIGNS (c : Base) : GloName (cx c) (sc_475 c) "COUNT_SIGNS" (.ref 425) := ⟨gv_COUNT_SIGNS c, by kernel_rfl, by kernel_rfl⟩
theorem ln_475_0 (c : Base) : LocName (sc_475 c) 0 "state" := ⟨rfl, by kernel_rfl, by kernel_rfl⟩
noncomputable def B_take_count : SS := (seqS (asgS (asgL 1) (methE 314 F_PatternText_peek (lE 0) esN))
  (seqS (ifS (tAnd (tE (bE neV (lE 1) (cE (.str [])))) (tAnd (tE (inDE D_COUNT_SIGNS 425 (lE 1))) (tB true)))
  (seqS (augA 314 2 iaddV (lE 0) (cE (.int 1)))
  (seqS (retS (itemDE D_COUNT_SIGNS 425 (lE 1)))
  nilS))
  nilS)
  (seqS (asgS (asgL 2) (ifE (tE (bE eqV (lE 1) (cE (.str [123])))) noE (cE .none)))
  (seqS (ifS (tE (bE isV (lE 2) (cE .none)))
  (seqS (retS (cE .none))
  nilS)
  nilS)
  noS))))
theorem S_take_count (c : Base) : SoundB (cx c) 1 (sc_475 c) (stOf (cx c).K 475) B_take_count := (sb_cons (s_asg (u_name (ln_475_1 c)) (b_meth (l_name (ln_475_0 c)) (mo_304 c) ((ok_PatternText_peek c).up rfl) es_nil (fun _ => ⟨rfl, trivial⟩) nilOk_nil (fun _ => rfl)) (fun _ => rfl) (fun _ => rfl) (fun _ => rfl))
  (sb_cons (s_if (t_bool (a_and (t_cmp (l_name (ln_475_1 c)) (c_str (by kernel_rfl)) bin_ne rfl) (a_and (t_inD (l_name (ln_475_1 c)) (gn_475_COUNT_SIGNS c) (di_425 c) rfl) a_andNil)))
  (sb_cons (s_augA (l_name (ln_475_0 c)) (ao_314_2 c) (so_314_2 c) c_int bin_iadd)
  (sb_cons (s_ret (b_itemD (l_name (ln_475_1 c)) (gn_475_COUNT_SIGNS c) (di_425 c) (fun _ _ => rfl)))
  sb_nil))
  sb_nil)
  (sb_cons (s_asg (u_name (ln_475_2 c)) (b_if (t_cmp (l_name (ln_475_1 c)) (c_str (by kernel_rfl)) bin_eq rfl) no_e c_none) (fun _ => rfl) (fun _ => rfl) (fun _ => rfl))
  (sb_cons (s_if (t_cmp (l_name (ln_475_2 c)) c_none bin_is rfl)
  (sb_cons (s_ret c_none)
  sb_nil)
  sb_nil)
  no_b))))
noncomputable def F_take_count : FnG := runB [1] 1 6 [] B_take_count
theorem ok_take_count (c : Base) : CallOk (cx c) 2 (.ref ((cx c).ga 475)) F_take_count := fn_okK (fk_475 c) (S_take_count c)
theorem kp_475 (c : Base) : keepIn (cx c).K (.ref ((cx c).ga 475)) = true := by kernel_rfl
theorem gv_take_count (c : Base) : nsIn (cx c).K mainGlobals "take_count" = some (some (.ref 475)) := by kernel_rfl
theorem gn_564_take_count (c : Base) : GloName (cx c) (sc_564 c) "take_count" (.ref 475) := ⟨gv_take_count c, by kernel_rfl, by kernel_rfl⟩
theorem fn_564_take_count (c : Base) : FnName (cx c) (sc_564 c) "take_count" 475 := ⟨gn_564_take_count c, kp_475 c⟩
theorem ln_564_5 (c : Base) : LocName (sc_564 c) 5 "begun" := ⟨rfl, by kernel_rfl, by kernel_rfl⟩
theorem ln_564_1 (c : Base) : LocName (sc_564 c) 1 "flags" := ⟨rfl, by kernel_rfl, by kernel_rfl⟩
noncomputable def sc_524 (c : Base) : Sc := ⟨(fdOf (cx c).K 524).scope, ["state", "flags", "close"], [], fun _ => True⟩
theorem fk_524 (c : Base) : FnK (cx c) 524 ["state", "flags"] ["state", "flags", "close"] [2] [] where
  at_ := by kernel_rfl
  isF := ⟨by kernel_rfl, by kernel_rfl, by kernel_rfl, by kernel_rfl⟩
  code := by kernel_rfl
  bind := bindD (ds := []) (fun _ _ => .nil) (one_ar (fun S ws h => by obtain ⟨w0, w1, rfl⟩ := len2 h; kernel_rfl))
  ars := by decide
  pre := ⟨["close"], rfl⟩
  nd := by decide
  loc := by kernel_rfl
  cell := by kernel_rfl
  co := by kernel_rfl
  gen := by kernel_rfl
  kind := by kernel_rfl
theorem ln_524_1 (c : Base) : LocName (sc_524 c) 1 "flags" := ⟨rfl, by kernel_rfl, by kernel_rfl⟩
theorem ln_524_0 (c : Base) : LocName (sc_524 c) 0 "state" := ⟨rfl, by kernel_rfl, by kernel_rfl⟩
noncomputable def B_skip_unseen : SS := (seqS (ifS (tE (methE 314 F_PatternText_skips (lE 0) (esC (cE (.str [40, 63, 35])) esN)))
  noS
  nilS)
  (seqS (ifS (tE (bE (notV inV) (cE (.str [120])) (lE 1)))
  (seqS (retS (cE (.bool false)))
  nilS)
  nilS)
  noS))
theorem S_skip_unseen (c : Base) : SoundB (cx c) 1 (sc_524 c) (stOf (cx c).K 524) B_skip_unseen := (sb_cons (s_if (t_val (b_meth (l_name (ln_524_0 c)) (mo_311 c) ((ok_PatternText_skips c).up rfl) (es_cons (c_str (by kernel_rfl)) es_nil (fun _ => rfl)) (fun _ => ⟨rfl, rfl⟩) nilOk_cons (fun _ => rfl)) (fun _ _ => rfl))
  no_b
  sb_nil)
  (sb_cons (s_if (t_cmp (c_str (by kernel_rfl)) (l_name (ln_524_1 c)) (bin_notIn bin_in) rfl)
  (sb_cons (s_ret c_bool)
  sb_nil)
  sb_nil)
  no_b))
noncomputable def F_skip_unseen : FnG := runB [2] 2 3 [] B_skip_unseen
theorem ok_skip_unseen (c : Base) : CallOk (cx c) 2 (.ref ((cx c).ga 524)) F_skip_unseen := fn_okK (fk_524 c) (S_skip_unseen c)
theorem kp_524 (c : Base) : keepIn (cx c).K (.ref ((cx c).ga 524)) = true := by kernel_rfl
theorem gv_skip_unseen (c : Base) : nsIn (cx c).K mainGlobals "skip_unseen" = some (some (.ref 524)) := by kernel_rfl
theorem gn_564_skip_unseen (c : Base) : GloName (cx c) (sc_564 c) "skip_unseen" (.ref 524) := ⟨gv_skip_unseen c, by kernel_rfl, by kernel_rfl⟩
theorem fn_564_skip_unseen (c : Base) : FnName (cx c) (sc_564 c) "skip_unseen" 524 := ⟨gn_564_skip_unseen c, kp_524 c⟩
noncomputable def B_read_counted : SS := (seqS (whileS (tE (callE F_skip_unseen (esC (lE 0) (esC (lE 1) esN))))
  noS 1000)
  (seqS (asgS (asgL 3) (callE F_take_count (esC (lE 0) esN)))
  (seqS (ifS (tE (bE isV (lE 3) (cE .none)))
  (seqS (retS (lE 2))
  nilS)
  nilS)
  (seqS (whileS (tE (callE F_skip_unseen (esC (lE 0) (esC (lE 1) esN))))
  noS 1000)
  (seqS (asgS (asgL 4) (cE (.str [103, 114, 101, 101, 100, 121])))
  (seqS (ifS (tE (methE 314 F_PatternText_skips (lE 0) (esC (cE (.str [63])) esN)))
  noS
  (seqS (ifS (tE (methE 314 F_PatternText_skips (lE 0) (esC (cE (.str [43])) esN)))
  noS
  nilS)
  nilS))
  (seqS (whileS (tE (callE F_skip_unseen (esC (lE 0) (esC (lE 1) esN))))
  noS 1000)
  (seqS (asgS (asgL 5) (attrE 314 2 (lE 0)))
  (seqS (ifS (tE (bE isNotV (callE F_take_count (esC (lE 0) esN)) (cE .none)))
  noS
  nilS)
  (seqS (retS (tupE (esC (cE (.str [114, 101, 112])) (esC (lE 2) (esC (subE (lE 3) (cE (.int 0))) (esC (subE (lE 3) (cE (.int 1))) (esC (lE 4) esN)))))))
  nilS))))))))))
theorem S_read_counted (c : Base) : SoundB (cx c) 2 (sc_564 c) (stOf (cx c).K 564) B_read_counted := (sb_cons (s_while 1000 (t_val (b_call (fn_564_skip_unseen c) ((ok_skip_unseen c).up rfl) (es_cons (l_name (ln_564_0 c)) (es_cons (l_name (ln_564_1 c)) es_nil (fun _ => rfl)) (fun _ => rfl)) (fun _ => ⟨rfl, rfl⟩) nilOk_cons (fun _ => rfl)) (fun _ _ => rfl))
  no_b)
  (sb_cons (s_asg (u_name (ln_564_3 c)) (b_call (fn_564_take_count c) ((ok_take_count c).up rfl) (es_cons (l_name (ln_564_0 c)) es_nil (fun _ => rfl)) (fun _ => ⟨rfl, rfl⟩) nilOk_cons (fun _ => rfl)) (fun _ => rfl) (fun _ => rfl) (fun _ => rfl))
  (sb_cons (s_if (t_cmp (l_name (ln_564_3 c)) c_none bin_is rfl)
  (sb_cons (s_ret (l_name (ln_564_2 c)))
  sb_nil)
  sb_nil)
  (sb_cons (s_while 1000 (t_val (b_call (fn_564_skip_unseen c) ((ok_skip_unseen c).up rfl) (es_cons (l_name (ln_564_0 c)) (es_cons (l_name (ln_564_1 c)) es_nil (fun _ => rfl)) (fun _ => rfl)) (fun _ => ⟨rfl, rfl⟩) nilOk_cons (fun _ => rfl)) (fun _ _ => rfl))
  no_b)
  (sb_cons (s_asg (u_name (ln_564_4 c)) (c_str (by kernel_rfl)) (fun _ => rfl) (fun _ => rfl) (fun _ => rfl))
  (sb_cons (s_if (t_val (b_meth (l_name (ln_564_0 c)) (mo_311 c) ((ok_PatternText_skips c).up rfl) (es_cons (c_str (by kernel_rfl)) es_nil (fun _ => rfl)) (fun _ => ⟨rfl, rfl⟩) nilOk_cons (fun _ => rfl)) (fun _ _ => rfl))
  no_b
  (sb_cons (s_if (t_val (b_meth (l_name (ln_564_0 c)) (mo_311 c) ((ok_PatternText_skips c).up rfl) (es_cons (c_str (by kernel_rfl)) es_nil (fun _ => rfl)) (fun _ => ⟨rfl, rfl⟩) nilOk_cons (fun _ => rfl)) (fun _ _ => rfl))
  no_b
  sb_nil)
  sb_nil))
  (sb_cons (s_while 1000 (t_val (b_call (fn_564_skip_unseen c) ((ok_skip_unseen c).up rfl) (es_cons (l_name (ln_564_0 c)) (es_cons (l_name (ln_564_1 c)) es_nil (fun _ => rfl)) (fun _ => rfl)) (fun _ => ⟨rfl, rfl⟩) nilOk_cons (fun _ => rfl)) (fun _ _ => rfl))
  no_b)
  (sb_cons (s_asg (u_name (ln_564_5 c)) (b_attr (l_name (ln_564_0 c)) (ao_314_2 c) (fun _ => rfl)) (fun _ => rfl) (fun _ => rfl) (fun _ => rfl))
  (sb_cons (s_if (t_cmp (b_call (fn_564_take_count c) ((ok_take_count c).up rfl) (es_cons (l_name (ln_564_0 c)) es_nil (fun _ => rfl)) (fun _ => ⟨rfl, rfl⟩) nilOk_cons (fun _ => rfl)) c_none bin_isNot rfl)
  no_b
  sb_nil)
  (sb_cons (s_ret (b_tup (es_cons (c_str (by kernel_rfl)) (es_cons (l_name (ln_564_2 c)) (es_cons (b_sub (l_name (ln_564_3 c)) c_int (fun _ _ => rfl)) (es_cons (b_sub (l_name (ln_564_3 c)) c_int (fun _ _ => rfl)) (es_cons (l_name (ln_564_4 c)) es_nil (fun _ => rfl)) (fun _ => rfl)) (fun _ => rfl)) (fun _ => rfl)) (fun _ => rfl))))
  sb_nil))))))))))
noncomputable def F_read_counted : FnG := runB [3] 3 6 [] B_read_counted
theorem ok_read_counted (c : Base) : CallOk (cx c) 3 (.ref ((cx c).ga 564)) F_read_counted := fn_okK (fk_564 c) (S_read_counted c)
theorem kp_564 (c : Base) : keepIn (cx c).K (.ref ((cx c).ga 564)) = true := by kernel_rfl
theorem gv_read_counted (c : Base) : nsIn (cx c).K mainGlobals "read_counted" = some (some (.ref 564)) := by kernel_rfl
theorem gn_550_read_counted (c : Base) : GloName (cx c) (sc_550 c) "read_counted" (.ref 564) := ⟨gv_read_counted c, by kernel_rfl, by kernel_rfl⟩
theorem fn_550_read_counted (c : Base) : FnName (cx c) (sc_550 c) "read_counted" 564 := ⟨gn_550_read_counted c, kp_564 c⟩
theorem ln_550_3 (c : Base) : LocName (sc_550 c) 3 "changed" := ⟨rfl, by kernel_rfl, by kernel_rfl⟩
noncomputable def sc_536 (c : Base) : Sc := ⟨(fdOf (cx c).K 536).scope, ["state", "flags", "begun", "found"], [], fun _ => True⟩
theorem fk_536 (c : Base) : FnK (cx c) 536 ["state", "flags"] ["state", "flags", "begun", "found"] [2] [] where
  at_ := by kernel_rfl
  isF := ⟨by kernel_rfl, by kernel_rfl, by kernel_rfl, by kernel_rfl⟩
  code := by kernel_rfl
  bind := bindD (ds := []) (fun _ _ => .nil) (one_ar (fun S ws h => by obtain ⟨w0, w1, rfl⟩ := len2 h; kernel_rfl))
  ars := by decide
  pre := ⟨["begun", "found"], rfl⟩
  nd := by decide
  loc := by kernel_rfl
  cell := by kernel_rfl
  co := by kernel_rfl
  gen := by kernel_rfl
  kind := by kernel_rfl
theorem ln_536_0 (c : Base) : LocName (sc_536 c) 0 "state" := ⟨rfl, by kernel_rfl, by kernel_rfl⟩
theorem ln_536_2 (c : Base) : LocName (sc_536 c) 2 "begun" := ⟨rfl, by kernel_rfl, by kernel_rfl⟩
noncomputable def B_read_inline : SS := (seqS (asgS (asgL 2) (attrE 314 2 (lE 0)))
  (seqS (ifS (tN (tE (methE 314 F_PatternText_skips (lE 0) (esC (cE (.str [40, 63])) esN))))
  (seqS (retS (cE .none))
  nilS)
  nilS)
  noS))
theorem S_read_inline (c : Base) : SoundB (cx c) 1 (sc_536 c) (stOf (cx c).K 536) B_read_inline := (sb_cons (s_asg (u_name (ln_536_2 c)) (b_attr (l_name (ln_536_0 c)) (ao_314_2 c) (fun _ => rfl)) (fun _ => rfl) (fun _ => rfl) (fun _ => rfl))
  (sb_cons (s_if (t_not (t_val (b_meth (l_name (ln_536_0 c)) (mo_311 c) ((ok_PatternText_skips c).up rfl) (es_cons (c_str (by kernel_rfl)) es_nil (fun _ => rfl)) (fun _ => ⟨rfl, rfl⟩) nilOk_cons (fun _ => rfl)) (fun _ _ => rfl)))
  (sb_cons (s_ret c_none)
  sb_nil)
  sb_nil)
  no_b))
noncomputable def F_read_inline : FnG := runB [2] 2 4 [] B_read_inline
theorem ok_read_inline (c : Base) : CallOk (cx c) 2 (.ref ((cx c).ga 536)) F_read_inline := fn_okK (fk_536 c) (S_read_inline c)
theorem kp_536 (c : Base) : keepIn (cx c).K (.ref ((cx c).ga 536)) = true := by kernel_rfl
theorem gv_read_inline (c : Base) : nsIn (cx c).K mainGlobals "read_inline" = some (some (.ref 536)) := by kernel_rfl
theorem gn_550_read_inline (c : Base) : GloName (cx c) (sc_550 c) "read_inline" (.ref 536) := ⟨gv_read_inline c, by kernel_rfl, by kernel_rfl⟩
theorem fn_550_read_inline (c : Base) : FnName (cx c) (sc_550 c) "read_inline" 536 := ⟨gn_550_read_inline c, kp_536 c⟩
theorem gn_550_skip_unseen (c : Base) : GloName (cx c) (sc_550 c) "skip_unseen" (.ref 524) := ⟨gv_skip_unseen c, by kernel_rfl, by kernel_rfl⟩
theorem fn_550_skip_unseen (c : Base) : FnName (cx c) (sc_550 c) "skip_unseen" 524 := ⟨gn_550_skip_unseen c, kp_524 c⟩
noncomputable def B_read_alternation (g_read_branch : FnG) : SS := (seqS (asgS (asgL 2) (listE esN))
  (seqS (whileS (tE (cE (.bool true)))
  (seqS (asgS (asgT [3, 1]) (callE g_read_branch (esC (lE 0) (esC (lE 1) esN))))
  (seqS (exprS (appendE (lE 2) (lE 3)))
  (seqS (ifS (tN (tE (methE 314 F_PatternText_skips (lE 0) (esC (cE (.str [124])) esN))))
  (seqS (retS (ifE (tE (bE eqV (bltE lenG (esC (lE 2) esN)) (cE (.int 1)))) (subE (lE 2) (cE (.int 0))) noE))
  nilS)
  nilS)
  nilS))) 1000)
  nilS))
theorem S_read_alternation (c : Base) (d : Nat) (hd : 3 ≤ d) {g_read_branch : FnG} (h_read_branch : CallOk (cx c) d (.ref ((cx c).ga 550)) g_read_branch) : SoundB (cx c) d (sc_543 c) (stOf (cx c).K 543) (B_read_alternation g_read_branch) := (sb_cons (s_asg (u_name (ln_543_2 c)) (b_list es_nil) (fun _ => rfl) (fun _ => rfl) (fun _ => rfl))
  (sb_cons (s_while 1000 (t_val c_bool (fun _ _ => rfl))
  (sb_cons (s_asg (u_tup (.cons (ln_543_3 c) (.cons (ln_543_1 c) .nil))) (b_call (fn_543_read_branch c) h_read_branch (es_cons (l_name (ln_543_0 c)) (es_cons (l_name (ln_543_1 c)) es_nil (fun _ => rfl)) (fun _ => rfl)) (fun _ => ⟨rfl, rfl⟩) nilOk_cons (fun _ => rfl)) (fun _ => rfl) (fun _ => rfl) (fun _ => rfl))
  (sb_cons (s_expr (b_append (l_name (ln_543_2 c)) (l_name (ln_543_3 c)) (fun _ => ⟨rfl, rfl⟩) (fun _ => rfl)) (fun _ => rfl))
  (sb_cons (s_if (t_not (t_val (b_meth (l_name (ln_543_0 c)) (mo_311 c) ((ok_PatternText_skips c).le (Nat.le_trans (Nat.le_of_ble_eq_true rfl) hd)) (es_cons (c_str (by kernel_rfl)) es_nil (fun _ => rfl)) (fun _ => ⟨rfl, rfl⟩) nilOk_cons (fun _ => rfl)) (fun _ _ => rfl)))
  (sb_cons (s_ret (b_if (t_cmp (b_blt (bn_543_len c) f_len (es_cons (l_name (ln_543_2 c)) es_nil (fun _ => rfl)) (fun _ => ⟨rfl, rfl⟩) (fun _ => ⟨rfl, trivial⟩) (fun _ => rfl)) c_int bin_eq rfl) (b_sub (l_name (ln_543_2 c)) c_int (fun _ _ => rfl)) no_e))
  sb_nil)
  sb_nil)
  sb_nil))))
  sb_nil))
noncomputable def B_read_inner (g_read_alternation : FnG) : SS := (seqS (ifS (tE (bE eqV (attrE 314 4 (lE 0)) (cE (.int 40))))
  noS
  nilS)
  (seqS (augA 314 4 iaddV (lE 0) (cE (.int 1)))
  (seqS (asgS (asgL 3) (callE g_read_alternation (esC (lE 0) (esC (lE 1) esN))))
  (seqS (augA 314 4 isubV (lE 0) (cE (.int 1)))
  (seqS (ifS (tN (tE (methE 314 F_PatternText_skips (lE 0) (esC (cE (.str [41])) esN))))
  noS
  nilS)
  (seqS (retS (lE 3))
  nilS))))))
theorem S_read_inner (c : Base) (d : Nat) (hd : 3 ≤ d) {g_read_alternation : FnG} (h_read_alternation : CallOk (cx c) d (.ref ((cx c).ga 543)) g_read_alternation) : SoundB (cx c) d (sc_571 c) (stOf (cx c).K 571) (B_read_inner g_read_alternation) := (sb_cons (s_if (t_cmp (b_attr (l_name (ln_571_0 c)) (ao_314_4 c) (fun _ => rfl)) (g_name (gn_571_MOST_NESTED c) (fun _ _ => (.int _ _))) bin_eq rfl)
  no_b
  sb_nil)
  (sb_cons (s_augA (l_name (ln_571_0 c)) (ao_314_4 c) (so_314_4 c) c_int bin_iadd)
  (sb_cons (s_asg (u_name (ln_571_3 c)) (b_call (fn_571_read_alternation c) h_read_alternation (es_cons (l_name (ln_571_0 c)) (es_cons (l_name (ln_571_1 c)) es_nil (fun _ => rfl)) (fun _ => rfl)) (fun _ => ⟨rfl, rfl⟩) nilOk_cons (fun _ => rfl)) (fun _ => rfl) (fun _ => rfl) (fun _ => rfl))
  (sb_cons (s_augA (l_name (ln_571_0 c)) (ao_314_4 c) (so_314_4 c) c_int bin_isub)
  (sb_cons (s_if (t_not (t_val (b_meth (l_name (ln_571_0 c)) (mo_311 c) ((ok_PatternText_skips c).le (Nat.le_trans (Nat.le_of_ble_eq_true rfl) hd)) (es_cons (c_str (by kernel_rfl)) es_nil (fun _ => rfl)) (fun _ => ⟨rfl, rfl⟩) nilOk_cons (fun _ => rfl)) (fun _ _ => rfl)))
  no_b
  sb_nil)
  (sb_cons (s_ret (l_name (ln_571_3 c)))
  sb_nil))))))
noncomputable def B_read_capture (g_read_inner : FnG) : SS := (seqS (augA 314 3 iaddV (lE 0) (cE (.int 1)))
  (seqS (asgS (asgL 4) (attrE 314 3 (lE 0)))
  (seqS (ifS (tE (bE neV (lE 3) (cE (.str []))))
  noS
  nilS)
  (seqS (retS (tupE (esC (cE (.str [103, 114, 111, 117, 112])) (esC (lE 4) (esC (callE g_read_inner (esC (lE 0) (esC (lE 1) (esC (lE 2) esN)))) esN)))))
  nilS))))
theorem S_read_capture (c : Base) (d : Nat) (hd : 3 ≤ d) {g_read_inner : FnG} (h_read_inner : CallOk (cx c) d (.ref ((cx c).ga 571)) g_read_inner) : SoundB (cx c) d (sc_578 c) (stOf (cx c).K 578) (B_read_capture g_read_inner) := (sb_cons (s_augA (l_name (ln_578_0 c)) (ao_314_3 c) (so_314_3 c) c_int bin_iadd)
  (sb_cons (s_asg (u_name (ln_578_4 c)) (b_attr (l_name (ln_578_0 c)) (ao_314_3 c) (fun _ => rfl)) (fun _ => rfl) (fun _ => rfl) (fun _ => rfl))
  (sb_cons (s_if (t_cmp (l_name (ln_578_3 c)) (c_str (by kernel_rfl)) bin_ne rfl)
  no_b
  sb_nil)
  (sb_cons (s_ret (b_tup (es_cons (c_str (by kernel_rfl)) (es_cons (l_name (ln_578_4 c)) (es_cons (b_call (fn_578_read_inner c) h_read_inner (es_cons (l_name (ln_578_0 c)) (es_cons (l_name (ln_578_1 c)) (es_cons (l_name (ln_578_2 c)) es_nil (fun _ => rfl)) (fun _ => rfl)) (fun _ => rfl)) (fun _ => ⟨rfl, rfl⟩) nilOk_cons (fun _ => rfl)) es_nil (fun _ => rfl)) (fun _ => rfl)) (fun _ => rfl))))
  sb_nil))))
noncomputable def B_read_group (g_read_capture : FnG) : SS := (seqS (asgS (asgL 2) (attrE 314 2 (lE 0)))
  (seqS (forGS L_LOOKS (asgT [3, 4, 5])
  (seqS (ifS (tE (methE 314 F_PatternText_skips (lE 0) (esC (lE 3) esN)))
  noS
  nilS)
  nilS) 1000)
  (seqS (ifS (tE (methE 314 F_PatternText_skips (lE 0) (esC (cE (.str [40, 63, 62])) esN)))
  noS
  nilS)
  (seqS (forGS L_NAME_SIGNS (asgT [3, 6])
  (seqS (ifS (tE (methE 314 F_PatternText_skips (lE 0) (esC (lE 3) esN)))
  noS
  nilS)
  nilS) 1000)
  (seqS (ifS (tE (methE 314 F_PatternText_skips (lE 0) (esC (cE (.str [40, 63, 80, 61])) esN)))
  noS
  nilS)
  (seqS (ifS (tN (tE (methE 314 F_PatternText_skips (lE 0) (esC (cE (.str [40, 63])) esN))))
  (seqS (augA 314 2 iaddV (lE 0) (cE (.int 1)))
  (seqS (retS (callE g_read_capture (esC (lE 0) (esC (lE 1) (esC (lE 2) (esC (cE (.str [])) esN))))))
  nilS))
  nilS)
  noS))))))
theorem S_read_group (c : Base) (d : Nat) (hd : 3 ≤ d) {g_read_capture : FnG} (h_read_capture : CallOk (cx c) d (.ref ((cx c).ga 578)) g_read_capture) : SoundB (cx c) d (sc_592 c) (stOf (cx c).K 592) (B_read_group g_read_capture) := (sb_cons (s_asg (u_name (ln_592_2 c)) (b_attr (l_name (ln_592_0 c)) (ao_314_2 c) (fun _ => rfl)) (fun _ => rfl) (fun _ => rfl) (fun _ => rfl))
  (sb_cons (s_forG (gn := 513) 1000 (gn_592_LOOKS c) (gl_513 c) (u_tup (.cons (ln_592_3 c) (.cons (ln_592_4 c) (.cons (ln_592_5 c) .nil))))
  (sb_cons (s_if (t_val (b_meth (l_name (ln_592_0 c)) (mo_311 c) ((ok_PatternText_skips c).le (Nat.le_trans (Nat.le_of_ble_eq_true rfl) hd)) (es_cons (l_name (ln_592_3 c)) es_nil (fun _ => rfl)) (fun _ => ⟨rfl, rfl⟩) nilOk_cons (fun _ => rfl)) (fun _ _ => rfl))
  no_b
  sb_nil)
  sb_nil) (.inr ⟨_, _, _, rfl⟩) (fun _ _ => rfl))
  (sb_cons (s_if (t_val (b_meth (l_name (ln_592_0 c)) (mo_311 c) ((ok_PatternText_skips c).le (Nat.le_trans (Nat.le_of_ble_eq_true rfl) hd)) (es_cons (c_str (by kernel_rfl)) es_nil (fun _ => rfl)) (fun _ => ⟨rfl, rfl⟩) nilOk_cons (fun _ => rfl)) (fun _ _ => rfl))
  no_b
  sb_nil)
  (sb_cons (s_forG (gn := 517) 1000 (gn_592_NAME_SIGNS c) (gl_517 c) (u_tup (.cons (ln_592_3 c) (.cons (ln_592_6 c) .nil)))
  (sb_cons (s_if (t_val (b_meth (l_name (ln_592_0 c)) (mo_311 c) ((ok_PatternText_skips c).le (Nat.le_trans (Nat.le_of_ble_eq_true rfl) hd)) (es_cons (l_name (ln_592_3 c)) es_nil (fun _ => rfl)) (fun _ => ⟨rfl, rfl⟩) nilOk_cons (fun _ => rfl)) (fun _ _ => rfl))
  no_b
  sb_nil)
  sb_nil) (.inr ⟨_, _, _, rfl⟩) (fun _ _ => rfl))
  (sb_cons (s_if (t_val (b_meth (l_name (ln_592_0 c)) (mo_311 c) ((ok_PatternText_skips c).le (Nat.le_trans (Nat.le_of_ble_eq_true rfl) hd)) (es_cons (c_str (by kernel_rfl)) es_nil (fun _ => rfl)) (fun _ => ⟨rfl, rfl⟩) nilOk_cons (fun _ => rfl)) (fun _ _ => rfl))
  no_b
  sb_nil)
  (sb_cons (s_if (t_not (t_val (b_meth (l_name (ln_592_0 c)) (mo_311 c) ((ok_PatternText_skips c).le (Nat.le_trans (Nat.le_of_ble_eq_true rfl) hd)) (es_cons (c_str (by kernel_rfl)) es_nil (fun _ => rfl)) (fun _ => ⟨rfl, rfl⟩) nilOk_cons (fun _ => rfl)) (fun _ _ => rfl)))
  (sb_cons (s_augA (l_name (ln_592_0 c)) (ao_314_2 c) (so_314_2 c) c_int bin_iadd)
  (sb_cons (s_ret (b_call (fn_592_read_capture c) h_read_capture (es_cons (l_name (ln_592_0 c)) (es_cons (l_name (ln_592_1 c)) (es_cons (l_name (ln_592_2 c)) (es_cons (c_str (by kernel_rfl)) es_nil (fun _ => rfl)) (fun _ => rfl)) (fun _ => rfl)) (fun _ => rfl)) (fun _ => ⟨rfl, rfl⟩) nilOk_cons (fun _ => rfl)))
  sb_nil))
  sb_nil)
  no_b))))))
noncomputable def B_read_atom (g_read_group : FnG) : SS := (seqS (asgS (asgL 2) (methE 314 F_PatternText_peek (lE 0) esN))
  (seqS (ifS (tE (bE eqV (lE 2) (cE (.str [40]))))
  (seqS (retS (callE g_read_group (esC (lE 0) (esC (lE 1) esN))))
  nilS)
  nilS)
  (seqS (ifS (tE (bE eqV (lE 2) (cE (.str [91]))))
  noS
  nilS)
  (seqS (ifS (tE (bE eqV (lE 2) (cE (.str [92]))))
  (seqS (retS (callE F_read_escape (esC (lE 0) (esC (lE 1) esN))))
  nilS)
  nilS)
  (seqS (ifS (tOr (tE (inDE D_COUNT_SIGNS 425 (lE 2))) (tOr (tAnd (tE (bE eqV (lE 2) (cE (.str [123])))) (tAnd noT (tB true))) (tB false)))
  noS
  nilS)
  (seqS (augA 314 2 iaddV (lE 0) (cE (.int 1)))
  (seqS (ifS (tE (bE eqV (lE 2) (cE (.str [46]))))
  noS
  nilS)
  (seqS (ifS (tE (bE eqV (lE 2) (cE (.str [94]))))
  (seqS (retS (tupE (esC (cE (.str [97, 116])) (esC (ifE (tE (bE inV (cE (.str [109])) (lE 1))) noE (cE (.str [65]))) esN))))
  nilS)
  nilS)
  (seqS (ifS (tE (bE eqV (lE 2) (cE (.str [36]))))
  (seqS (retS (tupE (esC (cE (.str [97, 116])) (esC (ifE (tE (bE inV (cE (.str [109])) (lE 1))) noE (cE (.str [90]))) esN))))
  nilS)
  nilS)
  (seqS (retS (tupE (esC (cE (.str [115, 105, 103, 110])) (esC (lE 2) (esC (bE inV (cE (.str [105])) (lE 1)) esN)))))
  nilS))))))))))
theorem S_read_atom (c : Base) (d : Nat) (hd : 3 ≤ d) {g_read_group : FnG} (h_read_group : CallOk (cx c) d (.ref ((cx c).ga 592)) g_read_group) : SoundB (cx c) d (sc_557 c) (stOf (cx c).K 557) (B_read_atom g_read_group) := (sb_cons (s_asg (u_name (ln_557_2 c)) (b_meth (l_name (ln_557_0 c)) (mo_304 c) ((ok_PatternText_peek c).le (Nat.le_trans (Nat.le_of_ble_eq_true rfl) hd)) es_nil (fun _ => ⟨rfl, trivial⟩) nilOk_nil (fun _ => rfl)) (fun _ => rfl) (fun _ => rfl) (fun _ => rfl))
  (sb_cons (s_if (t_cmp (l_name (ln_557_2 c)) (c_str (by kernel_rfl)) bin_eq rfl)
  (sb_cons (s_ret (b_call (fn_557_read_group c) h_read_group (es_cons (l_name (ln_557_0 c)) (es_cons (l_name (ln_557_1 c)) es_nil (fun _ => rfl)) (fun _ => rfl)) (fun _ => ⟨rfl, rfl⟩) nilOk_cons (fun _ => rfl)))
  sb_nil)
  sb_nil)
  (sb_cons (s_if (t_cmp (l_name (ln_557_2 c)) (c_str (by kernel_rfl)) bin_eq rfl)
  no_b
  sb_nil)
  (sb_cons (s_if (t_cmp (l_name (ln_557_2 c)) (c_str (by kernel_rfl)) bin_eq rfl)
  (sb_cons (s_ret (b_call (fn_557_read_escape c) ((ok_read_escape c).le (Nat.le_trans (Nat.le_of_ble_eq_true rfl) hd)) (es_cons (l_name (ln_557_0 c)) (es_cons (l_name (ln_557_1 c)) es_nil (fun _ => rfl)) (fun _ => rfl)) (fun _ => ⟨rfl, rfl⟩) nilOk_cons (fun _ => rfl)))
  sb_nil)
  sb_nil)
  (sb_cons (s_if (t_bool (a_or (t_inD (l_name (ln_557_2 c)) (gn_557_COUNT_SIGNS c) (di_425 c) rfl) (a_or (t_bool (a_and (t_cmp (l_name (ln_557_2 c)) (c_str (by kernel_rfl)) bin_eq rfl) (a_and no_t a_andNil))) a_orNil)))
  no_b
  sb_nil)
  (sb_cons (s_augA (l_name (ln_557_0 c)) (ao_314_2 c) (so_314_2 c) c_int bin_iadd)
  (sb_cons (s_if (t_cmp (l_name (ln_557_2 c)) (c_str (by kernel_rfl)) bin_eq rfl)
  no_b
  sb_nil)
  (sb_cons (s_if (t_cmp (l_name (ln_557_2 c)) (c_str (by kernel_rfl)) bin_eq rfl)
  (sb_cons (s_ret (b_tup (es_cons (c_str (by kernel_rfl)) (es_cons (b_if (t_cmp (c_str (by kernel_rfl)) (l_name (ln_557_1 c)) bin_in rfl) no_e (c_str (by kernel_rfl))) es_nil (fun _ => rfl)) (fun _ => rfl))))
  sb_nil)
  sb_nil)
  (sb_cons (s_if (t_cmp (l_name (ln_557_2 c)) (c_str (by kernel_rfl)) bin_eq rfl)
  (sb_cons (s_ret (b_tup (es_cons (c_str (by kernel_rfl)) (es_cons (b_if (t_cmp (c_str (by kernel_rfl)) (l_name (ln_557_1 c)) bin_in rfl) no_e (c_str (by kernel_rfl))) es_nil (fun _ => rfl)) (fun _ => rfl))))
  sb_nil)
  sb_nil)
  (sb_cons (s_ret (b_tup (es_cons (c_str (by kernel_rfl)) (es_cons (l_name (ln_557_2 c)) (es_cons (b_cmp (c_str (by kernel_rfl)) (l_name (ln_557_1 c)) bin_in rfl) es_nil (fun _ => rfl)) (fun _ => rfl)) (fun _ => rfl))))
  sb_nil))))))))))
noncomputable def B_read_branch (g_read_atom : FnG) : SS := (seqS (asgS (asgL 2) (listE esN))
  (seqS (whileS (tE (hE (notH inT) (methE 314 F_PatternText_peek (lE 0) esN) (tupE (esC (cE (.str [])) (esC (cE (.str [124])) (esC (cE (.str [41])) esN))))))
  (seqS (ifS (tE (callE F_skip_unseen (esC (lE 0) (esC (lE 1) esN))))
  noS
  nilS)
  (seqS (asgS (asgL 3) (callE F_read_inline (esC (lE 0) (esC (lE 1) esN))))
  (seqS (ifS (tE (bE isNotV (lE 3) (cE .none)))
  noS
  nilS)
  (seqS (exprS (appendE (lE 2) (callE F_read_counted (esC (lE 0) (esC (lE 1) (esC (callE g_read_atom (esC (lE 0) (esC (lE 1) esN))) esN))))))
  nilS)))) 1000)
  (seqS (retS (tupE (esC (tupE (esC (cE (.str [115, 101, 113])) (esC (lE 2) esN))) (esC (lE 1) esN))))
  nilS)))
theorem S_read_branch (c : Base) (d : Nat) (hd : 3 ≤ d) {g_read_atom : FnG} (h_read_atom : CallOk (cx c) d (.ref ((cx c).ga 557)) g_read_atom) : SoundB (cx c) d (sc_550 c) (stOf (cx c).K 550) (B_read_branch g_read_atom) := (sb_cons (s_asg (u_name (ln_550_2 c)) (b_list es_nil) (fun _ => rfl) (fun _ => rfl) (fun _ => rfl))
  (sb_cons (s_while 1000 (ht_cmp (b_meth (l_name (ln_550_0 c)) (mo_304 c) ((ok_PatternText_peek c).le (Nat.le_trans (Nat.le_of_ble_eq_true rfl) hd)) es_nil (fun _ => ⟨rfl, trivial⟩) nilOk_nil (fun _ => rfl)) (b_tup (es_cons (c_str (by kernel_rfl)) (es_cons (c_str (by kernel_rfl)) (es_cons (c_str (by kernel_rfl)) es_nil (fun _ => rfl)) (fun _ => rfl)) (fun _ => rfl))) (binh_notIn binh_in) rfl)
  (sb_cons (s_if (t_val (b_call (fn_550_skip_unseen c) ((ok_skip_unseen c).le (Nat.le_trans (Nat.le_of_ble_eq_true rfl) hd)) (es_cons (l_name (ln_550_0 c)) (es_cons (l_name (ln_550_1 c)) es_nil (fun _ => rfl)) (fun _ => rfl)) (fun _ => ⟨rfl, rfl⟩) nilOk_cons (fun _ => rfl)) (fun _ _ => rfl))
  no_b
  sb_nil)
  (sb_cons (s_asg (u_name (ln_550_3 c)) (b_call (fn_550_read_inline c) ((ok_read_inline c).le (Nat.le_trans (Nat.le_of_ble_eq_true rfl) hd)) (es_cons (l_name (ln_550_0 c)) (es_cons (l_name (ln_550_1 c)) es_nil (fun _ => rfl)) (fun _ => rfl)) (fun _ => ⟨rfl, rfl⟩) nilOk_cons (fun _ => rfl)) (fun _ => rfl) (fun _ => rfl) (fun _ => rfl))
  (sb_cons (s_if (t_cmp (l_name (ln_550_3 c)) c_none bin_isNot rfl)
  no_b
  sb_nil)
  (sb_cons (s_expr (b_append (l_name (ln_550_2 c)) (b_call (fn_550_read_counted c) ((ok_read_counted c).le (Nat.le_trans (Nat.le_of_ble_eq_true rfl) hd)) (es_cons (l_name (ln_550_0 c)) (es_cons (l_name (ln_550_1 c)) (es_cons (b_call (fn_550_read_atom c) h_read_atom (es_cons (l_name (ln_550_0 c)) (es_cons (l_name (ln_550_1 c)) es_nil (fun _ => rfl)) (fun _ => rfl)) (fun _ => ⟨rfl, rfl⟩) nilOk_cons (fun _ => rfl)) es_nil (fun _ => rfl)) (fun _ => rfl)) (fun _ => rfl)) (fun _ => ⟨rfl, rfl⟩) nilOk_cons (fun _ => rfl)) (fun _ => ⟨rfl, rfl⟩) (fun _ => rfl)) (fun _ => rfl))
  sb_nil)))))
  (sb_cons (s_ret (b_tup (es_cons (b_tup (es_cons (c_str (by kernel_rfl)) (es_cons (l_name (ln_550_2 c)) es_nil (fun _ => rfl)) (fun _ => rfl))) (es_cons (l_name (ln_550_1 c)) es_nil (fun _ => rfl)) (fun _ => rfl))))
  sb_nil)))
noncomputable def F_read_inner_1 : FnG := runB [3] 3 4 [] (B_read_inner noF)
theorem ok_read_inner_1 (c : Base) : CallOk (cx c) 4 (.ref ((cx c).ga 571)) F_read_inner_1 := fn_okK (fk_571 c) (S_read_inner c 3 (Nat.le_of_ble_eq_true rfl) (no_f))
noncomputable def F_read_capture_1 : FnG := runB [4] 4 5 [] (B_read_capture F_read_inner_1)
theorem ok_read_capture_1 (c : Base) : CallOk (cx c) 5 (.ref ((cx c).ga 578)) F_read_capture_1 := fn_okK (fk_578 c) (S_read_capture c 4 (Nat.le_of_ble_eq_true rfl) ((ok_read_inner_1 c).up rfl))
noncomputable def F_read_group_1 : FnG := runB [2] 2 8 [] (B_read_group F_read_capture_1)
theorem ok_read_group_1 (c : Base) : CallOk (cx c) 6 (.ref ((cx c).ga 592)) F_read_group_1 := fn_okK (fk_592 c) (S_read_group c 5 (Nat.le_of_ble_eq_true rfl) ((ok_read_capture_1 c).up rfl))
noncomputable def F_read_atom_1 : FnG := runB [2] 2 3 [] (B_read_atom F_read_group_1)
theorem ok_read_atom_1 (c : Base) : CallOk (cx c) 7 (.ref ((cx c).ga 557)) F_read_atom_1 := fn_okK (fk_557 c) (S_read_atom c 6 (Nat.le_of_ble_eq_true rfl) ((ok_read_group_1 c).up rfl))
noncomputable def F_read_branch_1 : FnG := runB [2] 2 4 [] (B_read_branch F_read_atom_1)
theorem ok_read_branch_1 (c : Base) : CallOk (cx c) 8 (.ref ((cx c).ga 550)) F_read_branch_1 := fn_okK (fk_550 c) (S_read_branch c 7 (Nat.le_of_ble_eq_true rfl) ((ok_read_atom_1 c).up rfl))
noncomputable def F_read_alternation_1 : FnG := runB [2] 2 4 [] (B_read_alternation F_read_branch_1)
theorem ok_read_alternation_1 (c : Base) : CallOk (cx c) 9 (.ref ((cx c).ga 543)) F_read_alternation_1 := fn_okK (fk_543 c) (S_read_alternation c 8 (Nat.le_of_ble_eq_true rfl) ((ok_read_branch_1 c).up rfl))
noncomputable def F_read_inner_2 : FnG := runB [3] 3 4 [] (B_read_inner F_read_alternation_1)
theorem ok_read_inner_2 (c : Base) : CallOk (cx c) 10 (.ref ((cx c).ga 571)) F_read_inner_2 := fn_okK (fk_571 c) (S_read_inner c 9 (Nat.le_of_ble_eq_true rfl) ((ok_read_alternation_1 c).up rfl))
noncomputable def F_read_capture_2 : FnG := runB [4] 4 5 [] (B_read_capture F_read_inner_2)
theorem ok_read_capture_2 (c : Base) : CallOk (cx c) 11 (.ref ((cx c).ga 578)) F_read_capture_2 := fn_okK (fk_578 c) (S_read_capture c 10 (Nat.le_of_ble_eq_true rfl) ((ok_read_inner_2 c).up rfl))
noncomputable def F_read_group_2 : FnG := runB [2] 2 8 [] (B_read_group F_read_capture_2)
theorem ok_read_group_2 (c : Base) : CallOk (cx c) 12 (.ref ((cx c).ga 592)) F_read_group_2 := fn_okK (fk_592 c) (S_read_group c 11 (Nat.le_of_ble_eq_true rfl) ((ok_read_capture_2 c).up rfl))
noncomputable def F_read_atom_2 : FnG := runB [2] 2 3 [] (B_read_atom F_read_group_2)
theorem ok_read_atom_2 (c : Base) : CallOk (cx c) 13 (.ref ((cx c).ga 557)) F_read_atom_2 := fn_okK (fk_557 c) (S_read_atom c 12 (Nat.le_of_ble_eq_true rfl) ((ok_read_group_2 c).up rfl))
noncomputable def F_read_branch_2 : FnG := runB [2] 2 4 [] (B_read_branch F_read_atom_2)
theorem ok_read_branch_2 (c : Base) : CallOk (cx c) 14 (.ref ((cx c).ga 550)) F_read_branch_2 := fn_okK (fk_550 c) (S_read_branch c 13 (Nat.le_of_ble_eq_true rfl) ((ok_read_atom_2 c).up rfl))
noncomputable def F_read_alternation_2 : FnG := runB [2] 2 4 [] (B_read_alternation F_read_branch_2)
theorem ok_read_alternation_2 (c : Base) : CallOk (cx c) 15 (.ref ((cx c).ga 543)) F_read_alternation_2 := fn_okK (fk_543 c) (S_read_alternation c 14 (Nat.le_of_ble_eq_true rfl) ((ok_read_branch_2 c).up rfl))
theorem gn_611_read_alternation (c : Base) : GloName (cx c) (sc_611 c) "read_alternation" (.ref 543) := ⟨gv_read_alternation c, by kernel_rfl, by kernel_rfl⟩
theorem fn_611_read_alternation (c : Base) : FnName (cx c) (sc_611 c) "read_alternation" 543 := ⟨gn_611_read_alternation c, kp_543 c⟩
noncomputable def sc_435 (c : Base) : Sc := ⟨(fdOf (cx c).K 435).scope, ["text", "found", "at", "close"], [], fun _ => True⟩
theorem fk_435 (c : Base) : FnK (cx c) 435 ["text"] ["text", "found", "at", "close"] [1] [] where
  at_ := by kernel_rfl
  isF := ⟨by kernel_rfl, by kernel_rfl, by kernel_rfl, by kernel_rfl⟩
  code := by kernel_rfl
  bind := bindD (ds := []) (fun _ _ => .nil) (one_ar (fun S ws h => by obtain ⟨w0, rfl⟩ := len1 h; kernel_rfl))
  ars := by decide
  pre := ⟨["found", "at", "close"], rfl⟩
  nd := by decide
  loc := by kernel_rfl
  cell := by kernel_rfl
  co := by kernel_rfl
  gen := by kernel_rfl
  kind := by kernel_rfl
theorem ln_435_1 (c : Base) : LocName (sc_435 c) 1 "found" := ⟨rfl, by kernel_rfl, by kernel_rfl⟩
theorem ln_435_2 (c : Base) : LocName (sc_435 c) 2 "at" := ⟨rfl, by kernel_rfl, by kernel_rfl⟩
theorem ln_435_0 (c : Base) : LocName (sc_435 c) 0 "text" := ⟨rfl, by kernel_rfl, by kernel_rfl⟩
theorem bn_435_len (c : Base) : BltName (cx c) (sc_435 c) "len" (.builtin "len") := ⟨gz_len c, by kernel_rfl, by decide, by kernel_rfl, by kernel_rfl⟩
noncomputable def sc_456 (c : Base) : Sc := ⟨(fdOf (cx c).K 456).scope, ["signs"], [], fun _ => True⟩
theorem fk_456 (c : Base) : FnK (cx c) 456 ["signs"] ["signs"] [1] [] where
  at_ := by kernel_rfl
  isF := ⟨by kernel_rfl, by kernel_rfl, by kernel_rfl, by kernel_rfl⟩
  code := by kernel_rfl
  bind := bindD (ds := []) (fun _ _ => .nil) (one_ar (fun S ws h => by obtain ⟨w0, rfl⟩ := len1 h; kernel_rfl))
  ars := by decide
  pre := ⟨[], rfl⟩
  nd := by decide
  loc := by kernel_rfl
  cell := by kernel_rfl
  co := by kernel_rfl
  gen := by kernel_rfl
  kind := by kernel_rfl
theorem ln_456_0 (c : Base) : LocName (sc_456 c) 0 "signs" := ⟨rfl, by kernel_rfl, by kernel_rfl⟩
noncomputable def B_opens_capture : SS := (seqS (ifS (tE (bE neV (sliE (lE 0) partN (partE (cE (.int 1)))) (cE (.str [63]))))
  (seqS (retS (cE (.bool true)))
  nilS)
  nilS)
  noS)
theorem S_opens_capture (c : Base) : SoundB (cx c) 0 (sc_456 c) (stOf (cx c).K 456) B_opens_capture := (sb_cons (s_if (t_cmp (b_slice (l_name (ln_456_0 c)) p_none (p_some c_int) (fun _ _ => rfl) (fun _ _ => rfl)) (c_str (by kernel_rfl)) bin_ne rfl)
  (sb_cons (s_ret c_bool)
  sb_nil)
  sb_nil)
  no_b)
noncomputable def F_opens_capture : FnG := runB [1] 1 1 [] B_opens_capture
theorem ok_opens_capture (c : Base) : CallOk (cx c) 1 (.ref ((cx c).ga 456)) F_opens_capture := fn_okK (fk_456 c) (S_opens_capture c)
theorem kp_456 (c : Base) : keepIn (cx c).K (.ref ((cx c).ga 456)) = true := by kernel_rfl
theorem gv_opens_capture (c : Base) : nsIn (cx c).K mainGlobals "opens_capture" = some (some (.ref 456)) := by kernel_rfl
theorem gn_435_opens_capture (c : Base) : GloName (cx c) (sc_435 c) "opens_capture" (.ref 456) := ⟨gv_opens_capture c, by kernel_rfl, by kernel_rfl⟩
theorem fn_435_opens_capture (c : Base) : FnName (cx c) (sc_435 c) "opens_capture" 456 := ⟨gn_435_opens_capture c, kp_456 c⟩
noncomputable def B_count_groups : SS := (seqS (asgS (asgL 1) (cE (.int 0)))
  (seqS (asgS (asgL 2) (cE (.int 0)))
  (seqS (whileS (tE (bE ltV (lE 2) (bltE lenG (esC (lE 0) esN))))
  (seqS (ifS (tE (bE eqV (subE (lE 0) (lE 2)) (cE (.str [92]))))
  (seqS (augL 2 iaddV (cE (.int 1)))
  nilS)
  (seqS (ifS (tE (bE eqV (subE (lE 0) (lE 2)) (cE (.str [91]))))
  noS
  (seqS (ifS (tE (bE eqV (sliE (lE 0) (partE (lE 2)) (partE (bE addV (lE 2) (cE (.int 3))))) (cE (.str [40, 63, 35]))))
  noS
  (seqS (ifS (tAnd (tE (bE eqV (subE (lE 0) (lE 2)) (cE (.str [40])))) (tAnd (tE (callE F_opens_capture (esC (sliE (lE 0) (partE (bE addV (lE 2) (cE (.int 1)))) (partE (bE addV (lE 2) (cE (.int 4))))) esN))) (tB true)))
  (seqS (augL 1 iaddV (cE (.int 1)))
  nilS)
  nilS)
  nilS))
  nilS))
  nilS))
  (seqS (augL 2 iaddV (cE (.int 1)))
  nilS)) 1000)
  (seqS (retS (lE 1))
  nilS))))
theorem S_count_groups (c : Base) : SoundB (cx c) 1 (sc_435 c) (stOf (cx c).K 435) B_count_groups := (sb_cons (s_asg (u_name (ln_435_1 c)) c_int (fun _ => rfl) (fun _ => rfl) (fun _ => rfl))
  (sb_cons (s_asg (u_name (ln_435_2 c)) c_int (fun _ => rfl) (fun _ => rfl) (fun _ => rfl))
  (sb_cons (s_while 1000 (t_cmp (l_name (ln_435_2 c)) (b_blt (bn_435_len c) f_len (es_cons (l_name (ln_435_0 c)) es_nil (fun _ => rfl)) (fun _ => ⟨rfl, rfl⟩) (fun _ => ⟨rfl, trivial⟩) (fun _ => rfl)) bin_lt rfl)
  (sb_cons (s_if (t_cmp (b_sub (l_name (ln_435_0 c)) (l_name (ln_435_2 c)) (fun _ _ => rfl)) (c_str (by kernel_rfl)) bin_eq rfl)
  (sb_cons (s_augL (ln_435_2 c) c_int bin_iadd)
  sb_nil)
  (sb_cons (s_if (t_cmp (b_sub (l_name (ln_435_0 c)) (l_name (ln_435_2 c)) (fun _ _ => rfl)) (c_str (by kernel_rfl)) bin_eq rfl)
  no_b
  (sb_cons (s_if (t_cmp (b_slice (l_name (ln_435_0 c)) (p_some (l_name (ln_435_2 c))) (p_some (b_op (l_name (ln_435_2 c)) c_int bin_add)) (fun _ _ => rfl) (fun _ _ => rfl)) (c_str (by kernel_rfl)) bin_eq rfl)
  no_b
  (sb_cons (s_if (t_bool (a_and (t_cmp (b_sub (l_name (ln_435_0 c)) (l_name (ln_435_2 c)) (fun _ _ => rfl)) (c_str (by kernel_rfl)) bin_eq rfl) (a_and (t_val (b_call (fn_435_opens_capture c) ((ok_opens_capture c).up rfl) (es_cons (b_slice (l_name (ln_435_0 c)) (p_some (b_op (l_name (ln_435_2 c)) c_int bin_add)) (p_some (b_op (l_name (ln_435_2 c)) c_int bin_add)) (fun _ _ => rfl) (fun _ _ => rfl)) es_nil (fun _ => rfl)) (fun _ => ⟨rfl, rfl⟩) nilOk_cons (fun _ => rfl)) (fun _ _ => rfl)) a_andNil)))
  (sb_cons (s_augL (ln_435_1 c) c_int bin_iadd)
  sb_nil)
  sb_nil)
  sb_nil))
  sb_nil))
  sb_nil))
  (sb_cons (s_augL (ln_435_2 c) c_int bin_iadd)
  sb_nil)))
  (sb_cons (s_ret (l_name (ln_435_1 c)))
  sb_nil))))
noncomputable def F_count_groups : FnG := runB [1] 1 4 [] B_count_groups
theorem ok_count_groups (c : Base) : CallOk (cx c) 2 (.ref ((cx c).ga 435)) F_count_groups := fn_okK (fk_435 c) (S_count_groups c)
theorem kp_435 (c : Base) : keepIn (cx c).K (.ref ((cx c).ga 435)) = true := by kernel_rfl
theorem gv_count_groups (c : Base) : nsIn (cx c).K mainGlobals "count_groups" = some (some (.ref 435)) := by kernel_rfl
theorem gn_611_count_groups (c : Base) : GloName (cx c) (sc_611 c) "count_groups" (.ref 435) := ⟨gv_count_groups c, by kernel_rfl, by kernel_rfl⟩
theorem fn_611_count_groups (c : Base) : FnName (cx c) (sc_611 c) "count_groups" 435 := ⟨gn_611_count_groups c, kp_435 c⟩
theorem mk_314 (c : Base) : MakeOk (cx c) 314 297 := ⟨by kernel_rfl, by kernel_rfl, by kernel_rfl, trivial⟩
noncomputable def sc_297 (c : Base) : Sc := ⟨(fdOf (cx c).K 297).scope, ["self", "text", "total"], [], fun _ => True⟩
theorem fk_297 (c : Base) : FnK (cx c) 297 ["self", "text", "total"] ["self", "text", "total"] [3] [] where
  at_ := by kernel_rfl
  isF := ⟨by kernel_rfl, by kernel_rfl, by kernel_rfl, by kernel_rfl⟩
  code := by kernel_rfl
  bind := bindD (ds := []) (fun _ _ => .nil) (one_ar (fun S ws h => by obtain ⟨w0, w1, w2, rfl⟩ := len3 h; kernel_rfl))
  ars := by decide
  pre := ⟨[], rfl⟩
  nd := by decide
  loc := by kernel_rfl
  cell := by kernel_rfl
  co := by kernel_rfl
  gen := by kernel_rfl
  kind := by kernel_rfl
theorem ln_297_0 (c : Base) : LocName (sc_297 c) 0 "self" := ⟨rfl, by kernel_rfl, by kernel_rfl⟩
theorem so_314_6 (c : Base) : SetOk (cx c) 314 6 "spoken" := ⟨rfl, nd_314, fw_314, by kernel_rfl, by kernel_rfl, by kernel_rfl, by kernel_rfl⟩
theorem so_314_5 (c : Base) : SetOk (cx c) 314 5 "names" := ⟨rfl, nd_314, fw_314, by kernel_rfl, by kernel_rfl, by kernel_rfl, by kernel_rfl⟩
theorem so_314_1 (c : Base) : SetOk (cx c) 314 1 "total" := ⟨rfl, nd_314, fw_314, by kernel_rfl, by kernel_rfl, by kernel_rfl, by kernel_rfl⟩
theorem ln_297_2 (c : Base) : LocName (sc_297 c) 2 "total" := ⟨rfl, by kernel_rfl, by kernel_rfl⟩
theorem so_314_0 (c : Base) : SetOk (cx c) 314 0 "text" := ⟨rfl, nd_314, fw_314, by kernel_rfl, by kernel_rfl, by kernel_rfl, by kernel_rfl⟩
theorem ln_297_1 (c : Base) : LocName (sc_297 c) 1 "text" := ⟨rfl, by kernel_rfl, by kernel_rfl⟩
noncomputable def B_PatternText___init__ : SS := (seqS (asgS (asgA 314 0 (lE 0)) (lE 1))
  (seqS (asgS (asgA 314 1 (lE 0)) (lE 2))
  (seqS (asgS (asgA 314 2 (lE 0)) (cE (.int 0)))
  (seqS (asgS (asgA 314 3 (lE 0)) (cE (.int 0)))
  (seqS (asgS (asgA 314 4 (lE 0)) (cE (.int 0)))
  (seqS (asgS (asgA 314 5 (lE 0)) dictN)
  (seqS (asgS (asgA 314 6 (lE 0)) (listE esN))
  nilS)))))))
theorem S_PatternText___init__ (c : Base) : SoundB (cx c) 0 (sc_297 c) (stOf (cx c).K 297) B_PatternText___init__ := (sb_cons (s_asg (u_attr (l_name (ln_297_0 c)) (so_314_0 c)) (l_name (ln_297_1 c)) (fun _ => rfl) (fun _ => rfl) (fun _ => rfl))
  (sb_cons (s_asg (u_attr (l_name (ln_297_0 c)) (so_314_1 c)) (l_name (ln_297_2 c)) (fun _ => rfl) (fun _ => rfl) (fun _ => rfl))
  (sb_cons (s_asg (u_attr (l_name (ln_297_0 c)) (so_314_2 c)) c_int (fun _ => rfl) (fun _ => rfl) (fun _ => rfl))
  (sb_cons (s_asg (u_attr (l_name (ln_297_0 c)) (so_314_3 c)) c_int (fun _ => rfl) (fun _ => rfl) (fun _ => rfl))
  (sb_cons (s_asg (u_attr (l_name (ln_297_0 c)) (so_314_4 c)) c_int (fun _ => rfl) (fun _ => rfl) (fun _ => rfl))
  (sb_cons (s_asg (u_attr (l_name (ln_297_0 c)) (so_314_5 c)) (b_dict0) (fun _ => rfl) (fun _ => rfl) (fun _ => rfl))
  (sb_cons (s_asg (u_attr (l_name (ln_297_0 c)) (so_314_6 c)) (b_list es_nil) (fun _ => rfl) (fun _ => rfl) (fun _ => rfl))
  sb_nil)))))))
noncomputable def F_PatternText___init__ : FnG := runB [3] 3 3 [] B_PatternText___init__
theorem ok_PatternText___init__ (c : Base) : CallOk (cx c) 1 (.ref ((cx c).ga 297)) F_PatternText___init__ := fn_okK (fk_297 c) (S_PatternText___init__ c)
theorem kp_314 (c : Base) : keepIn (cx c).K (.ref ((cx c).ga 314)) = true := by kernel_rfl
theorem gv_PatternText (c : Base) : nsIn (cx c).K mainGlobals "PatternText" = some (some (.ref 314)) := by kernel_rfl
theorem gn_611_PatternText (c : Base) : GloName (cx c) (sc_611 c) "PatternText" (.ref 314) := ⟨gv_PatternText c, by kernel_rfl, by kernel_rfl⟩
theorem fn_611_PatternText (c : Base) : FnName (cx c) (sc_611 c) "PatternText" 314 := ⟨gn_611_PatternText c, kp_314 c⟩
noncomputable def B_parse_pattern : SS := (seqS (asgS (asgL 1) (clsE 314 7 F_PatternText___init__ (esC (lE 0) (esC (callE F_count_groups (esC (lE 0) esN)) esN))))
  (seqS (asgS (asgL 2) (callE F_read_alternation_2 (esC (lE 1) (esC (joinE (cE (.str [])) (compV (cE (.str [105, 109, 115, 120])) (tE (bE inV (lE 0) (ceE 0))) noE [0] 1000)) esN))))
  (seqS (ifS (tE (bE ltV (attrE 314 2 (lE 1)) (bltE lenG (esC (lE 0) esN))))
  noS
  nilS)
  (seqS (forVS (attrE 314 6 (lE 1)) (asgT [3, 4])
  (seqS (ifS (tOr (tE (hE eqL (lE 3) (listE esN))) (tOr (tE (bE ltV (bltE oneG (esC (lE 3) esN)) (cE (.int 1)))) (tOr (tE (bE gtV (bltE oneG (esC (lE 3) esN)) (attrE 314 3 (lE 1)))) (tB false))))
  noS
  nilS)
  nilS) 1000)
  (seqS (retS (tupE (esC (lE 2) (esC (attrE 314 3 (lE 1)) (esC (attrE 314 5 (lE 1)) esN)))))
  nilS)))))
theorem S_parse_pattern (c : Base) : SoundB (cx c) 15 (sc_611 c) (stOf (cx c).K 611) B_parse_pattern := (sb_cons (s_asg (u_name (ln_611_1 c)) (b_cls (fn_611_PatternText c) (mk_314 c) rfl ((ok_PatternText___init__ c).up rfl) (es_cons (l_name (ln_611_0 c)) (es_cons (b_call (fn_611_count_groups c) ((ok_count_groups c).up rfl) (es_cons (l_name (ln_611_0 c)) es_nil (fun _ => rfl)) (fun _ => ⟨rfl, rfl⟩) nilOk_cons (fun _ => rfl)) es_nil (fun _ => rfl)) (fun _ => rfl)) (fun _ => ⟨rfl, rfl⟩) nilOk_cons (fun _ => rfl)) (fun _ => rfl) (fun _ => rfl) (fun _ => rfl))
  (sb_cons (s_asg (u_name (ln_611_2 c)) (b_call (fn_611_read_alternation c) ((ok_read_alternation_2 c).up rfl) (es_cons (l_name (ln_611_1 c)) (es_cons (b_join (c_str (by kernel_rfl)) (b_compV 1000 (g_name (gn_611_FLAG_LETTERS c) (fun _ _ => (.str _ _))) (i_one (t_cmp (l_name (ln_611m0_0 c)) (ce_name (cn_611m0_0 c)) bin_in rfl)) no_e (cp_611m0 c) (by decide) (fun _ _ => rfl)) (fun _ => ⟨rfl, rfl⟩) (fun _ => rfl)) es_nil (fun _ => rfl)) (fun _ => rfl)) (fun _ => ⟨rfl, rfl⟩) nilOk_cons (fun _ => rfl)) (fun _ => rfl) (fun _ => rfl) (fun _ => rfl))
  (sb_cons (s_if (t_cmp (b_attr (l_name (ln_611_1 c)) (ao_314_2 c) (fun _ => rfl)) (b_blt (bn_611_len c) f_len (es_cons (l_name (ln_611_0 c)) es_nil (fun _ => rfl)) (fun _ => ⟨rfl, rfl⟩) (fun _ => ⟨rfl, trivial⟩) (fun _ => rfl)) bin_lt rfl)
  no_b
  sb_nil)
  (sb_cons (s_for 1000 (b_attr (l_name (ln_611_1 c)) (ao_314_6 c) (fun _ => rfl)) (u_tup (.cons (ln_611_3 c) (.cons (ln_611_4 c) .nil)))
  (sb_cons (s_if (t_bool (a_or (ht_cmp (l_name (ln_611_3 c)) (b_list es_nil) binh_eq rfl) (a_or (t_cmp (b_blt (bn_611_min c) f_min1 (es_cons (l_name (ln_611_3 c)) es_nil (fun _ => rfl)) (fun _ => ⟨rfl, rfl⟩) (fun _ => ⟨rfl, trivial⟩) (fun _ => rfl)) c_int bin_lt rfl) (a_or (t_cmp (b_blt (bn_611_max c) f_max1 (es_cons (l_name (ln_611_3 c)) es_nil (fun _ => rfl)) (fun _ => ⟨rfl, rfl⟩) (fun _ => ⟨rfl, trivial⟩) (fun _ => rfl)) (b_attr (l_name (ln_611_1 c)) (ao_314_3 c) (fun _ => rfl)) bin_gt rfl) a_orNil))))
  no_b
  sb_nil)
  sb_nil) (.inr ⟨_, _, _, rfl⟩) (fun _ _ => rfl))
  (sb_cons (s_ret (b_tup (es_cons (l_name (ln_611_2 c)) (es_cons (b_attr (l_name (ln_611_1 c)) (ao_314_3 c) (fun _ => rfl)) (es_cons (b_attr (l_name (ln_611_1 c)) (ao_314_5 c) (fun _ => rfl)) es_nil (fun _ => rfl)) (fun _ => rfl)) (fun _ => rfl))))
  sb_nil)))))
theorem fk_611 (c : Base) : FnKC (cx c) 611 ["text", "flags"] ["text", "state", "node", "numbers", "at"] ["flags"] [some 0, none, none, none, none] [some 1] where
  at_ := by kernel_rfl
  isF := ⟨by kernel_rfl, by kernel_rfl, by kernel_rfl, by kernel_rfl⟩
  code := by kernel_rfl
  bind := (one_ar (fun S ws h => by obtain ⟨w0, w1, rfl⟩ := len2 h; kernel_rfl))
  nd := by decide
  ndp := by decide
  ndc := by decide
  loc := by kernel_rfl
  nsl := by kernel_rfl
  cnl := by kernel_rfl
  cel := by kernel_rfl
  ls := by decide
  cs := by decide
  co := by kernel_rfl
  gen := by kernel_rfl
  kind := by kernel_rfl
noncomputable def F_parse_pattern : FnG := runC 2 [some 0, none, none, none, none] [some 1] B_parse_pattern
theorem ok_parse_pattern (c : Base) : CallOk (cx c) 16 (.ref ((cx c).ga 611)) F_parse_pattern := fn_okC (fk_611 c) (S_parse_pattern c) (fun _ => trivial)
theorem kp_611 (c : Base) : keepIn (cx c).K (.ref ((cx c).ga 611)) = true := by kernel_rfl
theorem gv_parse_pattern (c : Base) : nsIn (cx c).K mainGlobals "parse_pattern" = some (some (.ref 611)) := by kernel_rfl
theorem gn_618_parse_pattern (c : Base) : GloName (cx c) (sc_618 c) "parse_pattern" (.ref 611) := ⟨gv_parse_pattern c, by kernel_rfl, by kernel_rfl⟩
theorem fn_618_parse_pattern (c : Base) : FnName (cx c) (sc_618 c) "parse_pattern" 611 := ⟨gn_618_parse_pattern c, kp_611 c⟩
noncomputable def B_compile_pattern : SS := (seqS (asgS (asgT [2, 3, 4]) (callE F_parse_pattern (esC (lE 0) (esC (lE 1) esN))))
  (seqS (retS (callE F_compile_tree (esC (lE 2) (esC (lE 3) (esC (lE 4) esN)))))
  nilS))
theorem S_compile_pattern (c : Base) : SoundB (cx c) 16 (sc_618 c) (stOf (cx c).K 618) B_compile_pattern := (sb_cons (s_asg (u_tup (.cons (ln_618_2 c) (.cons (ln_618_3 c) (.cons (ln_618_4 c) .nil)))) (b_call (fn_618_parse_pattern c) ((ok_parse_pattern c).up rfl) (es_cons (l_name (ln_618_0 c)) (es_cons (l_name (ln_618_1 c)) es_nil (fun _ => rfl)) (fun _ => rfl)) (fun _ => ⟨rfl, rfl⟩) nilOk_cons (fun _ => rfl)) (fun _ => rfl) (fun _ => rfl) (fun _ => rfl))
  (sb_cons (s_ret (b_call (fn_618_compile_tree c) ((ok_compile_tree c).up rfl) (es_cons (l_name (ln_618_2 c)) (es_cons (l_name (ln_618_3 c)) (es_cons (l_name (ln_618_4 c)) es_nil (fun _ => rfl)) (fun _ => rfl)) (fun _ => rfl)) (fun _ => ⟨rfl, rfl⟩) nilOk_cons (fun _ => rfl)))
  sb_nil))
noncomputable def F_compile_pattern : FnG := runB [2] 2 5 [] B_compile_pattern
theorem ok_compile_pattern (c : Base) : CallOk (cx c) 17 (.ref ((cx c).ga 618)) F_compile_pattern := fn_okK (fk_618 c) (S_compile_pattern c)
theorem kp_618 (c : Base) : keepIn (cx c).K (.ref ((cx c).ga 618)) = true := by kernel_rfl
theorem gv_compile_pattern (c : Base) : nsIn (cx c).K mainGlobals "compile_pattern" = some (some (.ref 618)) := by kernel_rfl
theorem gn_879_compile_pattern (c : Base) : GloName (cx c) (sc_879 c) "compile_pattern" (.ref 618) := ⟨gv_compile_pattern c, by kernel_rfl, by kernel_rfl⟩
theorem fn_879_compile_pattern (c : Base) : FnName (cx c) (sc_879 c) "compile_pattern" 618 := ⟨gn_879_compile_pattern c, kp_618 c⟩
theorem ln_879_4 (c : Base) : LocName (sc_879 c) 4 "one" := ⟨rfl, by kernel_rfl, by kernel_rfl⟩
theorem ln_879_3 (c : Base) : LocName (sc_879 c) 3 "even" := ⟨rfl, by kernel_rfl, by kernel_rfl⟩
noncomputable def B_law_3 (xs : List V) : SS := (swapS [3, 4] (esC (callE F_compile_pattern (esC (cE (.str [94, 40, 49, 43, 41, 92, 49, 36])) (esC (cE (.str [])) esN))) (esC (callE F_compile_pattern (esC (cE (.str [49])) (esC (cE (.str [])) esN))) esN)))
theorem ln_879_5 (c : Base) : LocName (sc_879 c) 5 "row" := ⟨rfl, by kernel_rfl, by kernel_rfl⟩
noncomputable def B_law_4 (xs : List V) : SS := (asgS (asgL 5) (bE mulV (cE (.str [49])) (lE 2)))
theorem ln_879_6 (c : Base) : LocName (sc_879 c) 6 "more" := ⟨rfl, by kernel_rfl, by kernel_rfl⟩
noncomputable def B_law_5 (xs : List V) : SS := (defS 0 0 [0] (asgL 6))
theorem ln_879_7 (c : Base) : LocName (sc_879 c) 7 "turn" := ⟨rfl, by kernel_rfl, by kernel_rfl⟩
noncomputable def B_law_f6_0 (xs : List V) : SS := (ifS (tE (bE neV (lE 5) (bE mulV (cE (.str [49])) (lE 2))))
  noS
  nilS)
noncomputable def B_law_f6_1 (xs : List V) : SS := (ifS (tE (bE eqV (lE 2) (cE (.int 1))))
  (seqS (retS (cE (.bool true)))
  nilS)
  nilS)
theorem ln_879_9 (c : Base) : LocName (sc_879 c) 9 "count" := ⟨rfl, by kernel_rfl, by kernel_rfl⟩
theorem ln_879_8 (c : Base) : LocName (sc_879 c) 8 "halved" := ⟨rfl, by kernel_rfl, by kernel_rfl⟩
theorem mk_636 (c : Base) : MakeOk (cx c) 636 633 := ⟨by kernel_rfl, by kernel_rfl, by kernel_rfl, trivial⟩
noncomputable def sc_633 (c : Base) : Sc := ⟨(fdOf (cx c).K 633).scope, ["self", "width", "depth", "steps", "text", "items"], [], fun _ => True⟩
theorem fk_633 (c : Base) : FnK (cx c) 633 ["self", "width", "depth", "steps", "text", "items"] ["self", "width", "depth", "steps", "text", "items"] [1] [(.int 64), (.int 50), (.int 1000000), (.int 100000), (.int 10000)] where
  at_ := by kernel_rfl
  isF := ⟨by kernel_rfl, by kernel_rfl, by kernel_rfl, by kernel_rfl⟩
  code := by kernel_rfl
  bind := bindD (ds := [(.int 64 1148), (.int 50 1149), (.int 1000000 1152), (.int 100000 1155), (.int 10000 1158)]) (fun _ _ => (.cons (.int _ _) (.cons (.int _ _) (.cons (.int _ _) (.cons (.int _ _) (.cons (.int _ _) .nil)))))) (one_ar (fun S ws h => by obtain ⟨w0, rfl⟩ := len1 h; kernel_rfl))
  ars := by decide
  pre := ⟨[], rfl⟩
  nd := by decide
  loc := by kernel_rfl
  cell := by kernel_rfl
  co := by kernel_rfl
  gen := by kernel_rfl
  kind := by kernel_rfl
theorem ln_633_0 (c : Base) : LocName (sc_633 c) 0 "self" := ⟨rfl, by kernel_rfl, by kernel_rfl⟩
theorem nd_636 : (cAt 636).Nodup := by decide
theorem fw_636 : (cAt 636).length ≤ 100 := by decide
theorem so_636_4 (c : Base) : SetOk (cx c) 636 4 "items" := ⟨rfl, nd_636, fw_636, by kernel_rfl, by kernel_rfl, by kernel_rfl, by kernel_rfl⟩
theorem ln_633_5 (c : Base) : LocName (sc_633 c) 5 "items" := ⟨rfl, by kernel_rfl, by kernel_rfl⟩
theorem so_636_3 (c : Base) : SetOk (cx c) 636 3 "text" := ⟨rfl, nd_636, fw_636, by kernel_rfl, by kernel_rfl, by kernel_rfl, by kernel_rfl⟩
theorem ln_633_4 (c : Base) : LocName (sc_633 c) 4 "text" := ⟨rfl, by kernel_rfl, by kernel_rfl⟩
theorem so_636_2 (c : Base) : SetOk (cx c) 636 2 "steps" := ⟨rfl, nd_636, fw_636, by kernel_rfl, by kernel_rfl, by kernel_rfl, by kernel_rfl⟩
theorem ln_633_3 (c : Base) : LocName (sc_633 c) 3 "steps" := ⟨rfl, by kernel_rfl, by kernel_rfl⟩
theorem so_636_1 (c : Base) : SetOk (cx c) 636 1 "depth" := ⟨rfl, nd_636, fw_636, by kernel_rfl, by kernel_rfl, by kernel_rfl, by kernel_rfl⟩
theorem ln_633_2 (c : Base) : LocName (sc_633 c) 2 "depth" := ⟨rfl, by kernel_rfl, by kernel_rfl⟩
theorem so_636_0 (c : Base) : SetOk (cx c) 636 0 "width" := ⟨rfl, nd_636, fw_636, by kernel_rfl, by kernel_rfl, by kernel_rfl, by kernel_rfl⟩
theorem ln_633_1 (c : Base) : LocName (sc_633 c) 1 "width" := ⟨rfl, by kernel_rfl, by kernel_rfl⟩
noncomputable def B_Limits___init__ : SS := (seqS (asgS (asgA 636 0 (lE 0)) (lE 1))
  (seqS (asgS (asgA 636 1 (lE 0)) (lE 2))
  (seqS (asgS (asgA 636 2 (lE 0)) (lE 3))
  (seqS (asgS (asgA 636 3 (lE 0)) (lE 4))
  (seqS (asgS (asgA 636 4 (lE 0)) (lE 5))
  nilS)))))
theorem S_Limits___init__ (c : Base) : SoundB (cx c) 0 (sc_633 c) (stOf (cx c).K 633) B_Limits___init__ := (sb_cons (s_asg (u_attr (l_name (ln_633_0 c)) (so_636_0 c)) (l_name (ln_633_1 c)) (fun _ => rfl) (fun _ => rfl) (fun _ => rfl))
  (sb_cons (s_asg (u_attr (l_name (ln_633_0 c)) (so_636_1 c)) (l_name (ln_633_2 c)) (fun _ => rfl) (fun _ => rfl) (fun _ => rfl))
  (sb_cons (s_asg (u_attr (l_name (ln_633_0 c)) (so_636_2 c)) (l_name (ln_633_3 c)) (fun _ => rfl) (fun _ => rfl) (fun _ => rfl))
  (sb_cons (s_asg (u_attr (l_name (ln_633_0 c)) (so_636_3 c)) (l_name (ln_633_4 c)) (fun _ => rfl) (fun _ => rfl) (fun _ => rfl))
  (sb_cons (s_asg (u_attr (l_name (ln_633_0 c)) (so_636_4 c)) (l_name (ln_633_5 c)) (fun _ => rfl) (fun _ => rfl) (fun _ => rfl))
  sb_nil)))))
noncomputable def F_Limits___init__ : FnG := runB [1] 6 6 [(.int 64), (.int 50), (.int 1000000), (.int 100000), (.int 10000)] B_Limits___init__
theorem ok_Limits___init__ (c : Base) : CallOk (cx c) 1 (.ref ((cx c).ga 633)) F_Limits___init__ := fn_okK (fk_633 c) (S_Limits___init__ c)
theorem kp_636 (c : Base) : keepIn (cx c).K (.ref ((cx c).ga 636)) = true := by kernel_rfl
theorem gv_Limits (c : Base) : nsIn (cx c).K mainGlobals "Limits" = some (some (.ref 636)) := by kernel_rfl
theorem gn_879_Limits (c : Base) : GloName (cx c) (sc_879 c) "Limits" (.ref 636) := ⟨gv_Limits c, by kernel_rfl, by kernel_rfl⟩
theorem fn_879_Limits (c : Base) : FnName (cx c) (sc_879 c) "Limits" 636 := ⟨gn_879_Limits c, kp_636 c⟩
theorem gv__law_group (c : Base) : nsIn (cx c).K mainGlobals "_law_group" = some (some (.ref 872)) := by kernel_rfl
theorem gn_879__law_group (c : Base) : GloName (cx c) (sc_879 c) "_law_group" (.ref 872) := ⟨gv__law_group c, by kernel_rfl, by kernel_rfl⟩
noncomputable def sc_865 (c : Base) : Sc := ⟨(fdOf (cx c).K 865).scope, ["program", "text", "replace", "is_global", "limits", "begin", "parts", "done", "count", "spent", "groups", "first", "end"], [], fun _ => True⟩
theorem fk_865 (c : Base) : FnK (cx c) 865 ["program", "text", "replace", "is_global", "limits", "begin"] ["program", "text", "replace", "is_global", "limits", "begin", "parts", "done", "count", "spent", "groups", "first", "end"] [5] [.none] where
  at_ := by kernel_rfl
  isF := ⟨by kernel_rfl, by kernel_rfl, by kernel_rfl, by kernel_rfl⟩
  code := by kernel_rfl
  bind := bindD (ds := [.none]) (fun _ _ => (.cons .none .nil)) (one_ar (fun S ws h => by obtain ⟨w0, w1, w2, w3, w4, rfl⟩ := len5 h; kernel_rfl))
  ars := by decide
  pre := ⟨["parts", "done", "count", "spent", "groups", "first", "end"], rfl⟩
  nd := by decide
  loc := by kernel_rfl
  cell := by kernel_rfl
  co := by kernel_rfl
  gen := by kernel_rfl
  kind := by kernel_rfl
theorem ln_865_8 (c : Base) : LocName (sc_865 c) 8 "count" := ⟨rfl, by kernel_rfl, by kernel_rfl⟩
theorem ln_865_6 (c : Base) : LocName (sc_865 c) 6 "parts" := ⟨rfl, by kernel_rfl, by kernel_rfl⟩
theorem ln_865_1 (c : Base) : LocName (sc_865 c) 1 "text" := ⟨rfl, by kernel_rfl, by kernel_rfl⟩
theorem ln_865_7 (c : Base) : LocName (sc_865 c) 7 "done" := ⟨rfl, by kernel_rfl, by kernel_rfl⟩
theorem ln_865_10 (c : Base) : LocName (sc_865 c) 10 "groups" := ⟨rfl, by kernel_rfl, by kernel_rfl⟩
theorem ln_865_9 (c : Base) : LocName (sc_865 c) 9 "spent" := ⟨rfl, by kernel_rfl, by kernel_rfl⟩
theorem ln_865_4 (c : Base) : LocName (sc_865 c) 4 "limits" := ⟨rfl, by kernel_rfl, by kernel_rfl⟩
theorem ln_865_11 (c : Base) : LocName (sc_865 c) 11 "first" := ⟨rfl, by kernel_rfl, by kernel_rfl⟩
theorem ln_865_12 (c : Base) : LocName (sc_865 c) 12 "end" := ⟨rfl, by kernel_rfl, by kernel_rfl⟩
theorem ln_865_0 (c : Base) : LocName (sc_865 c) 0 "program" := ⟨rfl, by kernel_rfl, by kernel_rfl⟩
noncomputable def sc_857 (c : Base) : Sc := ⟨(fdOf (cx c).K 857).scope, ["program", "text", "at", "was_empty", "limits", "begin", "spent"], [], fun _ => True⟩
theorem fk_857 (c : Base) : FnK (cx c) 857 ["program", "text", "at", "was_empty", "limits", "begin", "spent"] ["program", "text", "at", "was_empty", "limits", "begin", "spent"] [7] [] where
  at_ := by kernel_rfl
  isF := ⟨by kernel_rfl, by kernel_rfl, by kernel_rfl, by kernel_rfl⟩
  code := by kernel_rfl
  bind := bindD (ds := []) (fun _ _ => .nil) (one_ar (fun S ws h => by obtain ⟨w0, w1, w2, w3, w4, w5, w6, rfl⟩ := len7 h; kernel_rfl))
  ars := by decide
  pre := ⟨[], rfl⟩
  nd := by decide
  loc := by kernel_rfl
  cell := by kernel_rfl
  co := by kernel_rfl
  gen := by kernel_rfl
  kind := by kernel_rfl
theorem ln_857_6 (c : Base) : LocName (sc_857 c) 6 "spent" := ⟨rfl, by kernel_rfl, by kernel_rfl⟩
theorem ln_857_5 (c : Base) : LocName (sc_857 c) 5 "begin" := ⟨rfl, by kernel_rfl, by kernel_rfl⟩
theorem ln_857_3 (c : Base) : LocName (sc_857 c) 3 "was_empty" := ⟨rfl, by kernel_rfl, by kernel_rfl⟩
theorem ln_857_4 (c : Base) : LocName (sc_857 c) 4 "limits" := ⟨rfl, by kernel_rfl, by kernel_rfl⟩
theorem ln_857_2 (c : Base) : LocName (sc_857 c) 2 "at" := ⟨rfl, by kernel_rfl, by kernel_rfl⟩
theorem ln_857_1 (c : Base) : LocName (sc_857 c) 1 "text" := ⟨rfl, by kernel_rfl, by kernel_rfl⟩
theorem ln_857_0 (c : Base) : LocName (sc_857 c) 0 "program" := ⟨rfl, by kernel_rfl, by kernel_rfl⟩
noncomputable def sc_849 (c : Base) : Sc := ⟨(fdOf (cx c).K 849).scope, ["program", "text", "at", "limits", "least_end", "begin", "spent", "run", "words", "start"], [], fun _ => True⟩
theorem fk_849 (c : Base) : FnK (cx c) 849 ["program", "text", "at", "limits", "least_end", "begin", "spent"] ["program", "text", "at", "limits", "least_end", "begin", "spent", "run", "words", "start"] [7] [.none, .none] where
  at_ := by kernel_rfl
  isF := ⟨by kernel_rfl, by kernel_rfl, by kernel_rfl, by kernel_rfl⟩
  code := by kernel_rfl
  bind := bindD (ds := [.none, .none]) (fun _ _ => (.cons .none (.cons .none .nil))) (one_ar (fun S ws h => by obtain ⟨w0, w1, w2, w3, w4, w5, w6, rfl⟩ := len7 h; kernel_rfl))
  ars := by decide
  pre := ⟨["run", "words", "start"], rfl⟩
  nd := by decide
  loc := by kernel_rfl
  cell := by kernel_rfl
  co := by kernel_rfl
  gen := by kernel_rfl
  kind := by kernel_rfl
theorem ln_849_9 (c : Base) : LocName (sc_849 c) 9 "start" := ⟨rfl, by kernel_rfl, by kernel_rfl⟩
theorem ln_849_1 (c : Base) : LocName (sc_849 c) 1 "text" := ⟨rfl, by kernel_rfl, by kernel_rfl⟩
theorem bn_849_len (c : Base) : BltName (cx c) (sc_849 c) "len" (.builtin "len") := ⟨gz_len c, by kernel_rfl, by decide, by kernel_rfl, by kernel_rfl⟩
theorem ln_849_7 (c : Base) : LocName (sc_849 c) 7 "run" := ⟨rfl, by kernel_rfl, by kernel_rfl⟩
theorem ao_657_8 (c : Base) : AttrOk (cx c) 657 8 "groups" := ⟨rfl, by kernel_rfl, by kernel_rfl, by kernel_rfl⟩
theorem ln_849_6 (c : Base) : LocName (sc_849 c) 6 "spent" := ⟨rfl, by kernel_rfl, by kernel_rfl⟩
theorem ao_657_5 (c : Base) : AttrOk (cx c) 657 5 "steps" := ⟨rfl, by kernel_rfl, by kernel_rfl, by kernel_rfl⟩
theorem ln_849_8 (c : Base) : LocName (sc_849 c) 8 "words" := ⟨rfl, by kernel_rfl, by kernel_rfl⟩
noncomputable def sc_841 (c : Base) : Sc := ⟨(fdOf (cx c).K 841).scope, ["run", "words", "start", "row", "is_right"], [], fun _ => True⟩
theorem fk_841 (c : Base) : FnK (cx c) 841 ["run", "words", "start"] ["run", "words", "start", "row", "is_right"] [3] [] where
  at_ := by kernel_rfl
  isF := ⟨by kernel_rfl, by kernel_rfl, by kernel_rfl, by kernel_rfl⟩
  code := by kernel_rfl
  bind := bindD (ds := []) (fun _ _ => .nil) (one_ar (fun S ws h => by obtain ⟨w0, w1, w2, rfl⟩ := len3 h; kernel_rfl))
  ars := by decide
  pre := ⟨["row", "is_right"], rfl⟩
  nd := by decide
  loc := by kernel_rfl
  cell := by kernel_rfl
  co := by kernel_rfl
  gen := by kernel_rfl
  kind := by kernel_rfl
theorem ln_841_0 (c : Base) : LocName (sc_841 c) 0 "run" := ⟨rfl, by kernel_rfl, by kernel_rfl⟩
noncomputable def sc_834 (c : Base) : Sc := ⟨(fdOf (cx c).K 834).scope, ["run", "entry"], [], fun _ => True⟩
theorem fk_834 (c : Base) : FnK (cx c) 834 ["run"] ["run", "entry"] [1] [] where
  at_ := by kernel_rfl
  isF := ⟨by kernel_rfl, by kernel_rfl, by kernel_rfl, by kernel_rfl⟩
  code := by kernel_rfl
  bind := bindD (ds := []) (fun _ _ => .nil) (one_ar (fun S ws h => by obtain ⟨w0, rfl⟩ := len1 h; kernel_rfl))
  ars := by decide
  pre := ⟨["entry"], rfl⟩
  nd := by decide
  loc := by kernel_rfl
  cell := by kernel_rfl
  co := by kernel_rfl
  gen := by kernel_rfl
  kind := by kernel_rfl
theorem ln_834_0 (c : Base) : LocName (sc_834 c) 0 "run" := ⟨rfl, by kernel_rfl, by kernel_rfl⟩
theorem ao_657_10 (c : Base) : AttrOk (cx c) 657 10 "pile" := ⟨rfl, by kernel_rfl, by kernel_rfl, by kernel_rfl⟩
theorem ln_834_1 (c : Base) : LocName (sc_834 c) 1 "entry" := ⟨rfl, by kernel_rfl, by kernel_rfl⟩
noncomputable def sc_785 (c : Base) : Sc := ⟨(fdOf (cx c).K 785).scope, ["run", "entry"], [], fun _ => True⟩
theorem fk_785 (c : Base) : FnK (cx c) 785 ["run", "entry"] ["run", "entry"] [2] [] where
  at_ := by kernel_rfl
  isF := ⟨by kernel_rfl, by kernel_rfl, by kernel_rfl, by kernel_rfl⟩
  code := by kernel_rfl
  bind := bindD (ds := []) (fun _ _ => .nil) (one_ar (fun S ws h => by obtain ⟨w0, w1, rfl⟩ := len2 h; kernel_rfl))
  ars := by decide
  pre := ⟨[], rfl⟩
  nd := by decide
  loc := by kernel_rfl
  cell := by kernel_rfl
  co := by kernel_rfl
  gen := by kernel_rfl
  kind := by kernel_rfl
theorem ln_785_1 (c : Base) : LocName (sc_785 c) 1 "entry" := ⟨rfl, by kernel_rfl, by kernel_rfl⟩
theorem ln_785_0 (c : Base) : LocName (sc_785 c) 0 "run" := ⟨rfl, by kernel_rfl, by kernel_rfl⟩
theorem ao_657_9 (c : Base) : AttrOk (cx c) 657 9 "registers" := ⟨rfl, by kernel_rfl, by kernel_rfl, by kernel_rfl⟩
noncomputable def B_undo_entry : SS := (seqS (ifS (tE (bE eqV (subE (lE 1) (cE (.int 0))) (cE (.str [103, 114, 111, 117, 112]))))
  (seqS (asgS (asgI (attrE 657 8 (lE 0)) (subE (lE 1) (cE (.int 1)))) (subE (lE 1) (cE (.int 2))))
  nilS)
  (seqS (ifS (tE (bE eqV (subE (lE 1) (cE (.int 0))) (cE (.str [114, 101, 103, 105, 115, 116, 101, 114]))))
  (seqS (asgS (asgI (attrE 657 9 (lE 0)) (subE (lE 1) (cE (.int 1)))) (subE (lE 1) (cE (.int 2))))
  nilS)
  nilS)
  nilS))
  nilS)
theorem S_undo_entry (c : Base) : SoundB (cx c) 0 (sc_785 c) (stOf (cx c).K 785) B_undo_entry := (sb_cons (s_if (t_cmp (b_sub (l_name (ln_785_1 c)) c_int (fun _ _ => rfl)) (c_str (by kernel_rfl)) bin_eq rfl)
  (sb_cons (s_asg (u_item (b_attr (l_name (ln_785_0 c)) (ao_657_8 c) (fun _ => rfl)) (b_sub (l_name (ln_785_1 c)) c_int (fun _ _ => rfl))) (b_sub (l_name (ln_785_1 c)) c_int (fun _ _ => rfl)) (fun _ => rfl) (fun _ => rfl) (fun _ => rfl))
  sb_nil)
  (sb_cons (s_if (t_cmp (b_sub (l_name (ln_785_1 c)) c_int (fun _ _ => rfl)) (c_str (by kernel_rfl)) bin_eq rfl)
  (sb_cons (s_asg (u_item (b_attr (l_name (ln_785_0 c)) (ao_657_9 c) (fun _ => rfl)) (b_sub (l_name (ln_785_1 c)) c_int (fun _ _ => rfl))) (b_sub (l_name (ln_785_1 c)) c_int (fun _ _ => rfl)) (fun _ => rfl) (fun _ => rfl) (fun _ => rfl))
  sb_nil)
  sb_nil)
  sb_nil))
  sb_nil)
noncomputable def F_undo_entry : FnG := runB [2] 2 2 [] B_undo_entry
theorem ok_undo_entry (c : Base) : CallOk (cx c) 1 (.ref ((cx c).ga 785)) F_undo_entry := fn_okK (fk_785 c) (S_undo_entry c)
theorem kp_785 (c : Base) : keepIn (cx c).K (.ref ((cx c).ga 785)) = true := by kernel_rfl
theorem gv_undo_entry (c : Base) : nsIn (cx c).K mainGlobals "undo_entry" = some (some (.ref 785)) := by kernel_rfl
theorem gn_834_undo_entry (c : Base) : GloName (cx c) (sc_834 c) "undo_entry" (.ref 785) := ⟨gv_undo_entry c, by kernel_rfl, by kernel_rfl⟩
theorem fn_834_undo_entry (c : Base) : FnName (cx c) (sc_834 c) "undo_entry" 785 := ⟨gn_834_undo_entry c, kp_785 c⟩
theorem ao_657_6 (c : Base) : AttrOk (cx c) 657 6 "at" := ⟨rfl, by kernel_rfl, by kernel_rfl, by kernel_rfl⟩
theorem nd_657 : (cAt 657).Nodup := by decide
theorem fw_657 : (cAt 657).length ≤ 100 := by decide
theorem so_657_6 (c : Base) : SetOk (cx c) 657 6 "at" := ⟨rfl, nd_657, fw_657, by kernel_rfl, by kernel_rfl, by kernel_rfl, by kernel_rfl⟩
theorem so_657_7 (c : Base) : SetOk (cx c) 657 7 "row" := ⟨rfl, nd_657, fw_657, by kernel_rfl, by kernel_rfl, by kernel_rfl, by kernel_rfl⟩
noncomputable def B_back_up : SS := (seqS (whileS (tE (hE neL (attrE 657 10 (lE 0)) (listE esN)))
  (seqS (asgS (asgL 1) (popE (attrE 657 10 (lE 0))))
  (seqS (ifS (tE (bE eqV (subE (lE 1) (cE (.int 0))) (cE (.str [116, 114, 121]))))
  noS
  nilS)
  (seqS (ifS (tE (bE eqV (subE (lE 1) (cE (.int 0))) (cE (.str [108, 101, 115, 115]))))
  (seqS (asgS (asgA 657 7 (lE 0)) (subE (lE 1) (cE (.int 1))))
  (seqS (asgS (asgA 657 6 (lE 0)) (bE subV (subE (lE 1) (cE (.int 3))) (cE (.int 1))))
  (seqS (ifS (tE (bE gtV (attrE 657 6 (lE 0)) (subE (lE 1) (cE (.int 2)))))
  (seqS (exprS (appendE (attrE 657 10 (lE 0)) (tupE (esC (cE (.str [108, 101, 115, 115])) (esC (subE (lE 1) (cE (.int 1))) (esC (subE (lE 1) (cE (.int 2))) (esC (attrE 657 6 (lE 0)) esN)))))))
  nilS)
  nilS)
  (seqS (retS (cE (.bool true)))
  nilS))))
  nilS)
  (seqS (ifS (tE (bE eqV (subE (lE 1) (cE (.int 0))) (cE (.str [109, 111, 114, 101]))))
  noS
  (seqS (exprS (callE F_undo_entry (esC (lE 0) (esC (lE 1) esN))))
  nilS))
  nilS)))) 1000)
  (seqS (retS (cE (.bool false)))
  nilS))
theorem S_back_up (c : Base) : SoundB (cx c) 1 (sc_834 c) (stOf (cx c).K 834) B_back_up := (sb_cons (s_while 1000 (ht_cmp (b_attr (l_name (ln_834_0 c)) (ao_657_10 c) (fun _ => rfl)) (b_list es_nil) binh_ne rfl)
  (sb_cons (s_asg (u_name (ln_834_1 c)) (b_pop (b_attr (l_name (ln_834_0 c)) (ao_657_10 c) (fun _ => rfl)) (fun _ => rfl)) (fun _ => rfl) (fun _ => rfl) (fun _ => rfl))
  (sb_cons (s_if (t_cmp (b_sub (l_name (ln_834_1 c)) c_int (fun _ _ => rfl)) (c_str (by kernel_rfl)) bin_eq rfl)
  no_b
  sb_nil)
  (sb_cons (s_if (t_cmp (b_sub (l_name (ln_834_1 c)) c_int (fun _ _ => rfl)) (c_str (by kernel_rfl)) bin_eq rfl)
  (sb_cons (s_asg (u_attr (l_name (ln_834_0 c)) (so_657_7 c)) (b_sub (l_name (ln_834_1 c)) c_int (fun _ _ => rfl)) (fun _ => rfl) (fun _ => rfl) (fun _ => rfl))
  (sb_cons (s_asg (u_attr (l_name (ln_834_0 c)) (so_657_6 c)) (b_op (b_sub (l_name (ln_834_1 c)) c_int (fun _ _ => rfl)) c_int bin_sub) (fun _ => rfl) (fun _ => rfl) (fun _ => rfl))
  (sb_cons (s_if (t_cmp (b_attr (l_name (ln_834_0 c)) (ao_657_6 c) (fun _ => rfl)) (b_sub (l_name (ln_834_1 c)) c_int (fun _ _ => rfl)) bin_gt rfl)
  (sb_cons (s_expr (b_append (b_attr (l_name (ln_834_0 c)) (ao_657_10 c) (fun _ => rfl)) (b_tup (es_cons (c_str (by kernel_rfl)) (es_cons (b_sub (l_name (ln_834_1 c)) c_int (fun _ _ => rfl)) (es_cons (b_sub (l_name (ln_834_1 c)) c_int (fun _ _ => rfl)) (es_cons (b_attr (l_name (ln_834_0 c)) (ao_657_6 c) (fun _ => rfl)) es_nil (fun _ => rfl)) (fun _ => rfl)) (fun _ => rfl)) (fun _ => rfl))) (fun _ => ⟨rfl, rfl⟩) (fun _ => rfl)) (fun _ => rfl))
  sb_nil)
  sb_nil)
  (sb_cons (s_ret c_bool)
  sb_nil))))
  sb_nil)
  (sb_cons (s_if (t_cmp (b_sub (l_name (ln_834_1 c)) c_int (fun _ _ => rfl)) (c_str (by kernel_rfl)) bin_eq rfl)
  no_b
  (sb_cons (s_expr (b_call (fn_834_undo_entry c) ((ok_undo_entry c).up rfl) (es_cons (l_name (ln_834_0 c)) (es_cons (l_name (ln_834_1 c)) es_nil (fun _ => rfl)) (fun _ => rfl)) (fun _ => ⟨rfl, rfl⟩) nilOk_cons (fun _ => rfl)) (fun _ => rfl))
  sb_nil))
  sb_nil)))))
  (sb_cons (s_ret c_bool)
  sb_nil))
noncomputable def F_back_up : FnG := runB [1] 1 2 [] B_back_up
theorem ok_back_up (c : Base) : CallOk (cx c) 2 (.ref ((cx c).ga 834)) F_back_up := fn_okK (fk_834 c) (S_back_up c)
theorem kp_834 (c : Base) : keepIn (cx c).K (.ref ((cx c).ga 834)) = true := by kernel_rfl
theorem gv_back_up (c : Base) : nsIn (cx c).K mainGlobals "back_up" = some (some (.ref 834)) := by kernel_rfl
theorem gn_841_back_up (c : Base) : GloName (cx c) (sc_841 c) "back_up" (.ref 834) := ⟨gv_back_up c, by kernel_rfl, by kernel_rfl⟩
theorem fn_841_back_up (c : Base) : FnName (cx c) (sc_841 c) "back_up" 834 := ⟨gn_841_back_up c, kp_834 c⟩
theorem ln_841_4 (c : Base) : LocName (sc_841 c) 4 "is_right" := ⟨rfl, by kernel_rfl, by kernel_rfl⟩
theorem ln_841_3 (c : Base) : LocName (sc_841 c) 3 "row" := ⟨rfl, by kernel_rfl, by kernel_rfl⟩
theorem ln_841_2 (c : Base) : LocName (sc_841 c) 2 "start" := ⟨rfl, by kernel_rfl, by kernel_rfl⟩
theorem ao_657_3 (c : Base) : AttrOk (cx c) 657 3 "least_end" := ⟨rfl, by kernel_rfl, by kernel_rfl, by kernel_rfl⟩
theorem ln_841_1 (c : Base) : LocName (sc_841 c) 1 "words" := ⟨rfl, by kernel_rfl, by kernel_rfl⟩
noncomputable def sc_682 (c : Base) : Sc := ⟨(fdOf (cx c).K 682).scope, ["run", "row"], [], fun _ => True⟩
theorem fk_682 (c : Base) : FnK (cx c) 682 ["run", "row"] ["run", "row"] [2] [] where
  at_ := by kernel_rfl
  isF := ⟨by kernel_rfl, by kernel_rfl, by kernel_rfl, by kernel_rfl⟩
  code := by kernel_rfl
  bind := bindD (ds := []) (fun _ _ => .nil) (one_ar (fun S ws h => by obtain ⟨w0, w1, rfl⟩ := len2 h; kernel_rfl))
  ars := by decide
  pre := ⟨[], rfl⟩
  nd := by decide
  loc := by kernel_rfl
  cell := by kernel_rfl
  co := by kernel_rfl
  gen := by kernel_rfl
  kind := by kernel_rfl
theorem ln_682_0 (c : Base) : LocName (sc_682 c) 0 "run" := ⟨rfl, by kernel_rfl, by kernel_rfl⟩
noncomputable def sc_675 (c : Base) : Sc := ⟨(fdOf (cx c).K 675).scope, ["run"], [], fun _ => True⟩
theorem fk_675 (c : Base) : FnK (cx c) 675 ["run"] ["run"] [1] [] where
  at_ := by kernel_rfl
  isF := ⟨by kernel_rfl, by kernel_rfl, by kernel_rfl, by kernel_rfl⟩
  code := by kernel_rfl
  bind := bindD (ds := []) (fun _ _ => .nil) (one_ar (fun S ws h => by obtain ⟨w0, rfl⟩ := len1 h; kernel_rfl))
  ars := by decide
  pre := ⟨[], rfl⟩
  nd := by decide
  loc := by kernel_rfl
  cell := by kernel_rfl
  co := by kernel_rfl
  gen := by kernel_rfl
  kind := by kernel_rfl
theorem ln_675_0 (c : Base) : LocName (sc_675 c) 0 "run" := ⟨rfl, by kernel_rfl, by kernel_rfl⟩
theorem ao_657_7 (c : Base) : AttrOk (cx c) 657 7 "row" := ⟨rfl, by kernel_rfl, by kernel_rfl, by kernel_rfl⟩
noncomputable def B_go_on : SS := (seqS (augA 657 7 iaddV (lE 0) (cE (.int 1)))
  (seqS (retS (cE (.bool true)))
  nilS))
theorem S_go_on (c : Base) : SoundB (cx c) 0 (sc_675 c) (stOf (cx c).K 675) B_go_on := (sb_cons (s_augA (l_name (ln_675_0 c)) (ao_657_7 c) (so_657_7 c) c_int bin_iadd)
  (sb_cons (s_ret c_bool)
  sb_nil))
noncomputable def F_go_on : FnG := runB [1] 1 1 [] B_go_on
theorem ok_go_on (c : Base) : CallOk (cx c) 1 (.ref ((cx c).ga 675)) F_go_on := fn_okK (fk_675 c) (S_go_on c)
theorem kp_675 (c : Base) : keepIn (cx c).K (.ref ((cx c).ga 675)) = true := by kernel_rfl
theorem gv_go_on (c : Base) : nsIn (cx c).K mainGlobals "go_on" = some (some (.ref 675)) := by kernel_rfl
theorem gn_682_go_on (c : Base) : GloName (cx c) (sc_682 c) "go_on" (.ref 675) := ⟨gv_go_on c, by kernel_rfl, by kernel_rfl⟩
theorem fn_682_go_on (c : Base) : FnName (cx c) (sc_682 c) "go_on" 675 := ⟨gn_682_go_on c, kp_675 c⟩
theorem ao_657_1 (c : Base) : AttrOk (cx c) 657 1 "text" := ⟨rfl, by kernel_rfl, by kernel_rfl, by kernel_rfl⟩
theorem ln_682_1 (c : Base) : LocName (sc_682 c) 1 "row" := ⟨rfl, by kernel_rfl, by kernel_rfl⟩
noncomputable def sc_282 (c : Base) : Sc := ⟨(fdOf (cx c).K 282).scope, ["test", "sign"], [], fun _ => True⟩
theorem fk_282 (c : Base) : FnK (cx c) 282 ["test", "sign"] ["test", "sign"] [2] [] where
  at_ := by kernel_rfl
  isF := ⟨by kernel_rfl, by kernel_rfl, by kernel_rfl, by kernel_rfl⟩
  code := by kernel_rfl
  bind := bindD (ds := []) (fun _ _ => .nil) (one_ar (fun S ws h => by obtain ⟨w0, w1, rfl⟩ := len2 h; kernel_rfl))
  ars := by decide
  pre := ⟨[], rfl⟩
  nd := by decide
  loc := by kernel_rfl
  cell := by kernel_rfl
  co := by kernel_rfl
  gen := by kernel_rfl
  kind := by kernel_rfl
theorem ln_282_0 (c : Base) : LocName (sc_282 c) 0 "test" := ⟨rfl, by kernel_rfl, by kernel_rfl⟩
theorem ln_282_1 (c : Base) : LocName (sc_282 c) 1 "sign" := ⟨rfl, by kernel_rfl, by kernel_rfl⟩
noncomputable def sc_249 (c : Base) : Sc := ⟨(fdOf (cx c).K 249).scope, ["one", "other", "is_folded"], [], fun _ => True⟩
theorem fk_249 (c : Base) : FnK (cx c) 249 ["one", "other", "is_folded"] ["one", "other", "is_folded"] [3] [] where
  at_ := by kernel_rfl
  isF := ⟨by kernel_rfl, by kernel_rfl, by kernel_rfl, by kernel_rfl⟩
  code := by kernel_rfl
  bind := bindD (ds := []) (fun _ _ => .nil) (one_ar (fun S ws h => by obtain ⟨w0, w1, w2, rfl⟩ := len3 h; kernel_rfl))
  ars := by decide
  pre := ⟨[], rfl⟩
  nd := by decide
  loc := by kernel_rfl
  cell := by kernel_rfl
  co := by kernel_rfl
  gen := by kernel_rfl
  kind := by kernel_rfl
theorem ln_249_0 (c : Base) : LocName (sc_249 c) 0 "one" := ⟨rfl, by kernel_rfl, by kernel_rfl⟩
theorem ln_249_1 (c : Base) : LocName (sc_249 c) 1 "other" := ⟨rfl, by kernel_rfl, by kernel_rfl⟩
noncomputable def B_same_sign : SS := (seqS (retS (vOr (bE eqV (lE 0) (lE 1)) noE))
  nilS)
theorem S_same_sign (c : Base) : SoundB (cx c) 0 (sc_249 c) (stOf (cx c).K 249) B_same_sign := (sb_cons (s_ret (b_bool (o_or (b_cmp (l_name (ln_249_0 c)) (l_name (ln_249_1 c)) bin_eq rfl) (o_one no_e))))
  sb_nil)
noncomputable def F_same_sign : FnG := runB [3] 3 3 [] B_same_sign
theorem ok_same_sign (c : Base) : CallOk (cx c) 1 (.ref ((cx c).ga 249)) F_same_sign := fn_okK (fk_249 c) (S_same_sign c)
theorem kp_249 (c : Base) : keepIn (cx c).K (.ref ((cx c).ga 249)) = true := by kernel_rfl
theorem gv_same_sign (c : Base) : nsIn (cx c).K mainGlobals "same_sign" = some (some (.ref 249)) := by kernel_rfl
theorem gn_282_same_sign (c : Base) : GloName (cx c) (sc_282 c) "same_sign" (.ref 249) := ⟨gv_same_sign c, by kernel_rfl, by kernel_rfl⟩
theorem fn_282_same_sign (c : Base) : FnName (cx c) (sc_282 c) "same_sign" 249 := ⟨gn_282_same_sign c, kp_249 c⟩
noncomputable def B_sign_fits : SS := (seqS (ifS (tE (bE eqV (subE (lE 0) (cE (.int 0))) (cE (.str [115, 105, 103, 110]))))
  (seqS (retS (callE F_same_sign (esC (lE 1) (esC (subE (lE 0) (cE (.int 1))) (esC (subE (lE 0) (cE (.int 2))) esN)))))
  nilS)
  nilS)
  noS)
theorem S_sign_fits (c : Base) : SoundB (cx c) 1 (sc_282 c) (stOf (cx c).K 282) B_sign_fits := (sb_cons (s_if (t_cmp (b_sub (l_name (ln_282_0 c)) c_int (fun _ _ => rfl)) (c_str (by kernel_rfl)) bin_eq rfl)
  (sb_cons (s_ret (b_call (fn_282_same_sign c) ((ok_same_sign c).up rfl) (es_cons (l_name (ln_282_1 c)) (es_cons (b_sub (l_name (ln_282_0 c)) c_int (fun _ _ => rfl)) (es_cons (b_sub (l_name (ln_282_0 c)) c_int (fun _ _ => rfl)) es_nil (fun _ => rfl)) (fun _ => rfl)) (fun _ => rfl)) (fun _ => ⟨rfl, rfl⟩) nilOk_cons (fun _ => rfl)))
  sb_nil)
  sb_nil)
  no_b)
noncomputable def F_sign_fits : FnG := runB [2] 2 2 [] B_sign_fits
theorem ok_sign_fits (c : Base) : CallOk (cx c) 2 (.ref ((cx c).ga 282)) F_sign_fits := fn_okK (fk_282 c) (S_sign_fits c)
theorem kp_282 (c : Base) : keepIn (cx c).K (.ref ((cx c).ga 282)) = true := by kernel_rfl
theorem gv_sign_fits (c : Base) : nsIn (cx c).K mainGlobals "sign_fits" = some (some (.ref 282)) := by kernel_rfl
theorem gn_682_sign_fits (c : Base) : GloName (cx c) (sc_682 c) "sign_fits" (.ref 282) := ⟨gv_sign_fits c, by kernel_rfl, by kernel_rfl⟩
theorem fn_682_sign_fits (c : Base) : FnName (cx c) (sc_682 c) "sign_fits" 282 := ⟨gn_682_sign_fits c, kp_282 c⟩
theorem bn_682_len (c : Base) : BltName (cx c) (sc_682 c) "len" (.builtin "len") := ⟨gz_len c, by kernel_rfl, by decide, by kernel_rfl, by kernel_rfl⟩
noncomputable def B_row_test : SS := (seqS (ifS (tOr (tE (bE geV (attrE 657 6 (lE 0)) (bltE lenG (esC (attrE 657 1 (lE 0)) esN)))) (tOr (tN (tE (callE F_sign_fits (esC (lE 1) (esC (subE (attrE 657 1 (lE 0)) (attrE 657 6 (lE 0))) esN))))) (tB false)))
  (seqS (retS (cE (.bool false)))
  nilS)
  nilS)
  (seqS (augA 657 6 iaddV (lE 0) (cE (.int 1)))
  (seqS (retS (callE F_go_on (esC (lE 0) esN)))
  nilS)))
theorem S_row_test (c : Base) : SoundB (cx c) 2 (sc_682 c) (stOf (cx c).K 682) B_row_test := (sb_cons (s_if (t_bool (a_or (t_cmp (b_attr (l_name (ln_682_0 c)) (ao_657_6 c) (fun _ => rfl)) (b_blt (bn_682_len c) f_len (es_cons (b_attr (l_name (ln_682_0 c)) (ao_657_1 c) (fun _ => rfl)) es_nil (fun _ => rfl)) (fun _ => ⟨rfl, rfl⟩) (fun _ => ⟨rfl, trivial⟩) (fun _ => rfl)) bin_ge rfl) (a_or (t_not (t_val (b_call (fn_682_sign_fits c) ((ok_sign_fits c).up rfl) (es_cons (l_name (ln_682_1 c)) (es_cons (b_sub (b_attr (l_name (ln_682_0 c)) (ao_657_1 c) (fun _ => rfl)) (b_attr (l_name (ln_682_0 c)) (ao_657_6 c) (fun _ => rfl)) (fun _ _ => rfl)) es_nil (fun _ => rfl)) (fun _ => rfl)) (fun _ => ⟨rfl, rfl⟩) nilOk_cons (fun _ => rfl)) (fun _ _ => rfl))) a_orNil)))
  (sb_cons (s_ret c_bool)
  sb_nil)
  sb_nil)
  (sb_cons (s_augA (l_name (ln_682_0 c)) (ao_657_6 c) (so_657_6 c) c_int bin_iadd)
  (sb_cons (s_ret (b_call (fn_682_go_on c) ((ok_go_on c).up rfl) (es_cons (l_name (ln_682_0 c)) es_nil (fun _ => rfl)) (fun _ => ⟨rfl, rfl⟩) nilOk_cons (fun _ => rfl)))
  sb_nil)))
noncomputable def F_row_test : FnG := runB [2] 2 2 [] B_row_test
theorem ok_row_test (c : Base) : CallOk (cx c) 3 (.ref ((cx c).ga 682)) F_row_test := fn_okK (fk_682 c) (S_row_test c)
noncomputable def sc_696 (c : Base) : Sc := ⟨(fdOf (cx c).K 696).scope, ["run", "row", "word", "test", "least", "most", "is_lazy", "low", "end"], [], fun _ => True⟩
theorem fk_696 (c : Base) : FnK (cx c) 696 ["run", "row"] ["run", "row", "word", "test", "least", "most", "is_lazy", "low", "end"] [2] [] where
  at_ := by kernel_rfl
  isF := ⟨by kernel_rfl, by kernel_rfl, by kernel_rfl, by kernel_rfl⟩
  code := by kernel_rfl
  bind := bindD (ds := []) (fun _ _ => .nil) (one_ar (fun S ws h => by obtain ⟨w0, w1, rfl⟩ := len2 h; kernel_rfl))
  ars := by decide
  pre := ⟨["word", "test", "least", "most", "is_lazy", "low", "end"], rfl⟩
  nd := by decide
  loc := by kernel_rfl
  cell := by kernel_rfl
  co := by kernel_rfl
  gen := by kernel_rfl
  kind := by kernel_rfl
theorem ln_696_0 (c : Base) : LocName (sc_696 c) 0 "run" := ⟨rfl, by kernel_rfl, by kernel_rfl⟩
theorem ln_696_8 (c : Base) : LocName (sc_696 c) 8 "end" := ⟨rfl, by kernel_rfl, by kernel_rfl⟩
theorem ln_696_6 (c : Base) : LocName (sc_696 c) 6 "is_lazy" := ⟨rfl, by kernel_rfl, by kernel_rfl⟩
theorem ln_696_7 (c : Base) : LocName (sc_696 c) 7 "low" := ⟨rfl, by kernel_rfl, by kernel_rfl⟩
theorem gv_STEP_SIGNS (c : Base) : nsIn (cx c).K mainGlobals "STEP_SIGNS" = some (some (.int 100 1186)) := by kernel_rfl
theorem gn_696_STEP_SIGNS (c : Base) : GloName (cx c) (sc_696 c) "STEP_SIGNS" (.int 100 1186) := ⟨gv_STEP_SIGNS c, by kernel_rfl, by kernel_rfl⟩
theorem so_657_5 (c : Base) : SetOk (cx c) 657 5 "steps" := ⟨rfl, nd_657, fw_657, by kernel_rfl, by kernel_rfl, by kernel_rfl, by kernel_rfl⟩
theorem ln_696_5 (c : Base) : LocName (sc_696 c) 5 "most" := ⟨rfl, by kernel_rfl, by kernel_rfl⟩
theorem ln_696_3 (c : Base) : LocName (sc_696 c) 3 "test" := ⟨rfl, by kernel_rfl, by kernel_rfl⟩
noncomputable def sc_689 (c : Base) : Sc := ⟨(fdOf (cx c).K 689).scope, ["run", "test", "at", "most", "stop"], [], fun _ => True⟩
theorem fk_689 (c : Base) : FnK (cx c) 689 ["run", "test", "at", "most"] ["run", "test", "at", "most", "stop"] [4] [] where
  at_ := by kernel_rfl
  isF := ⟨by kernel_rfl, by kernel_rfl, by kernel_rfl, by kernel_rfl⟩
  code := by kernel_rfl
  bind := bindD (ds := []) (fun _ _ => .nil) (one_ar (fun S ws h => by obtain ⟨w0, w1, w2, w3, rfl⟩ := len4 h; kernel_rfl))
  ars := by decide
  pre := ⟨["stop"], rfl⟩
  nd := by decide
  loc := by kernel_rfl
  cell := by kernel_rfl
  co := by kernel_rfl
  gen := by kernel_rfl
  kind := by kernel_rfl
theorem ln_689_2 (c : Base) : LocName (sc_689 c) 2 "at" := ⟨rfl, by kernel_rfl, by kernel_rfl⟩
theorem ln_689_0 (c : Base) : LocName (sc_689 c) 0 "run" := ⟨rfl, by kernel_rfl, by kernel_rfl⟩
theorem ln_689_1 (c : Base) : LocName (sc_689 c) 1 "test" := ⟨rfl, by kernel_rfl, by kernel_rfl⟩
theorem gn_689_sign_fits (c : Base) : GloName (cx c) (sc_689 c) "sign_fits" (.ref 282) := ⟨gv_sign_fits c, by kernel_rfl, by kernel_rfl⟩
theorem fn_689_sign_fits (c : Base) : FnName (cx c) (sc_689 c) "sign_fits" 282 := ⟨gn_689_sign_fits c, kp_282 c⟩
theorem ln_689_4 (c : Base) : LocName (sc_689 c) 4 "stop" := ⟨rfl, by kernel_rfl, by kernel_rfl⟩
theorem ln_689_3 (c : Base) : LocName (sc_689 c) 3 "most" := ⟨rfl, by kernel_rfl, by kernel_rfl⟩
theorem bn_689_len (c : Base) : BltName (cx c) (sc_689 c) "len" (.builtin "len") := ⟨gz_len c, by kernel_rfl, by decide, by kernel_rfl, by kernel_rfl⟩
noncomputable def B_run_end : SS := (seqS (asgS (asgL 4) (ifE (tE (bE ltV (lE 3) (cE (.int 0)))) (bltE lenG (esC (attrE 657 1 (lE 0)) esN)) noE))
  (seqS (whileS (tAnd (tE (bE ltV (lE 2) (lE 4))) (tAnd (tE (callE F_sign_fits (esC (lE 1) (esC (subE (attrE 657 1 (lE 0)) (lE 2)) esN)))) (tB true)))
  (seqS (augL 2 iaddV (cE (.int 1)))
  nilS) 1000)
  (seqS (retS (lE 2))
  nilS)))
theorem S_run_end (c : Base) : SoundB (cx c) 2 (sc_689 c) (stOf (cx c).K 689) B_run_end := (sb_cons (s_asg (u_name (ln_689_4 c)) (b_if (t_cmp (l_name (ln_689_3 c)) c_int bin_lt rfl) (b_blt (bn_689_len c) f_len (es_cons (b_attr (l_name (ln_689_0 c)) (ao_657_1 c) (fun _ => rfl)) es_nil (fun _ => rfl)) (fun _ => ⟨rfl, rfl⟩) (fun _ => ⟨rfl, trivial⟩) (fun _ => rfl)) no_e) (fun _ => rfl) (fun _ => rfl) (fun _ => rfl))
  (sb_cons (s_while 1000 (t_bool (a_and (t_cmp (l_name (ln_689_2 c)) (l_name (ln_689_4 c)) bin_lt rfl) (a_and (t_val (b_call (fn_689_sign_fits c) ((ok_sign_fits c).up rfl) (es_cons (l_name (ln_689_1 c)) (es_cons (b_sub (b_attr (l_name (ln_689_0 c)) (ao_657_1 c) (fun _ => rfl)) (l_name (ln_689_2 c)) (fun _ _ => rfl)) es_nil (fun _ => rfl)) (fun _ => rfl)) (fun _ => ⟨rfl, rfl⟩) nilOk_cons (fun _ => rfl)) (fun _ _ => rfl)) a_andNil)))
  (sb_cons (s_augL (ln_689_2 c) c_int bin_iadd)
  sb_nil))
  (sb_cons (s_ret (l_name (ln_689_2 c)))
  sb_nil)))
noncomputable def F_run_end : FnG := runB [4] 4 5 [] B_run_end
theorem ok_run_end (c : Base) : CallOk (cx c) 3 (.ref ((cx c).ga 689)) F_run_end := fn_okK (fk_689 c) (S_run_end c)
theorem kp_689 (c : Base) : keepIn (cx c).K (.ref ((cx c).ga 689)) = true := by kernel_rfl
theorem gv_run_end (c : Base) : nsIn (cx c).K mainGlobals "run_end" = some (some (.ref 689)) := by kernel_rfl
theorem gn_696_run_end (c : Base) : GloName (cx c) (sc_696 c) "run_end" (.ref 689) := ⟨gv_run_end c, by kernel_rfl, by kernel_rfl⟩
theorem fn_696_run_end (c : Base) : FnName (cx c) (sc_696 c) "run_end" 689 := ⟨gn_696_run_end c, kp_689 c⟩
theorem ln_696_4 (c : Base) : LocName (sc_696 c) 4 "least" := ⟨rfl, by kernel_rfl, by kernel_rfl⟩
theorem ln_696_2 (c : Base) : LocName (sc_696 c) 2 "word" := ⟨rfl, by kernel_rfl, by kernel_rfl⟩
theorem ln_696_1 (c : Base) : LocName (sc_696 c) 1 "row" := ⟨rfl, by kernel_rfl, by kernel_rfl⟩
noncomputable def B_row_run : SS := (seqS (asgS (asgT [2, 3, 4, 5, 6]) (lE 1))
  (seqS (asgS (asgL 7) (bE addV (attrE 657 6 (lE 0)) (lE 4)))
  (seqS (asgS (asgL 8) (callE F_run_end (esC (lE 0) (esC (lE 3) (esC (attrE 657 6 (lE 0)) (esC (ifE (tE (lE 6)) noE (lE 5)) esN))))))
  (seqS (augA 657 5 iaddV (lE 0) (bE divV (bE subV (lE 8) (attrE 657 6 (lE 0))) (cE (.int 100))))
  (seqS (ifS (tE (bE ltV (lE 8) (lE 7)))
  noS
  nilS)
  (seqS (augA 657 7 iaddV (lE 0) (cE (.int 1)))
  (seqS (ifS (tAnd (tE (lE 6)) (tAnd noT (tB true)))
  noS
  (seqS (ifS (tE (bE gtV (lE 8) (lE 7)))
  (seqS (exprS (appendE (attrE 657 10 (lE 0)) (tupE (esC (cE (.str [108, 101, 115, 115])) (esC (attrE 657 7 (lE 0)) (esC (lE 7) (esC (lE 8) esN)))))))
  nilS)
  nilS)
  nilS))
  (seqS (asgS (asgA 657 6 (lE 0)) (lE 8))
  (seqS (retS (cE (.bool true)))
  nilS)))))))))
theorem S_row_run (c : Base) : SoundB (cx c) 3 (sc_696 c) (stOf (cx c).K 696) B_row_run := (sb_cons (s_asg (u_tup (.cons (ln_696_2 c) (.cons (ln_696_3 c) (.cons (ln_696_4 c) (.cons (ln_696_5 c) (.cons (ln_696_6 c) .nil)))))) (l_name (ln_696_1 c)) (fun _ => rfl) (fun _ => rfl) (fun _ => rfl))
  (sb_cons (s_asg (u_name (ln_696_7 c)) (b_op (b_attr (l_name (ln_696_0 c)) (ao_657_6 c) (fun _ => rfl)) (l_name (ln_696_4 c)) bin_add) (fun _ => rfl) (fun _ => rfl) (fun _ => rfl))
  (sb_cons (s_asg (u_name (ln_696_8 c)) (b_call (fn_696_run_end c) ((ok_run_end c).up rfl) (es_cons (l_name (ln_696_0 c)) (es_cons (l_name (ln_696_3 c)) (es_cons (b_attr (l_name (ln_696_0 c)) (ao_657_6 c) (fun _ => rfl)) (es_cons (b_if (t_val (l_name (ln_696_6 c)) (fun _ _ => rfl)) no_e (l_name (ln_696_5 c))) es_nil (fun _ => rfl)) (fun _ => rfl)) (fun _ => rfl)) (fun _ => rfl)) (fun _ => ⟨rfl, rfl⟩) nilOk_cons (fun _ => rfl)) (fun _ => rfl) (fun _ => rfl) (fun _ => rfl))
  (sb_cons (s_augA (l_name (ln_696_0 c)) (ao_657_5 c) (so_657_5 c) (b_op (b_op (l_name (ln_696_8 c)) (b_attr (l_name (ln_696_0 c)) (ao_657_6 c) (fun _ => rfl)) bin_sub) (g_name (gn_696_STEP_SIGNS c) (fun _ _ => (.int _ _))) bin_div) bin_iadd)
  (sb_cons (s_if (t_cmp (l_name (ln_696_8 c)) (l_name (ln_696_7 c)) bin_lt rfl)
  no_b
  sb_nil)
  (sb_cons (s_augA (l_name (ln_696_0 c)) (ao_657_7 c) (so_657_7 c) c_int bin_iadd)
  (sb_cons (s_if (t_bool (a_and (t_val (l_name (ln_696_6 c)) (fun _ _ => rfl)) (a_and no_t a_andNil)))
  no_b
  (sb_cons (s_if (t_cmp (l_name (ln_696_8 c)) (l_name (ln_696_7 c)) bin_gt rfl)
  (sb_cons (s_expr (b_append (b_attr (l_name (ln_696_0 c)) (ao_657_10 c) (fun _ => rfl)) (b_tup (es_cons (c_str (by kernel_rfl)) (es_cons (b_attr (l_name (ln_696_0 c)) (ao_657_7 c) (fun _ => rfl)) (es_cons (l_name (ln_696_7 c)) (es_cons (l_name (ln_696_8 c)) es_nil (fun _ => rfl)) (fun _ => rfl)) (fun _ => rfl)) (fun _ => rfl))) (fun _ => ⟨rfl, rfl⟩) (fun _ => rfl)) (fun _ => rfl))
  sb_nil)
  sb_nil)
  sb_nil))
  (sb_cons (s_asg (u_attr (l_name (ln_696_0 c)) (so_657_6 c)) (l_name (ln_696_8 c)) (fun _ => rfl) (fun _ => rfl) (fun _ => rfl))
  (sb_cons (s_ret c_bool)
  sb_nil)))))))))
noncomputable def F_row_run : FnG := runB [2] 2 9 [] B_row_run
theorem ok_row_run (c : Base) : CallOk (cx c) 4 (.ref ((cx c).ga 696)) F_row_run := fn_okK (fk_696 c) (S_row_run c)
noncomputable def sc_710 (c : Base) : Sc := ⟨(fdOf (cx c).K 710).scope, ["run", "row"], [], fun _ => True⟩
theorem fk_710 (c : Base) : FnK (cx c) 710 ["run", "row"] ["run", "row"] [2] [] where
  at_ := by kernel_rfl
  isF := ⟨by kernel_rfl, by kernel_rfl, by kernel_rfl, by kernel_rfl⟩
  code := by kernel_rfl
  bind := bindD (ds := []) (fun _ _ => .nil) (one_ar (fun S ws h => by obtain ⟨w0, w1, rfl⟩ := len2 h; kernel_rfl))
  ars := by decide
  pre := ⟨[], rfl⟩
  nd := by decide
  loc := by kernel_rfl
  cell := by kernel_rfl
  co := by kernel_rfl
  gen := by kernel_rfl
  kind := by kernel_rfl
theorem ln_710_1 (c : Base) : LocName (sc_710 c) 1 "row" := ⟨rfl, by kernel_rfl, by kernel_rfl⟩
theorem ln_710_0 (c : Base) : LocName (sc_710 c) 0 "run" := ⟨rfl, by kernel_rfl, by kernel_rfl⟩
noncomputable def sc_703 (c : Base) : Sc := ⟨(fdOf (cx c).K 703).scope, ["run", "word", "at", "text", "is_word_ahead", "is_edge"], [], fun _ => True⟩
theorem fk_703 (c : Base) : FnK (cx c) 703 ["run", "word"] ["run", "word", "at", "text", "is_word_ahead", "is_edge"] [2] [] where
  at_ := by kernel_rfl
  isF := ⟨by kernel_rfl, by kernel_rfl, by kernel_rfl, by kernel_rfl⟩
  code := by kernel_rfl
  bind := bindD (ds := []) (fun _ _ => .nil) (one_ar (fun S ws h => by obtain ⟨w0, w1, rfl⟩ := len2 h; kernel_rfl))
  ars := by decide
  pre := ⟨["at", "text", "is_word_ahead", "is_edge"], rfl⟩
  nd := by decide
  loc := by kernel_rfl
  cell := by kernel_rfl
  co := by kernel_rfl
  gen := by kernel_rfl
  kind := by kernel_rfl
theorem ln_703_1 (c : Base) : LocName (sc_703 c) 1 "word" := ⟨rfl, by kernel_rfl, by kernel_rfl⟩
theorem ln_703_2 (c : Base) : LocName (sc_703 c) 2 "at" := ⟨rfl, by kernel_rfl, by kernel_rfl⟩
theorem ln_703_3 (c : Base) : LocName (sc_703 c) 3 "text" := ⟨rfl, by kernel_rfl, by kernel_rfl⟩
theorem bn_703_len (c : Base) : BltName (cx c) (sc_703 c) "len" (.builtin "len") := ⟨gz_len c, by kernel_rfl, by decide, by kernel_rfl, by kernel_rfl⟩
theorem ln_703_0 (c : Base) : LocName (sc_703 c) 0 "run" := ⟨rfl, by kernel_rfl, by kernel_rfl⟩
noncomputable def B_place_holds : SS := (seqS (asgS (asgL 2) (attrE 657 6 (lE 0)))
  (seqS (asgS (asgL 3) (attrE 657 1 (lE 0)))
  (seqS (ifS (tE (bE eqV (lE 1) (cE (.str [65]))))
  (seqS (retS (bE eqV (lE 2) (cE (.int 0))))
  nilS)
  nilS)
  (seqS (ifS (tE (bE eqV (lE 1) (cE (.str [122]))))
  noS
  nilS)
  (seqS (ifS (tE (bE eqV (lE 1) (cE (.str [90]))))
  (seqS (retS (vOr (bE eqV (lE 2) (bltE lenG (esC (lE 3) esN))) (vAnd (bE eqV (lE 2) (bE subV (bltE lenG (esC (lE 3) esN)) (cE (.int 1)))) (bE eqV (subE (lE 3) (lE 2)) (cE (.str [10]))))))
  nilS)
  nilS)
  noS)))))
theorem S_place_holds (c : Base) : SoundB (cx c) 0 (sc_703 c) (stOf (cx c).K 703) B_place_holds := (sb_cons (s_asg (u_name (ln_703_2 c)) (b_attr (l_name (ln_703_0 c)) (ao_657_6 c) (fun _ => rfl)) (fun _ => rfl) (fun _ => rfl) (fun _ => rfl))
  (sb_cons (s_asg (u_name (ln_703_3 c)) (b_attr (l_name (ln_703_0 c)) (ao_657_1 c) (fun _ => rfl)) (fun _ => rfl) (fun _ => rfl) (fun _ => rfl))
  (sb_cons (s_if (t_cmp (l_name (ln_703_1 c)) (c_str (by kernel_rfl)) bin_eq rfl)
  (sb_cons (s_ret (b_cmp (l_name (ln_703_2 c)) c_int bin_eq rfl))
  sb_nil)
  sb_nil)
  (sb_cons (s_if (t_cmp (l_name (ln_703_1 c)) (c_str (by kernel_rfl)) bin_eq rfl)
  no_b
  sb_nil)
  (sb_cons (s_if (t_cmp (l_name (ln_703_1 c)) (c_str (by kernel_rfl)) bin_eq rfl)
  (sb_cons (s_ret (b_bool (o_or (b_cmp (l_name (ln_703_2 c)) (b_blt (bn_703_len c) f_len (es_cons (l_name (ln_703_3 c)) es_nil (fun _ => rfl)) (fun _ => ⟨rfl, rfl⟩) (fun _ => ⟨rfl, trivial⟩) (fun _ => rfl)) bin_eq rfl) (o_one (b_bool (o_and (b_cmp (l_name (ln_703_2 c)) (b_op (b_blt (bn_703_len c) f_len (es_cons (l_name (ln_703_3 c)) es_nil (fun _ => rfl)) (fun _ => ⟨rfl, rfl⟩) (fun _ => ⟨rfl, trivial⟩) (fun _ => rfl)) c_int bin_sub) bin_eq rfl) (o_one (b_cmp (b_sub (l_name (ln_703_3 c)) (l_name (ln_703_2 c)) (fun _ _ => rfl)) (c_str (by kernel_rfl)) bin_eq rfl))))))))
  sb_nil)
  sb_nil)
  no_b)))))
noncomputable def F_place_holds : FnG := runB [2] 2 6 [] B_place_holds
theorem ok_place_holds (c : Base) : CallOk (cx c) 1 (.ref ((cx c).ga 703)) F_place_holds := fn_okK (fk_703 c) (S_place_holds c)
theorem kp_703 (c : Base) : keepIn (cx c).K (.ref ((cx c).ga 703)) = true := by kernel_rfl
theorem gv_place_holds (c : Base) : nsIn (cx c).K mainGlobals "place_holds" = some (some (.ref 703)) := by kernel_rfl
theorem gn_710_place_holds (c : Base) : GloName (cx c) (sc_710 c) "place_holds" (.ref 703) := ⟨gv_place_holds c, by kernel_rfl, by kernel_rfl⟩
theorem fn_710_place_holds (c : Base) : FnName (cx c) (sc_710 c) "place_holds" 703 := ⟨gn_710_place_holds c, kp_703 c⟩
theorem gn_710_go_on (c : Base) : GloName (cx c) (sc_710 c) "go_on" (.ref 675) := ⟨gv_go_on c, by kernel_rfl, by kernel_rfl⟩
theorem fn_710_go_on (c : Base) : FnName (cx c) (sc_710 c) "go_on" 675 := ⟨gn_710_go_on c, kp_675 c⟩
noncomputable def B_row_at : SS := (seqS (retS (vAnd (callE F_place_holds (esC (lE 0) (esC (subE (lE 1) (cE (.int 1))) esN))) (callE F_go_on (esC (lE 0) esN))))
  nilS)
theorem S_row_at (c : Base) : SoundB (cx c) 1 (sc_710 c) (stOf (cx c).K 710) B_row_at := (sb_cons (s_ret (b_bool (o_and (b_call (fn_710_place_holds c) ((ok_place_holds c).up rfl) (es_cons (l_name (ln_710_0 c)) (es_cons (b_sub (l_name (ln_710_1 c)) c_int (fun _ _ => rfl)) es_nil (fun _ => rfl)) (fun _ => rfl)) (fun _ => ⟨rfl, rfl⟩) nilOk_cons (fun _ => rfl)) (o_one (b_call (fn_710_go_on c) ((ok_go_on c).up rfl) (es_cons (l_name (ln_710_0 c)) es_nil (fun _ => rfl)) (fun _ => ⟨rfl, rfl⟩) nilOk_cons (fun _ => rfl))))))
  sb_nil)
noncomputable def F_row_at : FnG := runB [2] 2 2 [] B_row_at
theorem ok_row_at (c : Base) : CallOk (cx c) 2 (.ref ((cx c).ga 710)) F_row_at := fn_okK (fk_710 c) (S_row_at c)
noncomputable def sc_717 (c : Base) : Sc := ⟨(fdOf (cx c).K 717).scope, ["run", "row", "n", "begin", "end", "k"], [], fun _ => True⟩
theorem fk_717 (c : Base) : FnK (cx c) 717 ["run", "row"] ["run", "row", "n", "begin", "end", "k"] [2] [] where
  at_ := by kernel_rfl
  isF := ⟨by kernel_rfl, by kernel_rfl, by kernel_rfl, by kernel_rfl⟩
  code := by kernel_rfl
  bind := bindD (ds := []) (fun _ _ => .nil) (one_ar (fun S ws h => by obtain ⟨w0, w1, rfl⟩ := len2 h; kernel_rfl))
  ars := by decide
  pre := ⟨["n", "begin", "end", "k"], rfl⟩
  nd := by decide
  loc := by kernel_rfl
  cell := by kernel_rfl
  co := by kernel_rfl
  gen := by kernel_rfl
  kind := by kernel_rfl
theorem ln_717_2 (c : Base) : LocName (sc_717 c) 2 "n" := ⟨rfl, by kernel_rfl, by kernel_rfl⟩
theorem ln_717_0 (c : Base) : LocName (sc_717 c) 0 "run" := ⟨rfl, by kernel_rfl, by kernel_rfl⟩
theorem gn_717_go_on (c : Base) : GloName (cx c) (sc_717 c) "go_on" (.ref 675) := ⟨gv_go_on c, by kernel_rfl, by kernel_rfl⟩
theorem fn_717_go_on (c : Base) : FnName (cx c) (sc_717 c) "go_on" 675 := ⟨gn_717_go_on c, kp_675 c⟩
theorem ln_717_4 (c : Base) : LocName (sc_717 c) 4 "end" := ⟨rfl, by kernel_rfl, by kernel_rfl⟩
theorem ln_717_3 (c : Base) : LocName (sc_717 c) 3 "begin" := ⟨rfl, by kernel_rfl, by kernel_rfl⟩
theorem ln_717_5 (c : Base) : LocName (sc_717 c) 5 "k" := ⟨rfl, by kernel_rfl, by kernel_rfl⟩
theorem ln_717_1 (c : Base) : LocName (sc_717 c) 1 "row" := ⟨rfl, by kernel_rfl, by kernel_rfl⟩
theorem gn_717_same_sign (c : Base) : GloName (cx c) (sc_717 c) "same_sign" (.ref 249) := ⟨gv_same_sign c, by kernel_rfl, by kernel_rfl⟩
theorem fn_717_same_sign (c : Base) : FnName (cx c) (sc_717 c) "same_sign" 249 := ⟨gn_717_same_sign c, kp_249 c⟩
theorem gz_range (c : Base) : nsIn (cx c).K mainGlobals "range" = some none := by kernel_rfl
theorem bn_717_range (c : Base) : BltName (cx c) (sc_717 c) "range" (.type "range") := ⟨gz_range c, by kernel_rfl, by decide, by kernel_rfl, by kernel_rfl⟩
theorem gn_717_STEP_SIGNS (c : Base) : GloName (cx c) (sc_717 c) "STEP_SIGNS" (.int 100 1186) := ⟨gv_STEP_SIGNS c, by kernel_rfl, by kernel_rfl⟩
theorem bn_717_len (c : Base) : BltName (cx c) (sc_717 c) "len" (.builtin "len") := ⟨gz_len c, by kernel_rfl, by decide, by kernel_rfl, by kernel_rfl⟩
noncomputable def B_row_back : SS := (seqS (forVS (subE (lE 1) (cE (.int 1))) (asgL 2)
  (seqS (ifS (tE (bE isNotV (subE (attrE 657 8 (lE 0)) (lE 2)) (cE .none)))
  (seqS (asgS (asgT [3, 4]) (subE (attrE 657 8 (lE 0)) (lE 2)))
  (seqS (ifS (tE (bE gtV (bE subV (bE addV (attrE 657 6 (lE 0)) (lE 4)) (lE 3)) (bltE lenG (esC (attrE 657 1 (lE 0)) esN))))
  (seqS (retS (cE (.bool false)))
  nilS)
  nilS)
  (seqS (augA 657 5 iaddV (lE 0) (bE divV (bE subV (lE 4) (lE 3)) (cE (.int 100))))
  (seqS (forRS (cE (.int 0)) (bE subV (lE 4) (lE 3)) (asgL 5)
  (seqS (ifS (tN (tE (callE F_same_sign (esC (subE (attrE 657 1 (lE 0)) (bE addV (attrE 657 6 (lE 0)) (lE 5))) (esC (subE (attrE 657 1 (lE 0)) (bE addV (lE 3) (lE 5))) (esC (subE (lE 1) (cE (.int 2))) esN))))))
  noS
  nilS)
  nilS) 1000)
  (seqS (augA 657 6 iaddV (lE 0) (bE subV (lE 4) (lE 3)))
  (seqS (retS (callE F_go_on (esC (lE 0) esN)))
  nilS))))))
  nilS)
  nilS) 1000)
  noS)
theorem S_row_back (c : Base) : SoundB (cx c) 1 (sc_717 c) (stOf (cx c).K 717) B_row_back := (sb_cons (s_for 1000 (b_sub (l_name (ln_717_1 c)) c_int (fun _ _ => rfl)) (u_name (ln_717_2 c))
  (sb_cons (s_if (t_cmp (b_sub (b_attr (l_name (ln_717_0 c)) (ao_657_8 c) (fun _ => rfl)) (l_name (ln_717_2 c)) (fun _ _ => rfl)) c_none bin_isNot rfl)
  (sb_cons (s_asg (u_tup (.cons (ln_717_3 c) (.cons (ln_717_4 c) .nil))) (b_sub (b_attr (l_name (ln_717_0 c)) (ao_657_8 c) (fun _ => rfl)) (l_name (ln_717_2 c)) (fun _ _ => rfl)) (fun _ => rfl) (fun _ => rfl) (fun _ => rfl))
  (sb_cons (s_if (t_cmp (b_op (b_op (b_attr (l_name (ln_717_0 c)) (ao_657_6 c) (fun _ => rfl)) (l_name (ln_717_4 c)) bin_add) (l_name (ln_717_3 c)) bin_sub) (b_blt (bn_717_len c) f_len (es_cons (b_attr (l_name (ln_717_0 c)) (ao_657_1 c) (fun _ => rfl)) es_nil (fun _ => rfl)) (fun _ => ⟨rfl, rfl⟩) (fun _ => ⟨rfl, trivial⟩) (fun _ => rfl)) bin_gt rfl)
  (sb_cons (s_ret c_bool)
  sb_nil)
  sb_nil)
  (sb_cons (s_augA (l_name (ln_717_0 c)) (ao_657_5 c) (so_657_5 c) (b_op (b_op (l_name (ln_717_4 c)) (l_name (ln_717_3 c)) bin_sub) (g_name (gn_717_STEP_SIGNS c) (fun _ _ => (.int _ _))) bin_div) bin_iadd)
  (sb_cons (s_for1 1000 (bn_717_range c) (b_op (l_name (ln_717_4 c)) (l_name (ln_717_3 c)) bin_sub) (u_name (ln_717_5 c))
  (sb_cons (s_if (t_not (t_val (b_call (fn_717_same_sign c) ((ok_same_sign c).up rfl) (es_cons (b_sub (b_attr (l_name (ln_717_0 c)) (ao_657_1 c) (fun _ => rfl)) (b_op (b_attr (l_name (ln_717_0 c)) (ao_657_6 c) (fun _ => rfl)) (l_name (ln_717_5 c)) bin_add) (fun _ _ => rfl)) (es_cons (b_sub (b_attr (l_name (ln_717_0 c)) (ao_657_1 c) (fun _ => rfl)) (b_op (l_name (ln_717_3 c)) (l_name (ln_717_5 c)) bin_add) (fun _ _ => rfl)) (es_cons (b_sub (l_name (ln_717_1 c)) c_int (fun _ _ => rfl)) es_nil (fun _ => rfl)) (fun _ => rfl)) (fun _ => rfl)) (fun _ => ⟨rfl, rfl⟩) nilOk_cons (fun _ => rfl)) (fun _ _ => rfl)))
  no_b
  sb_nil)
  sb_nil) (.inl (fun _ _ => rfl)) (fun _ _ => rfl) (fun _ => ⟨rfl, rfl⟩) (fun _ => rfl))
  (sb_cons (s_augA (l_name (ln_717_0 c)) (ao_657_6 c) (so_657_6 c) (b_op (l_name (ln_717_4 c)) (l_name (ln_717_3 c)) bin_sub) bin_iadd)
  (sb_cons (s_ret (b_call (fn_717_go_on c) ((ok_go_on c).up rfl) (es_cons (l_name (ln_717_0 c)) es_nil (fun _ => rfl)) (fun _ => ⟨rfl, rfl⟩) nilOk_cons (fun _ => rfl)))
  sb_nil))))))
  sb_nil)
  sb_nil) (.inl (fun _ _ => rfl)) (fun _ _ => rfl))
  no_b)
noncomputable def F_row_back : FnG := runB [2] 2 6 [] B_row_back
theorem ok_row_back (c : Base) : CallOk (cx c) 2 (.ref ((cx c).ga 717)) F_row_back := fn_okK (fk_717 c) (S_row_back c)
noncomputable def sc_724 (c : Base) : Sc := ⟨(fdOf (cx c).K 724).scope, ["run", "row"], [], fun _ => True⟩
theorem fk_724 (c : Base) : FnK (cx c) 724 ["run", "row"] ["run", "row"] [2] [] where
  at_ := by kernel_rfl
  isF := ⟨by kernel_rfl, by kernel_rfl, by kernel_rfl, by kernel_rfl⟩
  code := by kernel_rfl
  bind := bindD (ds := []) (fun _ _ => .nil) (one_ar (fun S ws h => by obtain ⟨w0, w1, rfl⟩ := len2 h; kernel_rfl))
  ars := by decide
  pre := ⟨[], rfl⟩
  nd := by decide
  loc := by kernel_rfl
  cell := by kernel_rfl
  co := by kernel_rfl
  gen := by kernel_rfl
  kind := by kernel_rfl
theorem ln_724_0 (c : Base) : LocName (sc_724 c) 0 "run" := ⟨rfl, by kernel_rfl, by kernel_rfl⟩
theorem gn_724_go_on (c : Base) : GloName (cx c) (sc_724 c) "go_on" (.ref 675) := ⟨gv_go_on c, by kernel_rfl, by kernel_rfl⟩
theorem fn_724_go_on (c : Base) : FnName (cx c) (sc_724 c) "go_on" 675 := ⟨gn_724_go_on c, kp_675 c⟩
theorem ln_724_1 (c : Base) : LocName (sc_724 c) 1 "row" := ⟨rfl, by kernel_rfl, by kernel_rfl⟩
noncomputable def sc_668 (c : Base) : Sc := ⟨(fdOf (cx c).K 668).scope, ["run", "k", "value"], [], fun _ => True⟩
theorem fk_668 (c : Base) : FnK (cx c) 668 ["run", "k", "value"] ["run", "k", "value"] [3] [] where
  at_ := by kernel_rfl
  isF := ⟨by kernel_rfl, by kernel_rfl, by kernel_rfl, by kernel_rfl⟩
  code := by kernel_rfl
  bind := bindD (ds := []) (fun _ _ => .nil) (one_ar (fun S ws h => by obtain ⟨w0, w1, w2, rfl⟩ := len3 h; kernel_rfl))
  ars := by decide
  pre := ⟨[], rfl⟩
  nd := by decide
  loc := by kernel_rfl
  cell := by kernel_rfl
  co := by kernel_rfl
  gen := by kernel_rfl
  kind := by kernel_rfl
theorem ln_668_0 (c : Base) : LocName (sc_668 c) 0 "run" := ⟨rfl, by kernel_rfl, by kernel_rfl⟩
theorem ln_668_1 (c : Base) : LocName (sc_668 c) 1 "k" := ⟨rfl, by kernel_rfl, by kernel_rfl⟩
theorem ln_668_2 (c : Base) : LocName (sc_668 c) 2 "value" := ⟨rfl, by kernel_rfl, by kernel_rfl⟩
noncomputable def B_set_register : SS := (seqS (exprS (appendE (attrE 657 10 (lE 0)) (tupE (esC (cE (.str [114, 101, 103, 105, 115, 116, 101, 114])) (esC (lE 1) (esC (subE (attrE 657 9 (lE 0)) (lE 1)) esN))))))
  (seqS (asgS (asgI (attrE 657 9 (lE 0)) (lE 1)) (lE 2))
  nilS))
theorem S_set_register (c : Base) : SoundB (cx c) 0 (sc_668 c) (stOf (cx c).K 668) B_set_register := (sb_cons (s_expr (b_append (b_attr (l_name (ln_668_0 c)) (ao_657_10 c) (fun _ => rfl)) (b_tup (es_cons (c_str (by kernel_rfl)) (es_cons (l_name (ln_668_1 c)) (es_cons (b_sub (b_attr (l_name (ln_668_0 c)) (ao_657_9 c) (fun _ => rfl)) (l_name (ln_668_1 c)) (fun _ _ => rfl)) es_nil (fun _ => rfl)) (fun _ => rfl)) (fun _ => rfl))) (fun _ => ⟨rfl, rfl⟩) (fun _ => rfl)) (fun _ => rfl))
  (sb_cons (s_asg (u_item (b_attr (l_name (ln_668_0 c)) (ao_657_9 c) (fun _ => rfl)) (l_name (ln_668_1 c))) (l_name (ln_668_2 c)) (fun _ => rfl) (fun _ => rfl) (fun _ => rfl))
  sb_nil))
noncomputable def F_set_register : FnG := runB [3] 3 3 [] B_set_register
theorem ok_set_register (c : Base) : CallOk (cx c) 1 (.ref ((cx c).ga 668)) F_set_register := fn_okK (fk_668 c) (S_set_register c)
theorem kp_668 (c : Base) : keepIn (cx c).K (.ref ((cx c).ga 668)) = true := by kernel_rfl
theorem gv_set_register (c : Base) : nsIn (cx c).K mainGlobals "set_register" = some (some (.ref 668)) := by kernel_rfl
theorem gn_724_set_register (c : Base) : GloName (cx c) (sc_724 c) "set_register" (.ref 668) := ⟨gv_set_register c, by kernel_rfl, by kernel_rfl⟩
theorem fn_724_set_register (c : Base) : FnName (cx c) (sc_724 c) "set_register" 668 := ⟨gn_724_set_register c, kp_668 c⟩
noncomputable def B_row_open : SS := (seqS (exprS (callE F_set_register (esC (lE 0) (esC (subE (lE 1) (cE (.int 1))) (esC (attrE 657 6 (lE 0)) esN)))))
  (seqS (retS (callE F_go_on (esC (lE 0) esN)))
  nilS))
theorem S_row_open (c : Base) : SoundB (cx c) 1 (sc_724 c) (stOf (cx c).K 724) B_row_open := (sb_cons (s_expr (b_call (fn_724_set_register c) ((ok_set_register c).up rfl) (es_cons (l_name (ln_724_0 c)) (es_cons (b_sub (l_name (ln_724_1 c)) c_int (fun _ _ => rfl)) (es_cons (b_attr (l_name (ln_724_0 c)) (ao_657_6 c) (fun _ => rfl)) es_nil (fun _ => rfl)) (fun _ => rfl)) (fun _ => rfl)) (fun _ => ⟨rfl, rfl⟩) nilOk_cons (fun _ => rfl)) (fun _ => rfl))
  (sb_cons (s_ret (b_call (fn_724_go_on c) ((ok_go_on c).up rfl) (es_cons (l_name (ln_724_0 c)) es_nil (fun _ => rfl)) (fun _ => ⟨rfl, rfl⟩) nilOk_cons (fun _ => rfl)))
  sb_nil))
noncomputable def F_row_open : FnG := runB [2] 2 2 [] B_row_open
theorem ok_row_open (c : Base) : CallOk (cx c) 2 (.ref ((cx c).ga 724)) F_row_open := fn_okK (fk_724 c) (S_row_open c)
noncomputable def sc_731 (c : Base) : Sc := ⟨(fdOf (cx c).K 731).scope, ["run", "row"], [], fun _ => True⟩
theorem fk_731 (c : Base) : FnK (cx c) 731 ["run", "row"] ["run", "row"] [2] [] where
  at_ := by kernel_rfl
  isF := ⟨by kernel_rfl, by kernel_rfl, by kernel_rfl, by kernel_rfl⟩
  code := by kernel_rfl
  bind := bindD (ds := []) (fun _ _ => .nil) (one_ar (fun S ws h => by obtain ⟨w0, w1, rfl⟩ := len2 h; kernel_rfl))
  ars := by decide
  pre := ⟨[], rfl⟩
  nd := by decide
  loc := by kernel_rfl
  cell := by kernel_rfl
  co := by kernel_rfl
  gen := by kernel_rfl
  kind := by kernel_rfl
theorem ln_731_0 (c : Base) : LocName (sc_731 c) 0 "run" := ⟨rfl, by kernel_rfl, by kernel_rfl⟩
theorem gn_731_go_on (c : Base) : GloName (cx c) (sc_731 c) "go_on" (.ref 675) := ⟨gv_go_on c, by kernel_rfl, by kernel_rfl⟩
theorem fn_731_go_on (c : Base) : FnName (cx c) (sc_731 c) "go_on" 675 := ⟨gn_731_go_on c, kp_675 c⟩
theorem ln_731_1 (c : Base) : LocName (sc_731 c) 1 "row" := ⟨rfl, by kernel_rfl, by kernel_rfl⟩
noncomputable def B_row_close : SS := (seqS (exprS (appendE (attrE 657 10 (lE 0)) (tupE (esC (cE (.str [103, 114, 111, 117, 112])) (esC (subE (lE 1) (cE (.int 1))) (esC (subE (attrE 657 8 (lE 0)) (subE (lE 1) (cE (.int 1)))) esN))))))
  (seqS (asgS (asgI (attrE 657 8 (lE 0)) (subE (lE 1) (cE (.int 1)))) (tupE (esC (subE (attrE 657 9 (lE 0)) (subE (lE 1) (cE (.int 2)))) (esC (attrE 657 6 (lE 0)) esN))))
  (seqS (retS (callE F_go_on (esC (lE 0) esN)))
  nilS)))
theorem S_row_close (c : Base) : SoundB (cx c) 1 (sc_731 c) (stOf (cx c).K 731) B_row_close := (sb_cons (s_expr (b_append (b_attr (l_name (ln_731_0 c)) (ao_657_10 c) (fun _ => rfl)) (b_tup (es_cons (c_str (by kernel_rfl)) (es_cons (b_sub (l_name (ln_731_1 c)) c_int (fun _ _ => rfl)) (es_cons (b_sub (b_attr (l_name (ln_731_0 c)) (ao_657_8 c) (fun _ => rfl)) (b_sub (l_name (ln_731_1 c)) c_int (fun _ _ => rfl)) (fun _ _ => rfl)) es_nil (fun _ => rfl)) (fun _ => rfl)) (fun _ => rfl))) (fun _ => ⟨rfl, rfl⟩) (fun _ => rfl)) (fun _ => rfl))
  (sb_cons (s_asg (u_item (b_attr (l_name (ln_731_0 c)) (ao_657_8 c) (fun _ => rfl)) (b_sub (l_name (ln_731_1 c)) c_int (fun _ _ => rfl))) (b_tup (es_cons (b_sub (b_attr (l_name (ln_731_0 c)) (ao_657_9 c) (fun _ => rfl)) (b_sub (l_name (ln_731_1 c)) c_int (fun _ _ => rfl)) (fun _ _ => rfl)) (es_cons (b_attr (l_name (ln_731_0 c)) (ao_657_6 c) (fun _ => rfl)) es_nil (fun _ => rfl)) (fun _ => rfl))) (fun _ => rfl) (fun _ => rfl) (fun _ => rfl))
  (sb_cons (s_ret (b_call (fn_731_go_on c) ((ok_go_on c).up rfl) (es_cons (l_name (ln_731_0 c)) es_nil (fun _ => rfl)) (fun _ => ⟨rfl, rfl⟩) nilOk_cons (fun _ => rfl)))
  sb_nil)))
noncomputable def F_row_close : FnG := runB [2] 2 2 [] B_row_close
theorem ok_row_close (c : Base) : CallOk (cx c) 2 (.ref ((cx c).ga 731)) F_row_close := fn_okK (fk_731 c) (S_row_close c)
theorem kp_731 (c : Base) : keepIn (cx c).K (.ref ((cx c).ga 731)) = true := by kernel_rfl
theorem kp_724 (c : Base) : keepIn (cx c).K (.ref ((cx c).ga 724)) = true := by kernel_rfl
theorem kp_717 (c : Base) : keepIn (cx c).K (.ref ((cx c).ga 717)) = true := by kernel_rfl
theorem kp_710 (c : Base) : keepIn (cx c).K (.ref ((cx c).ga 710)) = true := by kernel_rfl
theorem kp_696 (c : Base) : keepIn (cx c).K (.ref ((cx c).ga 696)) = true := by kernel_rfl
theorem kp_682 (c : Base) : keepIn (cx c).K (.ref ((cx c).ga 682)) = true := by kernel_rfl
noncomputable def rowTab : Nat → Option FnG := tabOf [(682, F_row_test), (696, F_row_run), (710, F_row_at), (717, F_row_back), (724, F_row_open), (731, F_row_close)]
theorem ao_657_0 (c : Base) : AttrOk (cx c) 657 0 "program" := ⟨rfl, by kernel_rfl, by kernel_rfl, by kernel_rfl⟩
theorem ao_32_0 (c : Base) : AttrOk (cx c) 32 0 "rows" := ⟨rfl, by kernel_rfl, by kernel_rfl, by kernel_rfl⟩
theorem ao_657_4 (c : Base) : AttrOk (cx c) 657 4 "most" := ⟨rfl, by kernel_rfl, by kernel_rfl, by kernel_rfl⟩
theorem ao_32_1 (c : Base) : AttrOk (cx c) 32 1 "groups" := ⟨rfl, by kernel_rfl, by kernel_rfl, by kernel_rfl⟩
theorem ao_32_2 (c : Base) : AttrOk (cx c) 32 2 "registers" := ⟨rfl, by kernel_rfl, by kernel_rfl, by kernel_rfl⟩
theorem gv_STEP_GROUPS (c : Base) : nsIn (cx c).K mainGlobals "STEP_GROUPS" = some (some (.int 20 1188)) := by kernel_rfl
theorem gn_841_STEP_GROUPS (c : Base) : GloName (cx c) (sc_841 c) "STEP_GROUPS" (.int 20 1188) := ⟨gv_STEP_GROUPS c, by kernel_rfl, by kernel_rfl⟩
theorem so_657_9 (c : Base) : SetOk (cx c) 657 9 "registers" := ⟨rfl, nd_657, fw_657, by kernel_rfl, by kernel_rfl, by kernel_rfl, by kernel_rfl⟩
theorem so_657_8 (c : Base) : SetOk (cx c) 657 8 "groups" := ⟨rfl, nd_657, fw_657, by kernel_rfl, by kernel_rfl, by kernel_rfl, by kernel_rfl⟩
theorem so_657_10 (c : Base) : SetOk (cx c) 657 10 "pile" := ⟨rfl, nd_657, fw_657, by kernel_rfl, by kernel_rfl, by kernel_rfl, by kernel_rfl⟩
noncomputable def B_match_from : SS := (seqS (asgS (asgA 657 6 (lE 0)) (lE 2))
  (seqS (asgS (asgA 657 7 (lE 0)) (cE (.int 0)))
  (seqS (asgS (asgA 657 10 (lE 0)) (listE esN))
  (seqS (asgS (asgA 657 8 (lE 0)) (hE mulL (listE (esC (cE .none) esN)) (bE addV (attrE 32 1 (attrE 657 0 (lE 0))) (cE (.int 1)))))
  (seqS (asgS (asgA 657 9 (lE 0)) (hE mulL (listE (esC (cE (.int (-1))) esN)) (attrE 32 2 (attrE 657 0 (lE 0)))))
  (seqS (augA 657 5 iaddV (lE 0) (bE divV (bE addV (attrE 32 1 (attrE 657 0 (lE 0))) (attrE 32 2 (attrE 657 0 (lE 0)))) (cE (.int 20))))
  (seqS (whileS (tE (cE (.bool true)))
  (seqS (augA 657 5 iaddV (lE 0) (cE (.int 1)))
  (seqS (ifS (tE (bE gtV (attrE 657 5 (lE 0)) (attrE 657 4 (lE 0))))
  noS
  nilS)
  (seqS (asgS (asgL 3) (subE (attrE 32 0 (attrE 657 0 (lE 0))) (attrE 657 7 (lE 0))))
  (seqS (ifS (tE (bE eqV (subE (lE 3) (cE (.int 0))) (cE (.str [101, 110, 100]))))
  (seqS (asgS (asgL 4) (bE geV (attrE 657 6 (lE 0)) (attrE 657 3 (lE 0))))
  (seqS (ifS (tE (lE 4))
  (seqS (asgS (asgI (attrE 657 8 (lE 0)) (cE (.int 0))) (tupE (esC (lE 2) (esC (attrE 657 6 (lE 0)) esN))))
  (seqS (retS (cE (.bool true)))
  nilS))
  nilS)
  nilS))
  (seqS (asgS (asgL 4) (dynE rowTab (subE (lE 1) (subE (lE 3) (cE (.int 0)))) (esC (lE 0) (esC (lE 3) esN))))
  nilS))
  (seqS (ifS (tAnd (tN (tE (lE 4))) (tAnd (tN (tE (callE F_back_up (esC (lE 0) esN)))) (tB true)))
  (seqS (retS (cE (.bool false)))
  nilS)
  nilS)
  nilS))))) 1000)
  nilS)))))))
theorem S_match_from (c : Base) : SoundB (cx c) 4 (sc_841 c) (stOf (cx c).K 841) B_match_from := (sb_cons (s_asg (u_attr (l_name (ln_841_0 c)) (so_657_6 c)) (l_name (ln_841_2 c)) (fun _ => rfl) (fun _ => rfl) (fun _ => rfl))
  (sb_cons (s_asg (u_attr (l_name (ln_841_0 c)) (so_657_7 c)) c_int (fun _ => rfl) (fun _ => rfl) (fun _ => rfl))
  (sb_cons (s_asg (u_attr (l_name (ln_841_0 c)) (so_657_10 c)) (b_list es_nil) (fun _ => rfl) (fun _ => rfl) (fun _ => rfl))
  (sb_cons (s_asg (u_attr (l_name (ln_841_0 c)) (so_657_8 c)) (h_op (b_list (es_cons c_none es_nil (fun _ => rfl))) (b_op (b_attr (b_attr (l_name (ln_841_0 c)) (ao_657_0 c) (fun _ => rfl)) (ao_32_1 c) (fun _ => rfl)) c_int bin_add) binh_mul) (fun _ => rfl) (fun _ => rfl) (fun _ => rfl))
  (sb_cons (s_asg (u_attr (l_name (ln_841_0 c)) (so_657_9 c)) (h_op (b_list (es_cons b_neg es_nil (fun _ => rfl))) (b_attr (b_attr (l_name (ln_841_0 c)) (ao_657_0 c) (fun _ => rfl)) (ao_32_2 c) (fun _ => rfl)) binh_mul) (fun _ => rfl) (fun _ => rfl) (fun _ => rfl))
  (sb_cons (s_augA (l_name (ln_841_0 c)) (ao_657_5 c) (so_657_5 c) (b_op (b_op (b_attr (b_attr (l_name (ln_841_0 c)) (ao_657_0 c) (fun _ => rfl)) (ao_32_1 c) (fun _ => rfl)) (b_attr (b_attr (l_name (ln_841_0 c)) (ao_657_0 c) (fun _ => rfl)) (ao_32_2 c) (fun _ => rfl)) bin_add) (g_name (gn_841_STEP_GROUPS c) (fun _ _ => (.int _ _))) bin_div) bin_iadd)
  (sb_cons (s_while 1000 (t_val c_bool (fun _ _ => rfl))
  (sb_cons (s_augA (l_name (ln_841_0 c)) (ao_657_5 c) (so_657_5 c) c_int bin_iadd)
  (sb_cons (s_if (t_cmp (b_attr (l_name (ln_841_0 c)) (ao_657_5 c) (fun _ => rfl)) (b_attr (l_name (ln_841_0 c)) (ao_657_4 c) (fun _ => rfl)) bin_gt rfl)
  no_b
  sb_nil)
  (sb_cons (s_asg (u_name (ln_841_3 c)) (b_sub (b_attr (b_attr (l_name (ln_841_0 c)) (ao_657_0 c) (fun _ => rfl)) (ao_32_0 c) (fun _ => rfl)) (b_attr (l_name (ln_841_0 c)) (ao_657_7 c) (fun _ => rfl)) (fun _ _ => rfl)) (fun _ => rfl) (fun _ => rfl) (fun _ => rfl))
  (sb_cons (s_if (t_cmp (b_sub (l_name (ln_841_3 c)) c_int (fun _ _ => rfl)) (c_str (by kernel_rfl)) bin_eq rfl)
  (sb_cons (s_asg (u_name (ln_841_4 c)) (b_cmp (b_attr (l_name (ln_841_0 c)) (ao_657_6 c) (fun _ => rfl)) (b_attr (l_name (ln_841_0 c)) (ao_657_3 c) (fun _ => rfl)) bin_ge rfl) (fun _ => rfl) (fun _ => rfl) (fun _ => rfl))
  (sb_cons (s_if (t_val (l_name (ln_841_4 c)) (fun _ _ => rfl))
  (sb_cons (s_asg (u_item (b_attr (l_name (ln_841_0 c)) (ao_657_8 c) (fun _ => rfl)) c_int) (b_tup (es_cons (l_name (ln_841_2 c)) (es_cons (b_attr (l_name (ln_841_0 c)) (ao_657_6 c) (fun _ => rfl)) es_nil (fun _ => rfl)) (fun _ => rfl))) (fun _ => rfl) (fun _ => rfl) (fun _ => rfl))
  (sb_cons (s_ret c_bool)
  sb_nil))
  sb_nil)
  sb_nil))
  (sb_cons (s_asg (u_name (ln_841_4 c)) (b_dyn (b_sub (l_name (ln_841_1 c)) (b_sub (l_name (ln_841_3 c)) c_int (fun _ _ => rfl)) (fun _ _ => rfl)) (tab_cons ((ok_row_test c).up rfl) (kp_682 c) (tab_cons ((ok_row_run c).up rfl) (kp_696 c) (tab_cons ((ok_row_at c).up rfl) (kp_710 c) (tab_cons ((ok_row_back c).up rfl) (kp_717 c) (tab_cons ((ok_row_open c).up rfl) (kp_724 c) (tab_cons ((ok_row_close c).up rfl) (kp_731 c) tab_nil)))))) (es_cons (l_name (ln_841_0 c)) (es_cons (l_name (ln_841_3 c)) es_nil (fun _ => rfl)) (fun _ => rfl)) (fun _ => ⟨rfl, rfl⟩) nilOk_cons (fun _ => rfl)) (fun _ => rfl) (fun _ => rfl) (fun _ => rfl))
  sb_nil))
  (sb_cons (s_if (t_bool (a_and (t_not (t_val (l_name (ln_841_4 c)) (fun _ _ => rfl))) (a_and (t_not (t_val (b_call (fn_841_back_up c) ((ok_back_up c).up rfl) (es_cons (l_name (ln_841_0 c)) es_nil (fun _ => rfl)) (fun _ => ⟨rfl, rfl⟩) nilOk_cons (fun _ => rfl)) (fun _ _ => rfl))) a_andNil)))
  (sb_cons (s_ret c_bool)
  sb_nil)
  sb_nil)
  sb_nil))))))
  sb_nil)))))))
noncomputable def F_match_from : FnG := runB [3] 3 5 [] B_match_from
theorem ok_match_from (c : Base) : CallOk (cx c) 5 (.ref ((cx c).ga 841)) F_match_from := fn_okK (fk_841 c) (S_match_from c)
theorem kp_841 (c : Base) : keepIn (cx c).K (.ref ((cx c).ga 841)) = true := by kernel_rfl
theorem gv_match_from (c : Base) : nsIn (cx c).K mainGlobals "match_from" = some (some (.ref 841)) := by kernel_rfl
theorem gn_849_match_from (c : Base) : GloName (cx c) (sc_849 c) "match_from" (.ref 841) := ⟨gv_match_from c, by kernel_rfl, by kernel_rfl⟩
theorem fn_849_match_from (c : Base) : FnName (cx c) (sc_849 c) "match_from" 841 := ⟨gn_849_match_from c, kp_841 c⟩
theorem ln_849_2 (c : Base) : LocName (sc_849 c) 2 "at" := ⟨rfl, by kernel_rfl, by kernel_rfl⟩
noncomputable def sc_820 (c : Base) : Sc := ⟨(fdOf (cx c).K 820).scope, [], [], fun _ => True⟩
theorem fk_820 (c : Base) : FnK (cx c) 820 [] [] [0] [] where
  at_ := by kernel_rfl
  isF := ⟨by kernel_rfl, by kernel_rfl, by kernel_rfl, by kernel_rfl⟩
  code := by kernel_rfl
  bind := bindD (ds := []) (fun _ _ => .nil) (one_ar (fun S ws h => by obtain ⟨rfl⟩ := len0 h; kernel_rfl))
  ars := by decide
  pre := ⟨[], rfl⟩
  nd := by decide
  loc := by kernel_rfl
  cell := by kernel_rfl
  co := by kernel_rfl
  gen := by kernel_rfl
  kind := by kernel_rfl
theorem gv_row_behind (c : Base) : nsIn (cx c).K mainGlobals "row_behind" = some (some (.ref 813)) := by kernel_rfl
theorem gn_820_row_behind (c : Base) : GloName (cx c) (sc_820 c) "row_behind" (.ref 813) := ⟨gv_row_behind c, by kernel_rfl, by kernel_rfl⟩
theorem gv_row_return (c : Base) : nsIn (cx c).K mainGlobals "row_return" = some (some (.ref 806)) := by kernel_rfl
theorem gn_820_row_return (c : Base) : GloName (cx c) (sc_820 c) "row_return" (.ref 806) := ⟨gv_row_return c, by kernel_rfl, by kernel_rfl⟩
theorem gv_row_place (c : Base) : nsIn (cx c).K mainGlobals "row_place" = some (some (.ref 799)) := by kernel_rfl
theorem gn_820_row_place (c : Base) : GloName (cx c) (sc_820 c) "row_place" (.ref 799) := ⟨gv_row_place c, by kernel_rfl, by kernel_rfl⟩
theorem gv_row_refuse (c : Base) : nsIn (cx c).K mainGlobals "row_refuse" = some (some (.ref 792)) := by kernel_rfl
theorem gn_820_row_refuse (c : Base) : GloName (cx c) (sc_820 c) "row_refuse" (.ref 792) := ⟨gv_row_refuse c, by kernel_rfl, by kernel_rfl⟩
theorem gv_row_cut (c : Base) : nsIn (cx c).K mainGlobals "row_cut" = some (some (.ref 778)) := by kernel_rfl
theorem gn_820_row_cut (c : Base) : GloName (cx c) (sc_820 c) "row_cut" (.ref 778) := ⟨gv_row_cut c, by kernel_rfl, by kernel_rfl⟩
theorem gv_row_mark (c : Base) : nsIn (cx c).K mainGlobals "row_mark" = some (some (.ref 773)) := by kernel_rfl
theorem gn_820_row_mark (c : Base) : GloName (cx c) (sc_820 c) "row_mark" (.ref 773) := ⟨gv_row_mark c, by kernel_rfl, by kernel_rfl⟩
theorem gv_row_again (c : Base) : nsIn (cx c).K mainGlobals "row_again" = some (some (.ref 766)) := by kernel_rfl
theorem gn_820_row_again (c : Base) : GloName (cx c) (sc_820 c) "row_again" (.ref 766) := ⟨gv_row_again c, by kernel_rfl, by kernel_rfl⟩
theorem gv_row_loop (c : Base) : nsIn (cx c).K mainGlobals "row_loop" = some (some (.ref 759)) := by kernel_rfl
theorem gn_820_row_loop (c : Base) : GloName (cx c) (sc_820 c) "row_loop" (.ref 759) := ⟨gv_row_loop c, by kernel_rfl, by kernel_rfl⟩
theorem gv_row_zero (c : Base) : nsIn (cx c).K mainGlobals "row_zero" = some (some (.ref 752)) := by kernel_rfl
theorem gn_820_row_zero (c : Base) : GloName (cx c) (sc_820 c) "row_zero" (.ref 752) := ⟨gv_row_zero c, by kernel_rfl, by kernel_rfl⟩
theorem gv_row_split (c : Base) : nsIn (cx c).K mainGlobals "row_split" = some (some (.ref 745)) := by kernel_rfl
theorem gn_820_row_split (c : Base) : GloName (cx c) (sc_820 c) "row_split" (.ref 745) := ⟨gv_row_split c, by kernel_rfl, by kernel_rfl⟩
theorem gv_row_jump (c : Base) : nsIn (cx c).K mainGlobals "row_jump" = some (some (.ref 738)) := by kernel_rfl
theorem gn_820_row_jump (c : Base) : GloName (cx c) (sc_820 c) "row_jump" (.ref 738) := ⟨gv_row_jump c, by kernel_rfl, by kernel_rfl⟩
theorem gv_row_close (c : Base) : nsIn (cx c).K mainGlobals "row_close" = some (some (.ref 731)) := by kernel_rfl
theorem gn_820_row_close (c : Base) : GloName (cx c) (sc_820 c) "row_close" (.ref 731) := ⟨gv_row_close c, by kernel_rfl, by kernel_rfl⟩
theorem gv_row_open (c : Base) : nsIn (cx c).K mainGlobals "row_open" = some (some (.ref 724)) := by kernel_rfl
theorem gn_820_row_open (c : Base) : GloName (cx c) (sc_820 c) "row_open" (.ref 724) := ⟨gv_row_open c, by kernel_rfl, by kernel_rfl⟩
theorem gv_row_back (c : Base) : nsIn (cx c).K mainGlobals "row_back" = some (some (.ref 717)) := by kernel_rfl
theorem gn_820_row_back (c : Base) : GloName (cx c) (sc_820 c) "row_back" (.ref 717) := ⟨gv_row_back c, by kernel_rfl, by kernel_rfl⟩
theorem gv_row_at (c : Base) : nsIn (cx c).K mainGlobals "row_at" = some (some (.ref 710)) := by kernel_rfl
theorem gn_820_row_at (c : Base) : GloName (cx c) (sc_820 c) "row_at" (.ref 710) := ⟨gv_row_at c, by kernel_rfl, by kernel_rfl⟩
theorem gv_row_run (c : Base) : nsIn (cx c).K mainGlobals "row_run" = some (some (.ref 696)) := by kernel_rfl
theorem gn_820_row_run (c : Base) : GloName (cx c) (sc_820 c) "row_run" (.ref 696) := ⟨gv_row_run c, by kernel_rfl, by kernel_rfl⟩
theorem gv_row_test (c : Base) : nsIn (cx c).K mainGlobals "row_test" = some (some (.ref 682)) := by kernel_rfl
theorem gn_820_row_test (c : Base) : GloName (cx c) (sc_820 c) "row_test" (.ref 682) := ⟨gv_row_test c, by kernel_rfl, by kernel_rfl⟩
noncomputable def es_row_words : List (List Nat × V) := [([115, 105, 103, 110], (.g 682)), ([97, 110, 121], (.g 682)), ([115, 101, 116], (.g 682)), ([114, 117, 110], (.g 696)), ([97, 116], (.g 710)), ([98, 97, 99, 107], (.g 717)), ([111, 112, 101, 110], (.g 724)), ([99, 108, 111, 115, 101], (.g 731)), ([106, 117, 109, 112], (.g 738)), ([115, 112, 108, 105, 116], (.g 745)), ([122, 101, 114, 111], (.g 752)), ([108, 111, 111, 112], (.g 759)), ([97, 103, 97, 105, 110], (.g 766)), ([109, 97, 114, 107], (.g 773)), ([99, 117, 116], (.g 778)), ([114, 101, 102, 117, 115, 101], (.g 792)), ([112, 108, 97, 99, 101], (.g 799)), ([114, 101, 116, 117, 114, 110], (.g 806)), ([98, 101, 104, 105, 110, 100], (.g 813))]
noncomputable def B_row_words : SS := seqS (retS (dictC es_row_words)) nilS
theorem P_row_words (c : Base) : ∃ ks vs pos r, stOf (cx c).K 820 = [.Return (some (.Dict ks vs pos)) r] ∧ PairsE (cx c) 0 (sc_820 c) ks vs es_row_words :=
  ⟨_, _, _, _, rfl, (.cons (by kernel_rfl) (g_name (gn_820_row_test c) (fun _ _ => (.g 682))) (.cons (by kernel_rfl) (g_name (gn_820_row_test c) (fun _ _ => (.g 682))) (.cons (by kernel_rfl) (g_name (gn_820_row_test c) (fun _ _ => (.g 682))) (.cons (by kernel_rfl) (g_name (gn_820_row_run c) (fun _ _ => (.g 696))) (.cons (by kernel_rfl) (g_name (gn_820_row_at c) (fun _ _ => (.g 710))) (.cons (by kernel_rfl) (g_name (gn_820_row_back c) (fun _ _ => (.g 717))) (.cons (by kernel_rfl) (g_name (gn_820_row_open c) (fun _ _ => (.g 724))) (.cons (by kernel_rfl) (g_name (gn_820_row_close c) (fun _ _ => (.g 731))) (.cons (by kernel_rfl) (g_name (gn_820_row_jump c) (fun _ _ => (.g 738))) (.cons (by kernel_rfl) (g_name (gn_820_row_split c) (fun _ _ => (.g 745))) (.cons (by kernel_rfl) (g_name (gn_820_row_zero c) (fun _ _ => (.g 752))) (.cons (by kernel_rfl) (g_name (gn_820_row_loop c) (fun _ _ => (.g 759))) (.cons (by kernel_rfl) (g_name (gn_820_row_again c) (fun _ _ => (.g 766))) (.cons (by kernel_rfl) (g_name (gn_820_row_mark c) (fun _ _ => (.g 773))) (.cons (by kernel_rfl) (g_name (gn_820_row_cut c) (fun _ _ => (.g 778))) (.cons (by kernel_rfl) (g_name (gn_820_row_refuse c) (fun _ _ => (.g 792))) (.cons (by kernel_rfl) (g_name (gn_820_row_place c) (fun _ _ => (.g 799))) (.cons (by kernel_rfl) (g_name (gn_820_row_return c) (fun _ _ => (.g 806))) (.cons (by kernel_rfl) (g_name (gn_820_row_behind c) (fun _ _ => (.g 813))) .nil)))))))))))))))))))⟩
theorem S_row_words (c : Base) : SoundB (cx c) 0 (sc_820 c) (stOf (cx c).K 820) B_row_words := by
  obtain ⟨ks, vs, pos, r, e, h⟩ := P_row_words c
  rw [e]
  exact sb_cons (s_ret (b_dictC h (by decide) (by decide) (by decide))) sb_nil
noncomputable def F_row_words : FnG := runB [0] 0 0 [] B_row_words
theorem ok_row_words (c : Base) : CallOk (cx c) 1 (.ref ((cx c).ga 820)) F_row_words := fn_okK (fk_820 c) (S_row_words c)
theorem kp_820 (c : Base) : keepIn (cx c).K (.ref ((cx c).ga 820)) = true := by kernel_rfl
theorem gv_row_words (c : Base) : nsIn (cx c).K mainGlobals "row_words" = some (some (.ref 820)) := by kernel_rfl
theorem gn_849_row_words (c : Base) : GloName (cx c) (sc_849 c) "row_words" (.ref 820) := ⟨gv_row_words c, by kernel_rfl, by kernel_rfl⟩
theorem fn_849_row_words (c : Base) : FnName (cx c) (sc_849 c) "row_words" 820 := ⟨gn_849_row_words c, kp_820 c⟩
theorem ln_849_3 (c : Base) : LocName (sc_849 c) 3 "limits" := ⟨rfl, by kernel_rfl, by kernel_rfl⟩
theorem ao_636_2 (c : Base) : AttrOk (cx c) 636 2 "steps" := ⟨rfl, by kernel_rfl, by kernel_rfl, by kernel_rfl⟩
theorem ln_849_4 (c : Base) : LocName (sc_849 c) 4 "least_end" := ⟨rfl, by kernel_rfl, by kernel_rfl⟩
theorem ln_849_5 (c : Base) : LocName (sc_849 c) 5 "begin" := ⟨rfl, by kernel_rfl, by kernel_rfl⟩
theorem ln_849_0 (c : Base) : LocName (sc_849 c) 0 "program" := ⟨rfl, by kernel_rfl, by kernel_rfl⟩
theorem mk_657 (c : Base) : MakeOk (cx c) 657 654 := ⟨by kernel_rfl, by kernel_rfl, by kernel_rfl, trivial⟩
noncomputable def sc_654 (c : Base) : Sc := ⟨(fdOf (cx c).K 654).scope, ["self", "program", "text", "begin", "least_end", "most"], [], fun _ => True⟩
theorem fk_654 (c : Base) : FnK (cx c) 654 ["self", "program", "text", "begin", "least_end", "most"] ["self", "program", "text", "begin", "least_end", "most"] [6] [] where
  at_ := by kernel_rfl
  isF := ⟨by kernel_rfl, by kernel_rfl, by kernel_rfl, by kernel_rfl⟩
  code := by kernel_rfl
  bind := bindD (ds := []) (fun _ _ => .nil) (one_ar (fun S ws h => by obtain ⟨w0, w1, w2, w3, w4, w5, rfl⟩ := len6 h; kernel_rfl))
  ars := by decide
  pre := ⟨[], rfl⟩
  nd := by decide
  loc := by kernel_rfl
  cell := by kernel_rfl
  co := by kernel_rfl
  gen := by kernel_rfl
  kind := by kernel_rfl
theorem ln_654_0 (c : Base) : LocName (sc_654 c) 0 "self" := ⟨rfl, by kernel_rfl, by kernel_rfl⟩
theorem ln_654_3 (c : Base) : LocName (sc_654 c) 3 "begin" := ⟨rfl, by kernel_rfl, by kernel_rfl⟩
theorem so_657_4 (c : Base) : SetOk (cx c) 657 4 "most" := ⟨rfl, nd_657, fw_657, by kernel_rfl, by kernel_rfl, by kernel_rfl, by kernel_rfl⟩
theorem ln_654_5 (c : Base) : LocName (sc_654 c) 5 "most" := ⟨rfl, by kernel_rfl, by kernel_rfl⟩
theorem so_657_3 (c : Base) : SetOk (cx c) 657 3 "least_end" := ⟨rfl, nd_657, fw_657, by kernel_rfl, by kernel_rfl, by kernel_rfl, by kernel_rfl⟩
theorem ln_654_4 (c : Base) : LocName (sc_654 c) 4 "least_end" := ⟨rfl, by kernel_rfl, by kernel_rfl⟩
theorem so_657_2 (c : Base) : SetOk (cx c) 657 2 "begin" := ⟨rfl, nd_657, fw_657, by kernel_rfl, by kernel_rfl, by kernel_rfl, by kernel_rfl⟩
theorem so_657_1 (c : Base) : SetOk (cx c) 657 1 "text" := ⟨rfl, nd_657, fw_657, by kernel_rfl, by kernel_rfl, by kernel_rfl, by kernel_rfl⟩
theorem ln_654_2 (c : Base) : LocName (sc_654 c) 2 "text" := ⟨rfl, by kernel_rfl, by kernel_rfl⟩
theorem so_657_0 (c : Base) : SetOk (cx c) 657 0 "program" := ⟨rfl, nd_657, fw_657, by kernel_rfl, by kernel_rfl, by kernel_rfl, by kernel_rfl⟩
theorem ln_654_1 (c : Base) : LocName (sc_654 c) 1 "program" := ⟨rfl, by kernel_rfl, by kernel_rfl⟩
noncomputable def B_MatchRun___init__ : SS := (seqS (asgS (asgA 657 0 (lE 0)) (lE 1))
  (seqS (asgS (asgA 657 1 (lE 0)) (lE 2))
  (seqS (asgS (asgA 657 2 (lE 0)) (lE 3))
  (seqS (asgS (asgA 657 3 (lE 0)) (lE 4))
  (seqS (asgS (asgA 657 4 (lE 0)) (lE 5))
  (seqS (asgS (asgA 657 5 (lE 0)) (cE (.int 0)))
  (seqS (asgS (asgA 657 6 (lE 0)) (lE 3))
  (seqS (asgS (asgA 657 7 (lE 0)) (cE (.int 0)))
  (seqS (asgS (asgA 657 8 (lE 0)) (listE esN))
  (seqS (asgS (asgA 657 9 (lE 0)) (listE esN))
  (seqS (asgS (asgA 657 10 (lE 0)) (listE esN))
  nilS)))))))))))
theorem S_MatchRun___init__ (c : Base) : SoundB (cx c) 0 (sc_654 c) (stOf (cx c).K 654) B_MatchRun___init__ := (sb_cons (s_asg (u_attr (l_name (ln_654_0 c)) (so_657_0 c)) (l_name (ln_654_1 c)) (fun _ => rfl) (fun _ => rfl) (fun _ => rfl))
  (sb_cons (s_asg (u_attr (l_name (ln_654_0 c)) (so_657_1 c)) (l_name (ln_654_2 c)) (fun _ => rfl) (fun _ => rfl) (fun _ => rfl))
  (sb_cons (s_asg (u_attr (l_name (ln_654_0 c)) (so_657_2 c)) (l_name (ln_654_3 c)) (fun _ => rfl) (fun _ => rfl) (fun _ => rfl))
  (sb_cons (s_asg (u_attr (l_name (ln_654_0 c)) (so_657_3 c)) (l_name (ln_654_4 c)) (fun _ => rfl) (fun _ => rfl) (fun _ => rfl))
  (sb_cons (s_asg (u_attr (l_name (ln_654_0 c)) (so_657_4 c)) (l_name (ln_654_5 c)) (fun _ => rfl) (fun _ => rfl) (fun _ => rfl))
  (sb_cons (s_asg (u_attr (l_name (ln_654_0 c)) (so_657_5 c)) c_int (fun _ => rfl) (fun _ => rfl) (fun _ => rfl))
  (sb_cons (s_asg (u_attr (l_name (ln_654_0 c)) (so_657_6 c)) (l_name (ln_654_3 c)) (fun _ => rfl) (fun _ => rfl) (fun _ => rfl))
  (sb_cons (s_asg (u_attr (l_name (ln_654_0 c)) (so_657_7 c)) c_int (fun _ => rfl) (fun _ => rfl) (fun _ => rfl))
  (sb_cons (s_asg (u_attr (l_name (ln_654_0 c)) (so_657_8 c)) (b_list es_nil) (fun _ => rfl) (fun _ => rfl) (fun _ => rfl))
  (sb_cons (s_asg (u_attr (l_name (ln_654_0 c)) (so_657_9 c)) (b_list es_nil) (fun _ => rfl) (fun _ => rfl) (fun _ => rfl))
  (sb_cons (s_asg (u_attr (l_name (ln_654_0 c)) (so_657_10 c)) (b_list es_nil) (fun _ => rfl) (fun _ => rfl) (fun _ => rfl))
  sb_nil)))))))))))
noncomputable def F_MatchRun___init__ : FnG := runB [6] 6 6 [] B_MatchRun___init__
theorem ok_MatchRun___init__ (c : Base) : CallOk (cx c) 1 (.ref ((cx c).ga 654)) F_MatchRun___init__ := fn_okK (fk_654 c) (S_MatchRun___init__ c)
theorem kp_657 (c : Base) : keepIn (cx c).K (.ref ((cx c).ga 657)) = true := by kernel_rfl
theorem gv_MatchRun (c : Base) : nsIn (cx c).K mainGlobals "MatchRun" = some (some (.ref 657)) := by kernel_rfl
theorem gn_849_MatchRun (c : Base) : GloName (cx c) (sc_849 c) "MatchRun" (.ref 657) := ⟨gv_MatchRun c, by kernel_rfl, by kernel_rfl⟩
theorem fn_849_MatchRun (c : Base) : FnName (cx c) (sc_849 c) "MatchRun" 657 := ⟨gn_849_MatchRun c, kp_657 c⟩
noncomputable def B_search_pattern : SS := (seqS (asgS (asgL 7) (clsE 657 11 F_MatchRun___init__ (esC (lE 0) (esC (lE 1) (esC (ifE (tE (bE isV (lE 5) (cE .none))) (lE 2) noE) (esC (lE 4) (esC (attrE 636 2 (lE 3)) esN)))))))
  (seqS (asgS (asgA 657 5 (lE 7)) (ifE (tE (bE isV (lE 6) (cE .none))) noE (subE (lE 6) (cE (.int 0)))))
  (seqS (asgS (asgL 8) (callE F_row_words esN))
  (seqS (asgS (asgL 9) (lE 2))
  (seqS (whileS (tAnd (tE (bE leV (lE 9) (bltE lenG (esC (lE 1) esN)))) (tAnd (tN (tE (callE F_match_from (esC (lE 7) (esC (lE 8) (esC (lE 9) esN)))))) (tB true)))
  (seqS (augL 9 iaddV (cE (.int 1)))
  nilS) 1000)
  (seqS (ifS (tE (bE isNotV (lE 6) (cE .none)))
  (seqS (asgS (asgI (lE 6) (cE (.int 0))) (attrE 657 5 (lE 7)))
  nilS)
  nilS)
  (seqS (retS (ifE (tE (bE leV (lE 9) (bltE lenG (esC (lE 1) esN)))) (attrE 657 8 (lE 7)) (cE .none)))
  nilS)))))))
theorem S_search_pattern (c : Base) : SoundB (cx c) 5 (sc_849 c) (stOf (cx c).K 849) B_search_pattern := (sb_cons (s_asg (u_name (ln_849_7 c)) (b_cls (fn_849_MatchRun c) (mk_657 c) rfl ((ok_MatchRun___init__ c).up rfl) (es_cons (l_name (ln_849_0 c)) (es_cons (l_name (ln_849_1 c)) (es_cons (b_if (t_cmp (l_name (ln_849_5 c)) c_none bin_is rfl) (l_name (ln_849_2 c)) no_e) (es_cons (l_name (ln_849_4 c)) (es_cons (b_attr (l_name (ln_849_3 c)) (ao_636_2 c) (fun _ => rfl)) es_nil (fun _ => rfl)) (fun _ => rfl)) (fun _ => rfl)) (fun _ => rfl)) (fun _ => rfl)) (fun _ => ⟨rfl, rfl⟩) nilOk_cons (fun _ => rfl)) (fun _ => rfl) (fun _ => rfl) (fun _ => rfl))
  (sb_cons (s_asg (u_attr (l_name (ln_849_7 c)) (so_657_5 c)) (b_if (t_cmp (l_name (ln_849_6 c)) c_none bin_is rfl) no_e (b_sub (l_name (ln_849_6 c)) c_int (fun _ _ => rfl))) (fun _ => rfl) (fun _ => rfl) (fun _ => rfl))
  (sb_cons (s_asg (u_name (ln_849_8 c)) (b_call (fn_849_row_words c) ((ok_row_words c).up rfl) es_nil (fun _ => ⟨rfl, trivial⟩) nilOk_nil (fun _ => rfl)) (fun _ => rfl) (fun _ => rfl) (fun _ => rfl))
  (sb_cons (s_asg (u_name (ln_849_9 c)) (l_name (ln_849_2 c)) (fun _ => rfl) (fun _ => rfl) (fun _ => rfl))
  (sb_cons (s_while 1000 (t_bool (a_and (t_cmp (l_name (ln_849_9 c)) (b_blt (bn_849_len c) f_len (es_cons (l_name (ln_849_1 c)) es_nil (fun _ => rfl)) (fun _ => ⟨rfl, rfl⟩) (fun _ => ⟨rfl, trivial⟩) (fun _ => rfl)) bin_le rfl) (a_and (t_not (t_val (b_call (fn_849_match_from c) ((ok_match_from c).up rfl) (es_cons (l_name (ln_849_7 c)) (es_cons (l_name (ln_849_8 c)) (es_cons (l_name (ln_849_9 c)) es_nil (fun _ => rfl)) (fun _ => rfl)) (fun _ => rfl)) (fun _ => ⟨rfl, rfl⟩) nilOk_cons (fun _ => rfl)) (fun _ _ => rfl))) a_andNil)))
  (sb_cons (s_augL (ln_849_9 c) c_int bin_iadd)
  sb_nil))
  (sb_cons (s_if (t_cmp (l_name (ln_849_6 c)) c_none bin_isNot rfl)
  (sb_cons (s_asg (u_item (l_name (ln_849_6 c)) c_int) (b_attr (l_name (ln_849_7 c)) (ao_657_5 c) (fun _ => rfl)) (fun _ => rfl) (fun _ => rfl) (fun _ => rfl))
  sb_nil)
  sb_nil)
  (sb_cons (s_ret (b_if (t_cmp (l_name (ln_849_9 c)) (b_blt (bn_849_len c) f_len (es_cons (l_name (ln_849_1 c)) es_nil (fun _ => rfl)) (fun _ => ⟨rfl, rfl⟩) (fun _ => ⟨rfl, trivial⟩) (fun _ => rfl)) bin_le rfl) (b_attr (l_name (ln_849_7 c)) (ao_657_8 c) (fun _ => rfl)) c_none))
  sb_nil)))))))
noncomputable def F_search_pattern : FnG := runB [7] 7 10 [.none, .none] B_search_pattern
theorem ok_search_pattern (c : Base) : CallOk (cx c) 6 (.ref ((cx c).ga 849)) F_search_pattern := fn_okK (fk_849 c) (S_search_pattern c)
theorem kp_849 (c : Base) : keepIn (cx c).K (.ref ((cx c).ga 849)) = true := by kernel_rfl
theorem gv_search_pattern (c : Base) : nsIn (cx c).K mainGlobals "search_pattern" = some (some (.ref 849)) := by kernel_rfl
theorem gn_857_search_pattern (c : Base) : GloName (cx c) (sc_857 c) "search_pattern" (.ref 849) := ⟨gv_search_pattern c, by kernel_rfl, by kernel_rfl⟩
theorem fn_857_search_pattern (c : Base) : FnName (cx c) (sc_857 c) "search_pattern" 849 := ⟨gn_857_search_pattern c, kp_849 c⟩
theorem bn_857_len (c : Base) : BltName (cx c) (sc_857 c) "len" (.builtin "len") := ⟨gz_len c, by kernel_rfl, by decide, by kernel_rfl, by kernel_rfl⟩
noncomputable def B_next_match : SS := (seqS (ifS (tE (bE gtV (lE 2) (bltE lenG (esC (lE 1) esN))))
  noS
  nilS)
  (seqS (retS (callE F_search_pattern (esC (lE 0) (esC (lE 1) (esC (lE 2) (esC (lE 4) (esC (ifE (tE (lE 3)) noE (cE (.int 0))) (esC (lE 5) (esC (lE 6) esN)))))))))
  nilS))
theorem S_next_match (c : Base) : SoundB (cx c) 6 (sc_857 c) (stOf (cx c).K 857) B_next_match := (sb_cons (s_if (t_cmp (l_name (ln_857_2 c)) (b_blt (bn_857_len c) f_len (es_cons (l_name (ln_857_1 c)) es_nil (fun _ => rfl)) (fun _ => ⟨rfl, rfl⟩) (fun _ => ⟨rfl, trivial⟩) (fun _ => rfl)) bin_gt rfl)
  no_b
  sb_nil)
  (sb_cons (s_ret (b_call (fn_857_search_pattern c) ((ok_search_pattern c).up rfl) (es_cons (l_name (ln_857_0 c)) (es_cons (l_name (ln_857_1 c)) (es_cons (l_name (ln_857_2 c)) (es_cons (l_name (ln_857_4 c)) (es_cons (b_if (t_val (l_name (ln_857_3 c)) (fun _ _ => rfl)) no_e c_int) (es_cons (l_name (ln_857_5 c)) (es_cons (l_name (ln_857_6 c)) es_nil (fun _ => rfl)) (fun _ => rfl)) (fun _ => rfl)) (fun _ => rfl)) (fun _ => rfl)) (fun _ => rfl)) (fun _ => rfl)) (fun _ => ⟨rfl, rfl⟩) nilOk_cons (fun _ => rfl)))
  sb_nil))
noncomputable def F_next_match : FnG := runB [7] 7 7 [] B_next_match
theorem ok_next_match (c : Base) : CallOk (cx c) 7 (.ref ((cx c).ga 857)) F_next_match := fn_okK (fk_857 c) (S_next_match c)
theorem kp_857 (c : Base) : keepIn (cx c).K (.ref ((cx c).ga 857)) = true := by kernel_rfl
theorem gv_next_match (c : Base) : nsIn (cx c).K mainGlobals "next_match" = some (some (.ref 857)) := by kernel_rfl
theorem gn_865_next_match (c : Base) : GloName (cx c) (sc_865 c) "next_match" (.ref 857) := ⟨gv_next_match c, by kernel_rfl, by kernel_rfl⟩
theorem fn_865_next_match (c : Base) : FnName (cx c) (sc_865 c) "next_match" 857 := ⟨gn_865_next_match c, kp_857 c⟩
theorem ln_865_3 (c : Base) : LocName (sc_865 c) 3 "is_global" := ⟨rfl, by kernel_rfl, by kernel_rfl⟩
theorem ln_865_2 (c : Base) : LocName (sc_865 c) 2 "replace" := ⟨rfl, by kernel_rfl, by kernel_rfl⟩
noncomputable def sc_872 (c : Base) : Sc := ⟨(fdOf (cx c).K 872).scope, ["groups"], [], fun _ => True⟩
theorem fk_872 (c : Base) : FnK (cx c) 872 ["groups"] ["groups"] [1] [] where
  at_ := by kernel_rfl
  isF := ⟨by kernel_rfl, by kernel_rfl, by kernel_rfl, by kernel_rfl⟩
  code := by kernel_rfl
  bind := bindD (ds := []) (fun _ _ => .nil) (one_ar (fun S ws h => by obtain ⟨w0, rfl⟩ := len1 h; kernel_rfl))
  ars := by decide
  pre := ⟨[], rfl⟩
  nd := by decide
  loc := by kernel_rfl
  cell := by kernel_rfl
  co := by kernel_rfl
  gen := by kernel_rfl
  kind := by kernel_rfl
theorem ln_872_0 (c : Base) : LocName (sc_872 c) 0 "groups" := ⟨rfl, by kernel_rfl, by kernel_rfl⟩
noncomputable def B__law_group : SS := (seqS (retS (bE mulV (cE (.str [49])) (bE subV (subE (subE (lE 0) (cE (.int 1))) (cE (.int 1))) (subE (subE (lE 0) (cE (.int 1))) (cE (.int 0))))))
  nilS)
theorem S__law_group (c : Base) : SoundB (cx c) 0 (sc_872 c) (stOf (cx c).K 872) B__law_group := (sb_cons (s_ret (b_op (c_str (by kernel_rfl)) (b_op (b_sub (b_sub (l_name (ln_872_0 c)) c_int (fun _ _ => rfl)) c_int (fun _ _ => rfl)) (b_sub (b_sub (l_name (ln_872_0 c)) c_int (fun _ _ => rfl)) c_int (fun _ _ => rfl)) bin_sub) bin_mul))
  sb_nil)
noncomputable def F__law_group : FnG := runB [1] 1 1 [] B__law_group
theorem ok__law_group (c : Base) : CallOk (cx c) 1 (.ref ((cx c).ga 872)) F__law_group := fn_okK (fk_872 c) (S__law_group c)
theorem kp_872 (c : Base) : keepIn (cx c).K (.ref ((cx c).ga 872)) = true := by kernel_rfl
noncomputable def sc_k0 (c : Base) : Sc := ⟨((cx c).cd 0).scope, ["groups"], ((cx c).cd 0).fv, fun _ => True⟩
theorem cn_k0_0 (c : Base) : CelName (sc_k0 c) 0 "times" := ⟨rfl, by kernel_rfl, by kernel_rfl, by kernel_rfl⟩
noncomputable def B_k0 : SS := (seqS (retS (bE mulV (cE (.str [49])) (ceE 0)))
  nilS)
theorem S_k0 (c : Base) : SoundB (cx c) 0 (sc_k0 c) ((cx c).cd 0).body B_k0 := (sb_cons (s_ret (b_op (c_str (by kernel_rfl)) (ce_name (cn_k0_0 c)) bin_mul))
  sb_nil)
noncomputable def F_k0 : CloG := runK 1 1 B_k0
theorem fk_k0 (c : Base) : FnKK (cx c) 0 ["groups"] ["groups"] where
  bind := fun _ _ _ _ _ S ws h => by obtain ⟨w0, rfl⟩ := len1 h; kernel_rfl
  pre := ⟨[], rfl⟩
  nd := by decide
  ndf := by
    have h : ((cx c).cd 0).fv = (["times"] : List Str) := by kernel_rfl
    rw [h]; decide
  loc := by kernel_rfl
  cell := by kernel_rfl
  co := by kernel_rfl
  gen := by kernel_rfl
  kind := by kernel_rfl
theorem ok_k0 (c : Base) : CloOk (cx c) 1 0 F_k0 := clo_okK (fk_k0 c) (S_k0 c)
noncomputable def cloT : Nat → Option CloG := fun n => ([(0, F_k0)] : List (Nat × CloG)).lookup n
theorem clo_ok (c : Base) : CloTab (cx c) 1 cloT := (clo_cons (ok_k0 c) clo_nil)
noncomputable def cloD : Nat → Option FnG := tabOf [(872, F__law_group)]
theorem ln_865_5 (c : Base) : LocName (sc_865 c) 5 "begin" := ⟨rfl, by kernel_rfl, by kernel_rfl⟩
noncomputable def B_substitute : SS := (seqS (asgS (asgL 6) (listE esN))
  (seqS (asgS (asgL 7) (cE (.int 0)))
  (seqS (asgS (asgL 8) (cE (.int 0)))
  (seqS (asgS (asgL 9) (listE (esC (cE (.int 0)) esN)))
  (seqS (asgS (asgL 10) (callE F_next_match (esC (lE 0) (esC (lE 1) (esC (cE (.int 0)) (esC (cE (.bool false)) (esC (lE 4) (esC (lE 5) (esC (lE 9) esN)))))))))
  (seqS (whileS (tE (bE isNotV (lE 10) (cE .none)))
  (seqS (asgS (asgT [11, 12]) (subE (lE 10) (cE (.int 0))))
  (seqS (augL 8 iaddV (cE (.int 1)))
  (seqS (exprS (appendE (lE 6) (sliE (lE 1) (partE (lE 7)) (partE (lE 11)))))
  (seqS (exprS (appendE (lE 6) (dyn2E cloD cloT (lE 2) (esC (lE 10) esN))))
  (seqS (asgS (asgL 7) (lE 12))
  (seqS (ifS (tN (tE (lE 3)))
  (seqS (flS .brk)
  nilS)
  nilS)
  (seqS (asgS (asgL 10) (callE F_next_match (esC (lE 0) (esC (lE 1) (esC (lE 12) (esC (bE eqV (lE 11) (lE 12)) (esC (lE 4) (esC (cE .none) (esC (lE 9) esN)))))))))
  nilS))))))) 1000)
  (seqS (retS (tupE (esC (bE addV (joinE (cE (.str [])) (lE 6)) (sliE (lE 1) (partE (lE 7)) partN)) (esC (lE 8) esN))))
  nilS)))))))
theorem S_substitute (c : Base) : SoundB (cx c) 7 (sc_865 c) (stOf (cx c).K 865) B_substitute := (sb_cons (s_asg (u_name (ln_865_6 c)) (b_list es_nil) (fun _ => rfl) (fun _ => rfl) (fun _ => rfl))
  (sb_cons (s_asg (u_name (ln_865_7 c)) c_int (fun _ => rfl) (fun _ => rfl) (fun _ => rfl))
  (sb_cons (s_asg (u_name (ln_865_8 c)) c_int (fun _ => rfl) (fun _ => rfl) (fun _ => rfl))
  (sb_cons (s_asg (u_name (ln_865_9 c)) (b_list (es_cons c_int es_nil (fun _ => rfl))) (fun _ => rfl) (fun _ => rfl) (fun _ => rfl))
  (sb_cons (s_asg (u_name (ln_865_10 c)) (b_call (fn_865_next_match c) ((ok_next_match c).up rfl) (es_cons (l_name (ln_865_0 c)) (es_cons (l_name (ln_865_1 c)) (es_cons c_int (es_cons c_bool (es_cons (l_name (ln_865_4 c)) (es_cons (l_name (ln_865_5 c)) (es_cons (l_name (ln_865_9 c)) es_nil (fun _ => rfl)) (fun _ => rfl)) (fun _ => rfl)) (fun _ => rfl)) (fun _ => rfl)) (fun _ => rfl)) (fun _ => rfl)) (fun _ => ⟨rfl, rfl⟩) nilOk_cons (fun _ => rfl)) (fun _ => rfl) (fun _ => rfl) (fun _ => rfl))
  (sb_cons (s_while 1000 (t_cmp (l_name (ln_865_10 c)) c_none bin_isNot rfl)
  (sb_cons (s_asg (u_tup (.cons (ln_865_11 c) (.cons (ln_865_12 c) .nil))) (b_sub (l_name (ln_865_10 c)) c_int (fun _ _ => rfl)) (fun _ => rfl) (fun _ => rfl) (fun _ => rfl))
  (sb_cons (s_augL (ln_865_8 c) c_int bin_iadd)
  (sb_cons (s_expr (b_append (l_name (ln_865_6 c)) (b_slice (l_name (ln_865_1 c)) (p_some (l_name (ln_865_7 c))) (p_some (l_name (ln_865_11 c))) (fun _ _ => rfl) (fun _ _ => rfl)) (fun _ => ⟨rfl, rfl⟩) (fun _ => rfl)) (fun _ => rfl))
  (sb_cons (s_expr (b_append (l_name (ln_865_6 c)) (b_dyn2 (l_name (ln_865_2 c)) (tab_cons ((ok__law_group c).up rfl) (kp_872 c) tab_nil) ((clo_ok c).up rfl) (es_cons (l_name (ln_865_10 c)) es_nil (fun _ => rfl)) (fun _ => ⟨rfl, rfl⟩) nilOk_cons (fun _ => rfl)) (fun _ => ⟨rfl, rfl⟩) (fun _ => rfl)) (fun _ => rfl))
  (sb_cons (s_asg (u_name (ln_865_7 c)) (l_name (ln_865_12 c)) (fun _ => rfl) (fun _ => rfl) (fun _ => rfl))
  (sb_cons (s_if (t_not (t_val (l_name (ln_865_3 c)) (fun _ _ => rfl)))
  (sb_cons s_break
  sb_nil)
  sb_nil)
  (sb_cons (s_asg (u_name (ln_865_10 c)) (b_call (fn_865_next_match c) ((ok_next_match c).up rfl) (es_cons (l_name (ln_865_0 c)) (es_cons (l_name (ln_865_1 c)) (es_cons (l_name (ln_865_12 c)) (es_cons (b_cmp (l_name (ln_865_11 c)) (l_name (ln_865_12 c)) bin_eq rfl) (es_cons (l_name (ln_865_4 c)) (es_cons c_none (es_cons (l_name (ln_865_9 c)) es_nil (fun _ => rfl)) (fun _ => rfl)) (fun _ => rfl)) (fun _ => rfl)) (fun _ => rfl)) (fun _ => rfl)) (fun _ => rfl)) (fun _ => ⟨rfl, rfl⟩) nilOk_cons (fun _ => rfl)) (fun _ => rfl) (fun _ => rfl) (fun _ => rfl))
  sb_nil))))))))
  (sb_cons (s_ret (b_tup (es_cons (b_op (b_join (c_str (by kernel_rfl)) (l_name (ln_865_6 c)) (fun _ => ⟨rfl, rfl⟩) (fun _ => rfl)) (b_slice (l_name (ln_865_1 c)) (p_some (l_name (ln_865_7 c))) p_none (fun _ _ => rfl) (fun _ _ => rfl)) bin_add) (es_cons (l_name (ln_865_8 c)) es_nil (fun _ => rfl)) (fun _ => rfl))))
  sb_nil)))))))
noncomputable def F_substitute : FnG := gcG (runB [5] 6 13 [.none] B_substitute)
theorem ok_substitute (c : Base) : CallOk (cx c) 8 (.ref ((cx c).ga 865)) F_substitute := gc_ok (fn_okK (fk_865 c) (S_substitute c))
theorem kp_865 (c : Base) : keepIn (cx c).K (.ref ((cx c).ga 865)) = true := by kernel_rfl
theorem gv_substitute (c : Base) : nsIn (cx c).K mainGlobals "substitute" = some (some (.ref 865)) := by kernel_rfl
theorem gn_879_substitute (c : Base) : GloName (cx c) (sc_879 c) "substitute" (.ref 865) := ⟨gv_substitute c, by kernel_rfl, by kernel_rfl⟩
theorem fn_879_substitute (c : Base) : FnName (cx c) (sc_879 c) "substitute" 865 := ⟨gn_879_substitute c, kp_865 c⟩
noncomputable def B_law_f6_2 (xs : List V) : SS := (gcS (asgS (asgT [8, 9]) (callE F_substitute (esC (lE 3) (esC (lE 5) (esC (cE (.g 872)) (esC (cE (.bool false)) (esC (clsE 636 5 F_Limits___init__ esN) esN))))))))
noncomputable def B_law_f6_3 (xs : List V) : SS := (ifS (tE (hE neT (tupE (esC (lE 8) (esC (lE 9) esN))) (ifE (tE (bE eqV (bE modV (lE 2) (cE (.int 2))) (cE (.int 0)))) (tupE (esC (bE mulV (cE (.str [49])) (bE divV (lE 2) (cE (.int 2)))) (esC (cE (.int 1)) esN))) (tupE (esC (lE 5) (esC (cE (.int 0)) esN))))))
  noS
  nilS)
noncomputable def B_law_f6_4 (xs : List V) : SS := (swapS [5, 2] (esC (lE 8) (esC (ifE (tE (bE eqV (lE 9) (cE (.int 1)))) (bE divV (lE 2) (cE (.int 2))) (bE addV (bE mulV (ceE 0) (lE 2)) (cE (.int 1)))) esN)))
theorem ln_879_10 (c : Base) : LocName (sc_879 c) 10 "longer" := ⟨rfl, by kernel_rfl, by kernel_rfl⟩
theorem ln_879_11 (c : Base) : LocName (sc_879 c) 11 "many" := ⟨rfl, by kernel_rfl, by kernel_rfl⟩
noncomputable def B_law_f6_5 (xs : List V) : SS := (dropS [8, 9, 10, 11] (ifS (tE (bE eqV (lE 9) (cE (.int 0))))
  (seqS (gcS (asgS (asgT [10, 11]) (callE F_substitute (esC (lE 4) (esC (lE 5) (esC (lE 6) (esC (cE (.bool true)) (esC (clsE 636 5 F_Limits___init__ esN) esN))))))))
  (seqS (ifS (tE (bE neV (lE 11) (bltE lenG (esC (lE 5) esN))))
  noS
  nilS)
  (seqS (asgS (asgL 5) (bE addV (lE 10) (cE (.str [49]))))
  nilS)))
  nilS))
noncomputable def B_law_f6 (xs : List V) : SS := (seqS (B_law_f6_0 xs) (seqS (B_law_f6_1 xs) (seqS (B_law_f6_2 xs) (seqS (B_law_f6_3 xs) (seqS (B_law_f6_4 xs) (seqS (B_law_f6_5 xs) nilS))))))
theorem bn_879_range (c : Base) : BltName (cx c) (sc_879 c) "range" (.type "range") := ⟨gz_range c, by kernel_rfl, by decide, by kernel_rfl, by kernel_rfl⟩
noncomputable def B_law_6 (xs : List V) : SS := (forRS (cE (.int 0)) (cE (.int 8)) (asgL 7)
  (B_law_f6 xs) 1000)
noncomputable def B_law_7 (xs : List V) : SS := (retS (vAnd (bE eqV (lE 5) (cE (.str [49]))) (bE eqV (lE 2) (cE (.int 1)))))
noncomputable def B_law (xs : List V) : SS := (seqS (B_law_0 xs) (seqS (B_law_1 xs) (seqS (B_law_2 xs) (seqS (B_law_3 xs) (seqS (B_law_4 xs) (seqS (B_law_5 xs) (seqS (B_law_6 xs) (seqS (B_law_7 xs) nilS))))))))
theorem S_law (c : Base) {xs : List V} (hx : ScrOk (cx c) 5000000 2 xs) : SoundB (cx c) 17 (sc_879 c) (stOf (cx c).K 879) (B_law xs) := (sb_cons (junk_s (s_asg (u_name (ln_879_1 c)) (h_op (b_scr hx (l_name (ln_879_0 c)) p_none (p_some c_int) (fun _ _ => rfl)) (b_sliceT (b_list (es_cons c_int (es_cons c_int es_nil (fun _ => rfl)) (fun _ => rfl))) (p_some (b_blt (bn_879_len c) f_len (es_cons (b_scr hx (l_name (ln_879_0 c)) p_none (p_some c_int) (fun _ _ => rfl)) es_nil (fun _ => rfl)) (fun _ => ⟨rfl, rfl⟩) (fun _ => ⟨rfl, trivial⟩) (fun _ => rfl))) p_none (fun _ _ => rfl)) binh_add) (fun _ => rfl) (fun _ => rfl) (fun _ => rfl)))
  (sb_cons (s_asg (u_cell (co_879_0 c)) (b_sub (b_tup (es_cons c_int (es_cons c_int es_nil (fun _ => rfl)) (fun _ => rfl))) (b_op (b_sub (l_name (ln_879_1 c)) c_int (fun _ _ => rfl)) c_int bin_mod) (fun _ _ => rfl)) (fun _ => rfl) (fun _ => rfl) (fun _ => rfl))
  (sb_cons (junk_s (s_asg (u_name (ln_879_2 c)) (b_op c_int (b_op (b_sub (l_name (ln_879_1 c)) c_int (fun _ _ => rfl)) (b_if (t_cmp (ce_name (cn_879_0 c)) c_int bin_eq rfl) c_int c_int) bin_mod) bin_add) (fun _ => rfl) (fun _ => rfl) (fun _ => rfl)))
  (sb_cons (s_swap (.cons (ln_879_3 c) (.cons (ln_879_4 c) .nil)) (es_cons (b_call (fn_879_compile_pattern c) ((ok_compile_pattern c).up rfl) (es_cons (c_str (by kernel_rfl)) (es_cons (c_str (by kernel_rfl)) es_nil (fun _ => rfl)) (fun _ => rfl)) (fun _ => ⟨rfl, rfl⟩) nilOk_cons (fun _ => rfl)) (es_cons (b_call (fn_879_compile_pattern c) ((ok_compile_pattern c).up rfl) (es_cons (c_str (by kernel_rfl)) (es_cons (c_str (by kernel_rfl)) es_nil (fun _ => rfl)) (fun _ => rfl)) (fun _ => ⟨rfl, rfl⟩) nilOk_cons (fun _ => rfl)) es_nil (fun _ => rfl)) (fun _ => rfl)) (fun _ => rfl) (fun _ => by kernel_rfl))
  (sb_cons (s_asg (u_name (ln_879_5 c)) (b_op (c_str (by kernel_rfl)) (l_name (ln_879_2 c)) bin_mul) (fun _ => rfl) (fun _ => rfl) (fun _ => rfl))
  (sb_cons (s_def (ln_879_6 c) (fun _ h => h) (by kernel_rfl) (by kernel_rfl) rfl rfl (fun _ => rfl))
  (sb_cons (s_for1 1000 (bn_879_range c) c_int (u_name (ln_879_7 c))
  (sb_cons (s_if (t_cmp (l_name (ln_879_5 c)) (b_op (c_str (by kernel_rfl)) (l_name (ln_879_2 c)) bin_mul) bin_ne rfl)
  no_b
  sb_nil)
  (sb_cons (s_if (t_cmp (l_name (ln_879_2 c)) c_int bin_eq rfl)
  (sb_cons (s_ret c_bool)
  sb_nil)
  sb_nil)
  (sb_cons (gc_s (s_asg (u_tup (.cons (ln_879_8 c) (.cons (ln_879_9 c) .nil))) (b_call (fn_879_substitute c) ((ok_substitute c).up rfl) (es_cons (l_name (ln_879_3 c)) (es_cons (l_name (ln_879_5 c)) (es_cons (g_name (gn_879__law_group c) (fun _ _ => (.g 872))) (es_cons c_bool (es_cons (b_cls (fn_879_Limits c) (mk_636 c) rfl ((ok_Limits___init__ c).up rfl) es_nil (fun _ => ⟨rfl, trivial⟩) nilOk_nil (fun _ => rfl)) es_nil (fun _ => rfl)) (fun _ => rfl)) (fun _ => rfl)) (fun _ => rfl)) (fun _ => rfl)) (fun _ => ⟨rfl, rfl⟩) nilOk_cons (fun _ => rfl)) (fun _ => rfl) (fun _ => rfl) (fun _ => rfl)))
  (sb_cons (s_if (ht_cmp (b_tup (es_cons (l_name (ln_879_8 c)) (es_cons (l_name (ln_879_9 c)) es_nil (fun _ => rfl)) (fun _ => rfl))) (b_if (t_cmp (b_op (l_name (ln_879_2 c)) c_int bin_mod) c_int bin_eq rfl) (b_tup (es_cons (b_op (c_str (by kernel_rfl)) (b_op (l_name (ln_879_2 c)) c_int bin_div) bin_mul) (es_cons c_int es_nil (fun _ => rfl)) (fun _ => rfl))) (b_tup (es_cons (l_name (ln_879_5 c)) (es_cons c_int es_nil (fun _ => rfl)) (fun _ => rfl)))) binh_neT rfl)
  no_b
  sb_nil)
  (sb_cons (s_swap (.cons (ln_879_5 c) (.cons (ln_879_2 c) .nil)) (es_cons (l_name (ln_879_8 c)) (es_cons (b_if (t_cmp (l_name (ln_879_9 c)) c_int bin_eq rfl) (b_op (l_name (ln_879_2 c)) c_int bin_div) (b_op (b_op (ce_name (cn_879_0 c)) (l_name (ln_879_2 c)) bin_mul) c_int bin_add)) es_nil (fun _ => rfl)) (fun _ => rfl)) (fun _ => rfl) (fun _ => by kernel_rfl))
  (sb_cons (drop_s (s_if (t_cmp (l_name (ln_879_9 c)) c_int bin_eq rfl)
  (sb_cons (gc_s (s_asg (u_tup (.cons (ln_879_10 c) (.cons (ln_879_11 c) .nil))) (b_call (fn_879_substitute c) ((ok_substitute c).up rfl) (es_cons (l_name (ln_879_4 c)) (es_cons (l_name (ln_879_5 c)) (es_cons (l_name (ln_879_6 c)) (es_cons c_bool (es_cons (b_cls (fn_879_Limits c) (mk_636 c) rfl ((ok_Limits___init__ c).up rfl) es_nil (fun _ => ⟨rfl, trivial⟩) nilOk_nil (fun _ => rfl)) es_nil (fun _ => rfl)) (fun _ => rfl)) (fun _ => rfl)) (fun _ => rfl)) (fun _ => rfl)) (fun _ => ⟨rfl, rfl⟩) nilOk_cons (fun _ => rfl)) (fun _ => rfl) (fun _ => rfl) (fun _ => rfl)))
  (sb_cons (s_if (t_cmp (l_name (ln_879_11 c)) (b_blt (bn_879_len c) f_len (es_cons (l_name (ln_879_5 c)) es_nil (fun _ => rfl)) (fun _ => ⟨rfl, rfl⟩) (fun _ => ⟨rfl, trivial⟩) (fun _ => rfl)) bin_ne rfl)
  no_b
  sb_nil)
  (sb_cons (s_asg (u_name (ln_879_5 c)) (b_op (l_name (ln_879_10 c)) (c_str (by kernel_rfl)) bin_add) (fun _ => rfl) (fun _ => rfl) (fun _ => rfl))
  sb_nil)))
  sb_nil))
  sb_nil)))))) (.inl (fun _ _ => rfl)) (fun _ _ => rfl) (fun _ => ⟨rfl, rfl⟩) (fun _ => rfl))
  (sb_cons (s_ret (b_bool (o_and (b_cmp (l_name (ln_879_5 c)) (c_str (by kernel_rfl)) bin_eq rfl) (o_one (b_cmp (l_name (ln_879_2 c)) c_int bin_eq rfl)))))
  sb_nil))))))))
end
end Mp
namespace Mp
/-! the run of law 1, by turns -/
noncomputable def okObs : List Ob := [.cell (.str []), .inst 314 [(.str [94, 40, 49, 43, 41, 92, 49, 36]), (.int 1), (.int 8), (.int 1), (.int 0), (.ref 9), (.ref 10)], .dict [], .list [(.tup [(.ref 16), (.int 5)])], .list [], .list [(.tup [(.str [115, 101, 113]), (.ref 13)])], .list [(.tup [(.str [97, 116]), (.str [65])]), (.tup [(.str [103, 114, 111, 117, 112]), (.int 1), (.tup [(.str [115, 101, 113]), (.ref 15)])]), (.tup [(.str [98, 97, 99, 107]), (.ref 16), (.bool false)]), (.tup [(.str [97, 116]), (.str [90])])], .list [(.tup [(.str [115, 101, 113]), (.ref 15)])], .list [(.tup [(.str [114, 101, 112]), (.tup [(.str [115, 105, 103, 110]), (.str [49]), (.bool false)]), (.int 1), (.int (-1)), (.str [103, 114, 101, 101, 100, 121])])], .list [(.int 1)], .list [], .inst 67 [(.ref 19), (.int 1)], .list [(.tup [(.str [97, 116]), (.str [65])]), (.tup [(.str [111, 112, 101, 110]), (.int 0)]), (.tup [(.str [114, 117, 110]), (.tup [(.str [115, 105, 103, 110]), (.str [49]), (.bool false)]), (.int 1), (.int (-1)), (.bool false)]), (.tup [(.str [99, 108, 111, 115, 101]), (.int 1), (.int 0)]), (.tup [(.str [98, 97, 99, 107]), (.ref 16), (.bool false)]), (.tup [(.str [97, 116]), (.str [90])]), (.tup [(.str [101, 110, 100])])], .inst 32 [(.ref 19), (.int 1), (.int 1), (.ref 9)], .cell (.str []), .inst 314 [(.str [49]), (.int 0), (.int 1), (.int 0), (.int 0), (.ref 23), (.ref 24)], .dict [], .list [], .list [], .list [(.tup [(.str [115, 101, 113]), (.ref 27)])], .list [(.tup [(.str [115, 105, 103, 110]), (.str [49]), (.bool false)])], .inst 67 [(.ref 29), (.int 0)], .list [(.tup [(.str [115, 105, 103, 110]), (.str [49]), (.bool false)]), (.tup [(.str [101, 110, 100])])], .inst 32 [(.ref 29), (.int 0), (.int 0), (.ref 23)]]
noncomputable def jk : List Ob := [.junk, .junk, .junk, .junk, .junk]
noncomputable abbrev U : V := .undef
noncomputable def S0 : S := ⟨[.g 5000000, U, U, U, U, U, U, U, U, U, U, U], [1], [.tab 0 false, .cell .undef]⟩
noncomputable def S1 (u v : Int) : S := ⟨[.g 5000000, .ref 6, U, U, U, U, U, U, U, U, U, U], [1], [.tab 0 false, .cell .undef, .junk, .junk, .junk, .junk, .list [.int u, .int v]]⟩
noncomputable def S2 (u v t : Int) : S := ⟨[.g 5000000, .ref 6, U, U, U, U, U, U, U, U, U, U], [1], [.tab 0 false, .cell (.int t), .junk, .junk, .junk, .junk, .list [.int u, .int v]]⟩
noncomputable def S3 (t n : Int) : S := ⟨[.g 5000000, .ref 6, .int n, U, U, U, U, U, U, U, U, U], [1], .tab 0 false :: .cell (.int t) :: jk⟩
noncomputable def S4 (t n : Int) : S := ⟨[.g 5000000, .ref 6, .int n, .ref 20, .ref 30, U, U, U, U, U, U, U], [1], .tab 0 false :: .cell (.int t) :: (jk ++ okObs)⟩
noncomputable def S5 (t n : Int) (r : List Nat) : S := ⟨[.g 5000000, .ref 6, .int n, .ref 20, .ref 30, .str r, U, U, U, U, U, U], [1], .tab 0 false :: .cell (.int t) :: (jk ++ okObs)⟩
noncomputable def SL (t n : Int) (r : List Nat) (tn : V) : S := ⟨[.g 5000000, .ref 6, .int n, .ref 20, .ref 30, .str r, .ref 31, tn, U, U, U, U], [1], .tab 0 true :: .cell (.int t) :: (jk ++ okObs ++ [.clo 0 [1]])⟩
theorem e0_0 : B_law_0 [] S0 = some (.next, S1 0 2) := by kernel_rfl
theorem e0_1 (a : Int) : B_law_0 [.int a] S0 = some (.next, S1 a 2) := by kernel_rfl
theorem e0_2 (a b : Int) : B_law_0 [.int a, .int b] S0 = some (.next, S1 a b) := by kernel_rfl
noncomputable def F1 (r : Int) : SS := asgS (asgC 0) (subE (tupE (esC (cE (.int 3)) (esC (cE (.int 1)) esN))) (fun S => some (.int r, S.st)))
theorem e1 (xs : List V) (u v : Int) : B_law_1 xs (S1 u v) = F1 (u % 2) (S1 u v) := by kernel_rfl
theorem e1_0 (u v : Int) : F1 0 (S1 u v) = some (.next, S2 u v 3) := by kernel_rfl
theorem e1_1 (u v : Int) : F1 1 (S1 u v) = some (.next, S2 u v 1) := by kernel_rfl
theorem e2_3 (xs : List V) (u v : Int) : B_law_2 xs (S2 u v 3) = some (.next, S3 3 (1 + v % 6)) := by kernel_rfl
theorem e2_1 (xs : List V) (u v : Int) : B_law_2 xs (S2 u v 1) = some (.next, S3 1 (1 + v % 12)) := by kernel_rfl
theorem e3 (xs : List V) (t n : Int) : B_law_3 xs (S3 t n) = some (.next, S4 t n) := by kernel_rfl
theorem seq_next {a b : SS} {σ σ' : S} {r} (h : a σ = some (.next, σ')) (hb : b σ' = r) : seqS a b σ = r := by unfold seqS; rw [h]; exact hb
noncomputable def rest (xs : List V) : SS := seqS (B_law_7 xs) nilS
noncomputable def runT (xs : List V) (k i : Nat) : SS := seqS (forS (itemR 0 8) (asgL 7) (B_law_f6 xs) k i) (rest xs)
noncomputable def Ends (f : SS) (σ : S) : Prop := ∃ S', f σ = some (.ret (.bool true), S') ∧ S'.st[0]? = some (.tab 0 true)
theorem for_eq (xs : List V) (t n : Int) (r : List Nat) : B_law_6 xs (SL t n r U) = forS (itemR 0 8) (asgL 7) (B_law_f6 xs) 1000 0 (SL t n r U) := by kernel_rfl
theorem good_step {xs : List V} {t n n' : Int} {r r' : List Nat} (k i : Nat) (hi : (0 + (i : Int)) < 8) (hb : ∀ tn, B_law_f6 xs (SL t n r (.int tn)) = some (.next, SL t n' r' (.int tn)))
    (hr : ∀ tn, Ends (runT xs k (i + 1)) (SL t n' r' tn)) (tn : V) : Ends (runT xs (k + 1) i) (SL t n r tn) := by
  have key : forS (itemR 0 8) (asgL 7) (B_law_f6 xs) (k + 1) i (SL t n r tn) = forS (itemR 0 8) (asgL 7) (B_law_f6 xs) k (i + 1) (SL t n' r' (.int (0 + (i : Int)))) := by
    rw [forS]
    unfold itemR
    rw [if_pos hi]
    show (match B_law_f6 xs (SL t n r (.int (0 + (i : Int)))) with
        | some (.next, S2) => forS (itemR 0 8) (asgL 7) (B_law_f6 xs) k (i + 1) S2
        | some (.cont, S2) => forS (itemR 0 8) (asgL 7) (B_law_f6 xs) k (i + 1) S2
        | some (.brk, S2) => some (.next, S2)
        | some (.ret v, S2) => some (.ret v, S2)
        | none => none) = _
    rw [hb]
    rfl
  obtain ⟨S', h1, h2⟩ := hr (.int (0 + (i : Int)))
  refine ⟨S', ?_, h2⟩
  unfold runT seqS at h1 ⊢
  rw [key]
  exact h1
theorem b1 (xs : List V) (t tn : Int) : B_law_f6 xs (SL t 1 [49] (.int tn)) = some (.ret (.bool true), SL t 1 [49] (.int tn)) := by kernel_rfl
theorem good1 (xs : List V) (t : Int) (k i : Nat) (hi : (0 + (i : Int)) < 8) (tn : V) : Ends (runT xs (k + 1) i) (SL t 1 [49] tn) := by
  have key : forS (itemR 0 8) (asgL 7) (B_law_f6 xs) (k + 1) i (SL t 1 [49] tn) = some (.ret (.bool true), SL t 1 [49] (.int (0 + (i : Int)))) := by
    rw [forS]
    unfold itemR
    rw [if_pos hi]
    show (match B_law_f6 xs (SL t 1 [49] (.int (0 + (i : Int)))) with
        | some (.next, S2) => forS (itemR 0 8) (asgL 7) (B_law_f6 xs) k (i + 1) S2
        | some (.cont, S2) => forS (itemR 0 8) (asgL 7) (B_law_f6 xs) k (i + 1) S2
        | some (.brk, S2) => some (.next, S2)
        | some (.ret v, S2) => some (.ret v, S2)
        | none => none) = _
    rw [b1]
  refine ⟨SL t 1 [49] (.int (0 + (i : Int))), ?_, rfl⟩
  unfold runT seqS
  rw [key]
theorem b7 (xs : List V) (t : Int) (tn : V) : rest xs (SL t 1 [49] tn) = some (.ret (.bool true), SL t 1 [49] tn) := by kernel_rfl
theorem good8 (xs : List V) (t : Int) (k : Nat) (tn : V) : Ends (runT xs (k + 1) 8) (SL t 1 [49] tn) := by
  have key : forS (itemR 0 8) (asgL 7) (B_law_f6 xs) (k + 1) 8 (SL t 1 [49] tn) = some (.next, SL t 1 [49] tn) := by
    rw [forS]
    rfl
  refine ⟨SL t 1 [49] tn, ?_, rfl⟩
  unfold runT seqS
  rw [key]
  exact b7 xs t tn
theorem ev_2 (xs : List V) (t tn : Int) : B_law_f6 xs (SL t 2 [49, 49] (.int tn)) = some (.next, SL t 1 [49] (.int tn)) := by kernel_rfl
theorem ev_4 (xs : List V) (t tn : Int) : B_law_f6 xs (SL t 4 [49, 49, 49, 49] (.int tn)) = some (.next, SL t 2 [49, 49] (.int tn)) := by kernel_rfl
theorem ev_6 (xs : List V) (t tn : Int) : B_law_f6 xs (SL t 6 [49, 49, 49, 49, 49, 49] (.int tn)) = some (.next, SL t 3 [49, 49, 49] (.int tn)) := by kernel_rfl
theorem ev_8 (xs : List V) (t tn : Int) : B_law_f6 xs (SL t 8 [49, 49, 49, 49, 49, 49, 49, 49] (.int tn)) = some (.next, SL t 4 [49, 49, 49, 49] (.int tn)) := by kernel_rfl
theorem ev_10 (xs : List V) (t tn : Int) : B_law_f6 xs (SL t 10 [49, 49, 49, 49, 49, 49, 49, 49, 49, 49] (.int tn)) = some (.next, SL t 5 [49, 49, 49, 49, 49] (.int tn)) := by kernel_rfl
theorem ev_12 (xs : List V) (t tn : Int) : B_law_f6 xs (SL t 12 [49, 49, 49, 49, 49, 49, 49, 49, 49, 49, 49, 49] (.int tn)) = some (.next, SL t 6 [49, 49, 49, 49, 49, 49] (.int tn)) := by kernel_rfl
theorem ev_16 (xs : List V) (t tn : Int) : B_law_f6 xs (SL t 16 [49, 49, 49, 49, 49, 49, 49, 49, 49, 49, 49, 49, 49, 49, 49, 49] (.int tn)) = some (.next, SL t 8 [49, 49, 49, 49, 49, 49, 49, 49] (.int tn)) := by kernel_rfl
theorem od_3_3 (xs : List V) (tn : Int) : B_law_f6 xs (SL 3 3 [49, 49, 49] (.int tn)) = some (.next, SL 3 10 [49, 49, 49, 49, 49, 49, 49, 49, 49, 49] (.int tn)) := by kernel_rfl
theorem od_3_5 (xs : List V) (tn : Int) : B_law_f6 xs (SL 3 5 [49, 49, 49, 49, 49] (.int tn)) = some (.next, SL 3 16 [49, 49, 49, 49, 49, 49, 49, 49, 49, 49, 49, 49, 49, 49, 49, 49] (.int tn)) := by kernel_rfl
theorem od_1_3 (xs : List V) (tn : Int) : B_law_f6 xs (SL 1 3 [49, 49, 49] (.int tn)) = some (.next, SL 1 4 [49, 49, 49, 49] (.int tn)) := by kernel_rfl
theorem od_1_5 (xs : List V) (tn : Int) : B_law_f6 xs (SL 1 5 [49, 49, 49, 49, 49] (.int tn)) = some (.next, SL 1 6 [49, 49, 49, 49, 49, 49] (.int tn)) := by kernel_rfl
theorem od_1_7 (xs : List V) (tn : Int) : B_law_f6 xs (SL 1 7 [49, 49, 49, 49, 49, 49, 49] (.int tn)) = some (.next, SL 1 8 [49, 49, 49, 49, 49, 49, 49, 49] (.int tn)) := by kernel_rfl
theorem od_1_9 (xs : List V) (tn : Int) : B_law_f6 xs (SL 1 9 [49, 49, 49, 49, 49, 49, 49, 49, 49] (.int tn)) = some (.next, SL 1 10 [49, 49, 49, 49, 49, 49, 49, 49, 49, 49] (.int tn)) := by kernel_rfl
theorem od_1_11 (xs : List V) (tn : Int) : B_law_f6 xs (SL 1 11 [49, 49, 49, 49, 49, 49, 49, 49, 49, 49, 49] (.int tn)) = some (.next, SL 1 12 [49, 49, 49, 49, 49, 49, 49, 49, 49, 49, 49, 49] (.int tn)) := by kernel_rfl
theorem go_3_1 (xs : List V) : Ends (runT xs 1000 0) (SL 3 1 [49] U) := (good1 xs 3 999 0 (by decide)) U
theorem go_3_2 (xs : List V) : Ends (runT xs 1000 0) (SL 3 2 [49, 49] U) := (good_step 999 0 (by decide) (fun tn => ev_2 xs 3 tn) (good1 xs 3 998 1 (by decide))) U
theorem go_3_3 (xs : List V) : Ends (runT xs 1000 0) (SL 3 3 [49, 49, 49] U) := (good_step 999 0 (by decide) (fun tn => od_3_3 xs tn) (good_step 998 1 (by decide) (fun tn => ev_10 xs 3 tn) (good_step 997 2 (by decide) (fun tn => od_3_5 xs tn) (good_step 996 3 (by decide) (fun tn => ev_16 xs 3 tn) (good_step 995 4 (by decide) (fun tn => ev_8 xs 3 tn) (good_step 994 5 (by decide) (fun tn => ev_4 xs 3 tn) (good_step 993 6 (by decide) (fun tn => ev_2 xs 3 tn) (good1 xs 3 992 7 (by decide))))))))) U
theorem go_3_4 (xs : List V) : Ends (runT xs 1000 0) (SL 3 4 [49, 49, 49, 49] U) := (good_step 999 0 (by decide) (fun tn => ev_4 xs 3 tn) (good_step 998 1 (by decide) (fun tn => ev_2 xs 3 tn) (good1 xs 3 997 2 (by decide)))) U
theorem go_3_5 (xs : List V) : Ends (runT xs 1000 0) (SL 3 5 [49, 49, 49, 49, 49] U) := (good_step 999 0 (by decide) (fun tn => od_3_5 xs tn) (good_step 998 1 (by decide) (fun tn => ev_16 xs 3 tn) (good_step 997 2 (by decide) (fun tn => ev_8 xs 3 tn) (good_step 996 3 (by decide) (fun tn => ev_4 xs 3 tn) (good_step 995 4 (by decide) (fun tn => ev_2 xs 3 tn) (good1 xs 3 994 5 (by decide))))))) U
theorem go_3_6 (xs : List V) : Ends (runT xs 1000 0) (SL 3 6 [49, 49, 49, 49, 49, 49] U) := (good_step 999 0 (by decide) (fun tn => ev_6 xs 3 tn) (good_step 998 1 (by decide) (fun tn => od_3_3 xs tn) (good_step 997 2 (by decide) (fun tn => ev_10 xs 3 tn) (good_step 996 3 (by decide) (fun tn => od_3_5 xs tn) (good_step 995 4 (by decide) (fun tn => ev_16 xs 3 tn) (good_step 994 5 (by decide) (fun tn => ev_8 xs 3 tn) (good_step 993 6 (by decide) (fun tn => ev_4 xs 3 tn) (good_step 992 7 (by decide) (fun tn => ev_2 xs 3 tn) (good8 xs 3 991))))))))) U
theorem go_1_1 (xs : List V) : Ends (runT xs 1000 0) (SL 1 1 [49] U) := (good1 xs 1 999 0 (by decide)) U
theorem go_1_2 (xs : List V) : Ends (runT xs 1000 0) (SL 1 2 [49, 49] U) := (good_step 999 0 (by decide) (fun tn => ev_2 xs 1 tn) (good1 xs 1 998 1 (by decide))) U
theorem go_1_3 (xs : List V) : Ends (runT xs 1000 0) (SL 1 3 [49, 49, 49] U) := (good_step 999 0 (by decide) (fun tn => od_1_3 xs tn) (good_step 998 1 (by decide) (fun tn => ev_4 xs 1 tn) (good_step 997 2 (by decide) (fun tn => ev_2 xs 1 tn) (good1 xs 1 996 3 (by decide))))) U
theorem go_1_4 (xs : List V) : Ends (runT xs 1000 0) (SL 1 4 [49, 49, 49, 49] U) := (good_step 999 0 (by decide) (fun tn => ev_4 xs 1 tn) (good_step 998 1 (by decide) (fun tn => ev_2 xs 1 tn) (good1 xs 1 997 2 (by decide)))) U
theorem go_1_5 (xs : List V) : Ends (runT xs 1000 0) (SL 1 5 [49, 49, 49, 49, 49] U) := (good_step 999 0 (by decide) (fun tn => od_1_5 xs tn) (good_step 998 1 (by decide) (fun tn => ev_6 xs 1 tn) (good_step 997 2 (by decide) (fun tn => od_1_3 xs tn) (good_step 996 3 (by decide) (fun tn => ev_4 xs 1 tn) (good_step 995 4 (by decide) (fun tn => ev_2 xs 1 tn) (good1 xs 1 994 5 (by decide))))))) U
theorem go_1_6 (xs : List V) : Ends (runT xs 1000 0) (SL 1 6 [49, 49, 49, 49, 49, 49] U) := (good_step 999 0 (by decide) (fun tn => ev_6 xs 1 tn) (good_step 998 1 (by decide) (fun tn => od_1_3 xs tn) (good_step 997 2 (by decide) (fun tn => ev_4 xs 1 tn) (good_step 996 3 (by decide) (fun tn => ev_2 xs 1 tn) (good1 xs 1 995 4 (by decide)))))) U
theorem go_1_7 (xs : List V) : Ends (runT xs 1000 0) (SL 1 7 [49, 49, 49, 49, 49, 49, 49] U) := (good_step 999 0 (by decide) (fun tn => od_1_7 xs tn) (good_step 998 1 (by decide) (fun tn => ev_8 xs 1 tn) (good_step 997 2 (by decide) (fun tn => ev_4 xs 1 tn) (good_step 996 3 (by decide) (fun tn => ev_2 xs 1 tn) (good1 xs 1 995 4 (by decide)))))) U
theorem go_1_8 (xs : List V) : Ends (runT xs 1000 0) (SL 1 8 [49, 49, 49, 49, 49, 49, 49, 49] U) := (good_step 999 0 (by decide) (fun tn => ev_8 xs 1 tn) (good_step 998 1 (by decide) (fun tn => ev_4 xs 1 tn) (good_step 997 2 (by decide) (fun tn => ev_2 xs 1 tn) (good1 xs 1 996 3 (by decide))))) U
theorem go_1_9 (xs : List V) : Ends (runT xs 1000 0) (SL 1 9 [49, 49, 49, 49, 49, 49, 49, 49, 49] U) := (good_step 999 0 (by decide) (fun tn => od_1_9 xs tn) (good_step 998 1 (by decide) (fun tn => ev_10 xs 1 tn) (good_step 997 2 (by decide) (fun tn => od_1_5 xs tn) (good_step 996 3 (by decide) (fun tn => ev_6 xs 1 tn) (good_step 995 4 (by decide) (fun tn => od_1_3 xs tn) (good_step 994 5 (by decide) (fun tn => ev_4 xs 1 tn) (good_step 993 6 (by decide) (fun tn => ev_2 xs 1 tn) (good1 xs 1 992 7 (by decide))))))))) U
theorem go_1_10 (xs : List V) : Ends (runT xs 1000 0) (SL 1 10 [49, 49, 49, 49, 49, 49, 49, 49, 49, 49] U) := (good_step 999 0 (by decide) (fun tn => ev_10 xs 1 tn) (good_step 998 1 (by decide) (fun tn => od_1_5 xs tn) (good_step 997 2 (by decide) (fun tn => ev_6 xs 1 tn) (good_step 996 3 (by decide) (fun tn => od_1_3 xs tn) (good_step 995 4 (by decide) (fun tn => ev_4 xs 1 tn) (good_step 994 5 (by decide) (fun tn => ev_2 xs 1 tn) (good1 xs 1 993 6 (by decide)))))))) U
theorem go_1_11 (xs : List V) : Ends (runT xs 1000 0) (SL 1 11 [49, 49, 49, 49, 49, 49, 49, 49, 49, 49, 49] U) := (good_step 999 0 (by decide) (fun tn => od_1_11 xs tn) (good_step 998 1 (by decide) (fun tn => ev_12 xs 1 tn) (good_step 997 2 (by decide) (fun tn => ev_6 xs 1 tn) (good_step 996 3 (by decide) (fun tn => od_1_3 xs tn) (good_step 995 4 (by decide) (fun tn => ev_4 xs 1 tn) (good_step 994 5 (by decide) (fun tn => ev_2 xs 1 tn) (good1 xs 1 993 6 (by decide)))))))) U
theorem go_1_12 (xs : List V) : Ends (runT xs 1000 0) (SL 1 12 [49, 49, 49, 49, 49, 49, 49, 49, 49, 49, 49, 49] U) := (good_step 999 0 (by decide) (fun tn => ev_12 xs 1 tn) (good_step 998 1 (by decide) (fun tn => ev_6 xs 1 tn) (good_step 997 2 (by decide) (fun tn => od_1_3 xs tn) (good_step 996 3 (by decide) (fun tn => ev_4 xs 1 tn) (good_step 995 4 (by decide) (fun tn => ev_2 xs 1 tn) (good1 xs 1 994 5 (by decide))))))) U
noncomputable def fin (xs : List V) : SS := seqS (B_law_3 xs) (seqS (B_law_4 xs) (seqS (B_law_5 xs) (seqS (B_law_6 xs) (rest xs))))
theorem e5 (xs : List V) (t n : Int) (r : List Nat) : B_law_5 xs (S5 t n r) = some (.next, SL t n r U) := by kernel_rfl
theorem fin_of {xs : List V} {t n : Int} {r : List Nat} (h4 : B_law_4 xs (S4 t n) = some (.next, S5 t n r)) (h : Ends (runT xs 1000 0) (SL t n r U)) : Ends (fin xs) (S3 t n) := by
  obtain ⟨S', h1, h2⟩ := h
  refine ⟨S', seq_next (e3 xs t n) (seq_next h4 (seq_next (e5 xs t n r) ?_)), h2⟩
  unfold runT seqS at h1
  unfold seqS
  rw [for_eq]
  exact h1
theorem e4_1 (xs : List V) (t : Int) : B_law_4 xs (S4 t 1) = some (.next, S5 t 1 [49]) := by kernel_rfl
theorem e4_2 (xs : List V) (t : Int) : B_law_4 xs (S4 t 2) = some (.next, S5 t 2 [49, 49]) := by kernel_rfl
theorem e4_3 (xs : List V) (t : Int) : B_law_4 xs (S4 t 3) = some (.next, S5 t 3 [49, 49, 49]) := by kernel_rfl
theorem e4_4 (xs : List V) (t : Int) : B_law_4 xs (S4 t 4) = some (.next, S5 t 4 [49, 49, 49, 49]) := by kernel_rfl
theorem e4_5 (xs : List V) (t : Int) : B_law_4 xs (S4 t 5) = some (.next, S5 t 5 [49, 49, 49, 49, 49]) := by kernel_rfl
theorem e4_6 (xs : List V) (t : Int) : B_law_4 xs (S4 t 6) = some (.next, S5 t 6 [49, 49, 49, 49, 49, 49]) := by kernel_rfl
theorem e4_7 (xs : List V) (t : Int) : B_law_4 xs (S4 t 7) = some (.next, S5 t 7 [49, 49, 49, 49, 49, 49, 49]) := by kernel_rfl
theorem e4_8 (xs : List V) (t : Int) : B_law_4 xs (S4 t 8) = some (.next, S5 t 8 [49, 49, 49, 49, 49, 49, 49, 49]) := by kernel_rfl
theorem e4_9 (xs : List V) (t : Int) : B_law_4 xs (S4 t 9) = some (.next, S5 t 9 [49, 49, 49, 49, 49, 49, 49, 49, 49]) := by kernel_rfl
theorem e4_10 (xs : List V) (t : Int) : B_law_4 xs (S4 t 10) = some (.next, S5 t 10 [49, 49, 49, 49, 49, 49, 49, 49, 49, 49]) := by kernel_rfl
theorem e4_11 (xs : List V) (t : Int) : B_law_4 xs (S4 t 11) = some (.next, S5 t 11 [49, 49, 49, 49, 49, 49, 49, 49, 49, 49, 49]) := by kernel_rfl
theorem e4_12 (xs : List V) (t : Int) : B_law_4 xs (S4 t 12) = some (.next, S5 t 12 [49, 49, 49, 49, 49, 49, 49, 49, 49, 49, 49, 49]) := by kernel_rfl
theorem law_runs {xs : List V} {u v : Int} (h0 : B_law_0 xs S0 = some (.next, S1 u v)) : Ends (B_law xs) S0 := by
  have key : ∀ t n : Int, B_law_1 xs (S1 u v) = some (.next, S2 u v t) → B_law_2 xs (S2 u v t) = some (.next, S3 t n) → Ends (fin xs) (S3 t n) → Ends (B_law xs) S0 := by
    intro t n h1 h2 ⟨S', h3, h4⟩
    exact ⟨S', seq_next h0 (seq_next h1 (seq_next h2 h3)), h4⟩
  have hu : u % 2 = 0 ∨ u % 2 = 1 := by omega
  rcases hu with hu | hu
  · have h1 : B_law_1 xs (S1 u v) = some (.next, S2 u v 3) := by rw [e1, hu, e1_0]
    have hv : v % 6 = 0 ∨ v % 6 = 1 ∨ v % 6 = 2 ∨ v % 6 = 3 ∨ v % 6 = 4 ∨ v % 6 = 5 := by omega
    rcases hv with hv | hv | hv | hv | hv | hv
    · exact key 3 1 h1 (by rw [e2_3, hv]; rfl) (fin_of (e4_1 xs 3) (go_3_1 xs))
    · exact key 3 2 h1 (by rw [e2_3, hv]; rfl) (fin_of (e4_2 xs 3) (go_3_2 xs))
    · exact key 3 3 h1 (by rw [e2_3, hv]; rfl) (fin_of (e4_3 xs 3) (go_3_3 xs))
    · exact key 3 4 h1 (by rw [e2_3, hv]; rfl) (fin_of (e4_4 xs 3) (go_3_4 xs))
    · exact key 3 5 h1 (by rw [e2_3, hv]; rfl) (fin_of (e4_5 xs 3) (go_3_5 xs))
    · exact key 3 6 h1 (by rw [e2_3, hv]; rfl) (fin_of (e4_6 xs 3) (go_3_6 xs))
  · have h1 : B_law_1 xs (S1 u v) = some (.next, S2 u v 1) := by rw [e1, hu, e1_1]
    have hv : v % 12 = 0 ∨ v % 12 = 1 ∨ v % 12 = 2 ∨ v % 12 = 3 ∨ v % 12 = 4 ∨ v % 12 = 5 ∨ v % 12 = 6 ∨ v % 12 = 7 ∨ v % 12 = 8 ∨ v % 12 = 9 ∨ v % 12 = 10 ∨ v % 12 = 11 := by omega
    rcases hv with hv | hv | hv | hv | hv | hv | hv | hv | hv | hv | hv | hv
    · exact key 1 1 h1 (by rw [e2_1, hv]; rfl) (fin_of (e4_1 xs 1) (go_1_1 xs))
    · exact key 1 2 h1 (by rw [e2_1, hv]; rfl) (fin_of (e4_2 xs 1) (go_1_2 xs))
    · exact key 1 3 h1 (by rw [e2_1, hv]; rfl) (fin_of (e4_3 xs 1) (go_1_3 xs))
    · exact key 1 4 h1 (by rw [e2_1, hv]; rfl) (fin_of (e4_4 xs 1) (go_1_4 xs))
    · exact key 1 5 h1 (by rw [e2_1, hv]; rfl) (fin_of (e4_5 xs 1) (go_1_5 xs))
    · exact key 1 6 h1 (by rw [e2_1, hv]; rfl) (fin_of (e4_6 xs 1) (go_1_6 xs))
    · exact key 1 7 h1 (by rw [e2_1, hv]; rfl) (fin_of (e4_7 xs 1) (go_1_7 xs))
    · exact key 1 8 h1 (by rw [e2_1, hv]; rfl) (fin_of (e4_8 xs 1) (go_1_8 xs))
    · exact key 1 9 h1 (by rw [e2_1, hv]; rfl) (fin_of (e4_9 xs 1) (go_1_9 xs))
    · exact key 1 10 h1 (by rw [e2_1, hv]; rfl) (fin_of (e4_10 xs 1) (go_1_10 xs))
    · exact key 1 11 h1 (by rw [e2_1, hv]; rfl) (fin_of (e4_11 xs 1) (go_1_11 xs))
    · exact key 1 12 h1 (by rw [e2_1, hv]; rfl) (fin_of (e4_12 xs 1) (go_1_12 xs))
end Mp
namespace Mp
theorem take2 (xs : List V) : sliceL xs none (some 2) = xs.take 2 := by
  unfold sliceL clipAt
  simp only [Option.elim]
  rw [if_neg (by omega)]
  simp
  match xs with
  | [] => rfl
  | [a] => rfl
  | a :: b :: r =>
    simp
    omega
theorem ints_vrs {cx : Cx} {led ρ} : ∀ {vs : List Value} {is : List Int}, IntsAre vs is → VRs cx led ρ (is.map .int) vs
  | _, _, .nil => .nil
  | _, _, .cons _ _ r => .cons (.int _ _) (ints_vrs r)
theorem law_all (is : List Int) : Ends (B_law (sliceL (is.map .int) none (some 2))) S0 := by
  rw [take2]
  match is with
  | [] => exact law_runs e0_0
  | [a] => exact law_runs (e0_1 a)
  | a :: b :: r => exact law_runs (e0_2 a b)
theorem glue1 {mean : ExcName → Option Value} {mg mb : Str → Option Value} {loose : List Str} {prog : Program} {w : World} {s₁ : Shared} {fa w3 : Addr} {h₁ : Heap} {tk : Nat} {co : Obj} {cm : Option Value} {m : Str → Option Value} {vs : List Value} {is : List Int} {name : Str} {scope : Scope} {body : List Stmt}
    {Q : Flow → Shared → Prop} {E : Value → Shared → Prop}
    (X : (K w.params).In (ghostOf s₁.heap [(878, 874)])) (T : Top topProg loose mean mg mb (ghostOf s₁.heap [(878, 874)])) (B : Below callerA (ghostOf s₁.heap [(878, 874)]) [] (ghostOf s₁.heap [(878, 874)]))
    (F : Fr (ghostOf s₁.heap [(878, 874)]) s₁.heap.objs.size h₁ m) (N : News (ghostOf s₁.heap [(878, 874)]) s₁.heap.objs.size h₁ [(s₁.heap.objs.size + 1, co), (874, tabObj #[])])
    (hc : co.data = .cell cm) (hl : (ghostOf s₁.heap [(878, 874)]).IsList w3 vs.toArray) (hI : IntsAre vs is) (hlen : ¬ ((63 : Nat) : Int) < (is.length : Nat)) (l0 : 874 < s₁.heap.objs.size)
    (hm : m "script" = some (.ref w3)) (hname : name = (fdOf (K w.params) 879).qualname) (hscope : scope = (fdOf (K w.params) 879).scope) (hbody : body = stOf (K w.params) 879)
    (hQ : ∀ h' tk', (∀ b o, (ghostOf s₁.heap [(878, 874)]).get? b = some o → h'.get? b = some o) → GrownAt 874 h' → Q (.ret (.bool true)) { heap := h', gens := s₁.gens, drawn := s₁.drawn, toks := tk', os := s₁.os }) :
    wpAny (model prog w) (callerA.deeper (envOfC name scope s₁.heap.objs.size fa (.ref 878))) (execs body (envOfC name scope s₁.heap.objs.size fa (.ref 878))) Q E { heap := h₁, gens := s₁.gens, drawn := s₁.drawn, toks := tk, os := s₁.os } := by
  obtain ⟨so, so1, so2, k, so3⟩ := hl
  let c : Base := ⟨prog, w, topProg, loose, mean, mg, mb, w3, so⟩
  have X' : (cx c).K.In (ghostOf s₁.heap [(878, 874)]) := K_more X so1
  have hat : (cx c).K.lookup ((cx c).ga 5000000) = some so := K_more_at X so1
  have hx : ScrOk (cx c) 5000000 2 (sliceL (is.map .int) none (some 2)) := ⟨so, vs.toArray, k, is.map .int, hat, so2, so3, fun led ρ => ints_vrs hI, by rw [List.length_map]; omega, rfl⟩
  have hbody' : body = stOf (cx c).K 879 := by rw [hbody]; kernel_rfl
  have hscope' : (sc_879 c).cs = scope := by rw [hscope]; kernel_rfl
  have hkind : scope.kind = .function := by rw [hscope]; kernel_rfl
  have hex : (sc_879 c).ex (envOfC name scope s₁.heap.objs.size fa (.ref 878)) := ⟨s₁.heap.objs.size, fa, cellsFrom (s₁.heap.objs.size + 1) scope.names [], by rw [hname, hscope]; kernel_rfl⟩
  have ok := topF_ok (cx := cx c) (d := 17) (sc := sc_879 c) (name := name) (fa := fa) (L := s₁.heap.objs.size) (cd := .ref 878) X' T B hscope' hkind hex (by decide)
  have hcode : ((cx c).cd 0).code = 878 := by kernel_rfl
  have I : Inv (cx c) (topF (ghostOf s₁.heap [(878, 874)]) s₁.heap.objs.size (envOfC name scope s₁.heap.objs.size fa (.ref 878))) h₁ m [(s₁.heap.objs.size + 1, co), (874, tabObj #[])] [(874, 874), (s₁.heap.objs.size + 1, s₁.heap.objs.size + 1)] S0.st := by
    have hne : s₁.heap.objs.size + 1 ≠ 874 := by omega
    refine ⟨F, by simpa [topF] using N, ?_, ?_, rfl, fun i o e => ?_⟩
    · show [s₁.heap.objs.size + 1, 874].Nodup
      simpa using hne
    · show [874, s₁.heap.objs.size + 1].Nodup
      simpa using Ne.symm hne
    · match i with
      | 0 =>
        cases e
        exact ⟨874, #[], rfl, .tail _ (.head _), by rw [hcode]; exact codeHd_of (by kernel_rfl), .inl ⟨rfl, rfl⟩⟩
      | 1 =>
        cases e
        exact ⟨s₁.heap.objs.size + 1, co, cm, rfl, .head _, hc, .inl rfl⟩
      | i + 2 => simp [S0] at e
  have R : LR (cx c) (sc_879 c) (topF (ghostOf s₁.heap [(878, 874)]) s₁.heap.objs.size (envOfC name scope s₁.heap.objs.size fa (.ref 878))) m [(s₁.heap.objs.size + 1, co), (874, tabObj #[])] [(874, 874), (s₁.heap.objs.size + 1, s₁.heap.objs.size + 1)] S0.lo S0.ce := by
    refine ⟨(by decide : (["script", "cells", "number", "even", "one", "row", "more", "turn", "halved", "count", "longer", "many"] : List Str).Nodup), rfl, fun i x v hx hv hne => ?_, fun i x hx => ?_⟩
    · match i with
      | 0 =>
        cases hx
        cases hv
        exact ⟨.ref w3, hm, .g 5000000⟩
      | i + 1 =>
        have : v = .undef := by
          have hmem : v ∈ [U, U, U, U, U, U, U, U, U, U, U] := List.mem_of_getElem? (i := i) (by simpa [S0] using hv)
          simpa using hmem
        exact absurd this hne
    · match i with
      | 0 =>
        cases hx
        refine ⟨s₁.heap.objs.size + 1, 1, ?_, rfl, rfl⟩
        show (cellsFrom (s₁.heap.objs.size + 1) scope.names []).lookup _ = _
        rw [hscope]
        kernel_rfl
      | i + 1 => simp [sc_879] at hx
  obtain ⟨S', h1, h2⟩ := law_all is
  subst hbody'
  exact top_fin ok (S_law c hx) (s := { heap := h₁, gens := s₁.gens, drawn := s₁.drawn, toks := tk, os := s₁.os }) I R h1 fun h' tk' m' led' ρ' I' G' => hQ h' tk' I'.F.keep (grown_of I' h2 (G'.at (show _ = some (874, 874) from rfl)))
end Mp
namespace Mp
theorem nm0 : PySem.W.Fast.tw17448422675489707002 qv (PySem.W.Fast.tw821141287760084731 qv lo) (namesW qv lo) = true := by kernel_rfl
theorem nm1 : namesOk qv (looseW qv lo) (namesW qv lo) = true := by rw [PySem.W.Fast.te17448422675489707002, PySem.W.Fast.te821141287760084731]; exact nm0
theorem im0 : PySem.W.Fast.tw2458874890965802552 qv = true := by kernel_rfl
theorem im1 : importsNone qv = true := by rw [PySem.W.Fast.te2458874890965802552]; exact im0
end Mp
local macro_rules | `(tactic| k_qdec) => `(tactic| first | with_reducible exact Mp.nm1 | with_reducible exact Mp.im1)
theorem PySem.Challenge.cw_sz0093_01_holds : PySem.Challenge.rw_sz0093_01.Holds := by
  w_on
  refine holds_law Mp.said1 fun said => ?_
  refine holds_open (q := Mp.qv) (loose := Mp.lo) (Xt := Mp.Xt1) (XP := XL Mp.qv []) (Yf := Hook.obs (kHook Mp.K Mp.kas Mp.kas_eq)) (Ya := Hook.val (kHook Mp.K Mp.kas Mp.kas_eq)) (YP := Hook.says (kHook Mp.K Mp.kas Mp.kas_eq)) (N := 2 * Mp.hS + 100) Mp.left_ (Hook.of (kHook Mp.K Mp.kas Mp.kas_eq)) (Hook.keeps (kHook Mp.K Mp.kas Mp.kas_eq)) (fun s e => xl_of s (Bool.and_eq_true_iff.mp e).1) XL.keeps (by rfl) (by rfl) (by rfl) (fun s e => recFacts_of (Bool.and_eq_true_iff.mp e).2) (by rfl) (by assumption) Mp.chains1 ⟨rfl, rfl, rfl, rfl, rfl, by decide +kernel⟩ ?hw ?hc
  case hw => w_witness2
  clear said
  w_strict (k_go0; exact Mp.glue1 (by assumption) (by assumption) (by assumption) (by assumption) (by assumption) (by assumption) (by assumption) (by assumption) (by assumption) (by assumption) (by kernel_rfl) (by kernel_rfl) (by kernel_rfl) (by kernel_rfl) (fun h' tk' hk hg => ⟨⟨.inl ⟨.bool true, .bool true, [], rfl, fun _ => rfl, .bool true, (by kernel_rfl), fun _ => ⟨List.nodup_nil, fun a ha => nomatch ha⟩⟩, hk, rfl, by assumption⟩, hg, trivial⟩))

