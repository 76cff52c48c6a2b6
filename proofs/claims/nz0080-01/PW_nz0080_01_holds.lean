import PyProof.Rows.All
import Wide.All
import OpenK.AllK
import Wide.FinOn
import PySem.Challenge.RW_nz0080_01
open PySem PySem.W PyProof.Rows PySem.Calls
set_option Elab.async false
set_option compiler.extract_closed false

section
open PySem PySem.W PyProof.Rows
namespace Mine
set_option maxRecDepth 100000 in
set_option maxHeartbeats 8000000 in
open_top hd for PySem.Challenge.rw_nz0080_01
end Mine

end

section
open PySem PySem.W PyProof.Rows PySem.Calls
set_option maxRecDepth 100000
namespace Mine

noncomputable abbrev KK (w : World) : Frag := hd.heap_39 w.params
noncomputable abbrev MM (w : World) : Model := model PySem.Challenge.rw_nz0080_01.row.prog w

abbrev HP := Heap → Prop
def Keeps (P : HP) : Prop := ∀ h h' : Heap, h.StaysIn h' → P h → P h'

theorem stays_refl (h : Heap) : h.StaysIn h := fun _ _ e => e
theorem stays_trans {h h' h'' : Heap} (a : h.StaysIn h') (b : h'.StaysIn h'') : h.StaysIn h'' := fun x o e => b x o (a x o e)
theorem stays_push (h : Heap) (o : Obj) : h.StaysIn (h.push o) := fun _ _ e => Heap.get?_push_of_some o e

structure Gd (w : World) (h : Heap) : Prop where
  K : (KK w).In h
  g : ∃ mg, h.Ns mainGlobals mg
  b : ∃ mb, h.Ns builtinsNs mb ∧ ∀ x : Str, x ≠ "__name__" → mb x = bootBuiltins x
  lim : h.NoLimit
theorem Gd.keeps {w : World} {h h' : Heap} (G : Gd w h) (k : h.StaysIn h') : Gd w h' where
  K := fun a o e => k a o (G.K a o e)
  g := let ⟨mg, e⟩ := G.g; ⟨mg, e.keeps k⟩
  b := let ⟨mb, e, r⟩ := G.b; ⟨mb, e.keeps k, r⟩
  lim := let ⟨mc, e, r⟩ := G.lim; ⟨mc, e.keeps k, r⟩

/-- names in place, values in place -/
inductive At : List Str → List (Option Value) → Str → Value → Prop
  | here {x ns v vs} : At (x :: ns) (some v :: vs) x v
  | there {y ns o vs x v} : At ns vs x v → At (y :: ns) (o :: vs) x v
inductive Put : List Str → List (Option Value) → Str → Value → List (Option Value) → Prop
  | here {x ns o v vs} : Put (x :: ns) (o :: vs) x v (some v :: vs)
  | there {y ns o vs x v vs'} : Put ns vs x v vs' → Put (y :: ns) (o :: vs) x v (o :: vs')
/-- fewer known values -/
inductive Sub : List (Option Value) → List (Option Value) → Prop
  | nil : Sub [] []
  | none {o a b} : Sub a b → Sub (Option.none :: a) (o :: b)
  | same {o a b} : Sub a b → Sub (o :: a) (o :: b)
theorem bat_nil {R : Str → Value → Prop} {vs} : ∀ x v, At [] vs x v → R x v := fun _ _ h => by cases h
theorem bat_some {R : Str → Value → Prop} {y ns u vs} (h1 : R y u) (h2 : ∀ x v, At ns vs x v → R x v) : ∀ x v, At (y :: ns) (some u :: vs) x v → R x v := fun _ _ h => by
  cases h with
  | here => exact h1
  | there h => exact h2 _ _ h
theorem bat_none {R : Str → Value → Prop} {y ns vs} (h2 : ∀ x v, At ns vs x v → R x v) : ∀ x v, At (y :: ns) (Option.none :: vs) x v → R x v := fun _ _ h => by
  cases h with
  | there h => exact h2 _ _ h
theorem At.mem {ns vs x v} (h : At ns vs x v) : x ∈ ns := by
  induction h with
  | here => exact .head _
  | there _ ih => exact .tail _ ih
theorem Put.mem {ns vs x v vs'} (h : Put ns vs x v vs') : x ∈ ns := by
  induction h with
  | here => exact .head _
  | there _ ih => exact .tail _ ih
theorem At.of_put {ns vs x v vs'} (h : Put ns vs x v vs') (nd : ns.Nodup) : ∀ {z u}, At ns vs' z u → (z = x ∧ u = v) ∨ (z ≠ x ∧ At ns vs z u) := by
  induction h with
  | here =>
    intro z u a
    cases a with
    | here => exact .inl ⟨rfl, rfl⟩
    | there a => exact .inr ⟨fun e => (List.nodup_cons.mp nd).1 (e ▸ a.mem), .there a⟩
  | there p ih =>
    intro z u a
    cases a with
    | here => exact .inr ⟨fun e => (List.nodup_cons.mp nd).1 (e ▸ p.mem), .here⟩
    | there a =>
      rcases ih (List.nodup_cons.mp nd).2 a with h | ⟨h1, h2⟩
      · exact .inl h
      · exact .inr ⟨h1, .there h2⟩
theorem At.of_sub {a b} (h : Sub a b) : ∀ {ns z u}, At ns a z u → At ns b z u := by
  induction h with
  | nil => intro ns z u h; cases h
  | none _ ih => intro ns z u h; cases h with | there h => exact .there (ih h)
  | same _ ih =>
    intro ns z u h
    cases h with
    | here => exact .here
    | there h => exact .there (ih h)

/-- what a name of the top is -/
def GlobalIs (w : World) (x : Str) (v : Value) : Prop := (x == ("__debug__" : Str)) = false ∧
    (nsIn (hd.heap_39 w.params) mainGlobals x = some (some v) ∨ (nsIn (hd.heap_39 w.params) mainGlobals x = some none ∧ bootBuiltins x = some v ∧ x ≠ "__name__"))
/-- what is known of a frame's scope -/
structure Stat (w : World) (env : Env) (names : List Str) (gls : List (Str × Value)) : Prop where
  fn : env.scope.kind = .function
  gl : env.globals = mainGlobals
  bt : env.builtins = builtinsNs
  nd : names.Nodup
  loc : ∀ x ∈ names, env.scope.names.lookup x = some .local ∧ (x == ("__debug__" : Str)) = false
  glo : ∀ p ∈ gls, env.scope.names.lookup p.1 = some .globalImplicit ∧ GlobalIs w p.1 p.2
/-- the part of it that the scope alone tells -/
structure StatS (w : World) (scope : Scope) (names : List Str) (gls : List (Str × Value)) : Prop where
  nd : names.Nodup
  loc : ∀ x ∈ names, scope.names.lookup x = some .local ∧ (x == ("__debug__" : Str)) = false
  glo : ∀ p ∈ gls, scope.names.lookup p.1 = some .globalImplicit ∧ GlobalIs w p.1 p.2

abbrev fz (L : Addr) (ms : List (Addr × Obj)) (h : Heap) : Heap := hideAll h (L :: ms.map (·.1))
theorem fz_stays (L : Addr) (ms : List (Addr × Obj)) (h : Heap) : (fz L ms h).StaysIn h := fun _ _ e => of_hideAll _ e
theorem hide_mono {as bs : List Addr} {h h' : Heap} (k : ∀ b, b ∉ as → ∀ o, h.get? b = some o → b ∉ bs ∧ h'.get? b = some o) : (hideAll h as).StaysIn (hideAll h' bs) := by
  intro b o e
  have hb : b ∉ as := fun m => by rw [hideAll_none as m] at e; cases e
  obtain ⟨k1, k2⟩ := k b hb o (of_hideAll _ e)
  exact hideAll_get _ k2 k1

structure St (w : World) (names : List Str) (L : Addr) (h : Heap) (vals : List (Option Value)) (ms : List (Addr × Obj)) (fs : List HP) : Prop where
  ns : ∃ m, h.Ns L m ∧ ∀ x v, At names vals x v → m x = some v
  muts : ∀ p ∈ ms, h.get? p.1 = some p.2
  nd : (L :: ms.map (·.1)).Nodup
  gd : Gd w (fz L ms h)
  fs : ∀ P ∈ fs, Keeps P ∧ P (fz L ms h)

section
variable {w : World} {names : List Str} {L : Addr} {h h' : Heap} {vals vals' : List (Option Value)} {ms ms' : List (Addr × Obj)} {fs fs' : List HP}
theorem St.at (S : St w names L h vals ms fs) {P : HP} (m : P ∈ fs) : P h := (S.fs P m).1 _ _ (fz_stays L ms h) (S.fs P m).2
theorem St.gdh (S : St w names L h vals ms fs) : Gd w h := S.gd.keeps (fz_stays L ms h)
theorem St.lt (S : St w names L h vals ms fs) : L < h.objs.size := let ⟨_, e, _⟩ := S.ns; e.lt
theorem St.mlt (S : St w names L h vals ms fs) : ∀ a ∈ L :: ms.map (·.1), a < h.objs.size := by
  intro a ha
  rcases List.mem_cons.mp ha with rfl | ha
  · exact S.lt
  · obtain ⟨p, hp, rfl⟩ := List.mem_map.mp ha
    exact Heap.lt_size (S.muts p hp)
/-- the heap has grown: nothing that stood is changed -/
theorem St.ext (S : St w names L h vals ms fs) (k : h.StaysIn h') : St w names L h' vals ms fs where
  ns := let ⟨m, e, r⟩ := S.ns; ⟨m, e.keeps k, r⟩
  muts := fun p hp => k _ _ (S.muts p hp)
  nd := S.nd
  gd := S.gd.keeps (hide_mono fun b hb o e => ⟨hb, k b o e⟩)
  fs := fun P hP => ⟨(S.fs P hP).1, (S.fs P hP).1 _ _ (hide_mono fun b hb o e => ⟨hb, k b o e⟩) (S.fs P hP).2⟩
theorem St.set (S : St w names L h vals ms fs) (nd : names.Nodup) {x : Str} {v : Value} (p : Put names vals x v vals')
    (hn : ∀ m, h.Ns L m → h'.Ns L (fun y => if y = x then some v else m y)) (hs : Heap.SameBut L h h') : St w names L h' vals' ms fs where
  ns := by
    obtain ⟨m, e, r⟩ := S.ns
    refine ⟨_, hn m e, fun z u a => ?_⟩
    rcases At.of_put p nd a with ⟨rfl, rfl⟩ | ⟨h1, h2⟩
    · simp
    · simp only [if_neg h1]; exact r z u h2
  muts := fun p hp => (hs.2 _ fun q => (List.nodup_cons.mp S.nd).1 (q ▸ List.mem_map_of_mem hp)).trans (S.muts p hp)
  nd := S.nd
  gd := S.gd.keeps (hide_mono fun b hb o e => ⟨hb, (hs.2 b fun q => hb (q ▸ .head _)).trans e⟩)
  fs := fun P hP => ⟨(S.fs P hP).1, (S.fs P hP).1 _ _ (hide_mono fun b hb o e => ⟨hb, (hs.2 b fun q => hb (q ▸ .head _)).trans e⟩) (S.fs P hP).2⟩
theorem St.weak (S : St w names L h vals ms fs) (hv : Sub vals' vals) (hf : ∀ P ∈ fs', P ∈ fs) : St w names L h vals' ms fs' where
  ns := let ⟨m, e, r⟩ := S.ns; ⟨m, e, fun x v a => r x v (At.of_sub hv a)⟩
  muts := S.muts
  nd := S.nd
  gd := S.gd
  fs := fun P hP => S.fs P (hf P hP)
theorem St.add (S : St w names L h vals ms fs) {P : HP} (k : Keeps P) (hp : P (fz L ms h)) : St w names L h vals ms (P :: fs) where
  ns := S.ns
  muts := S.muts
  nd := S.nd
  gd := S.gd
  fs := fun R hR => by
    rcases List.mem_cons.mp hR with rfl | hR
    · exact ⟨k, hp⟩
    · exact S.fs R hR
/-- a new object that may change -/
theorem St.newMut (S : St w names L h vals ms fs) (o : Obj) (hf : o.isFreed = false := by rfl) : St w names L (h.push o) vals ((h.objs.size, o) :: ms) fs := by
  have hlt := S.mlt
  have k : (fz L ms h).StaysIn (fz L ((h.objs.size, o) :: ms) (h.push o)) := hide_mono fun b hb x e => by
    refine ⟨fun m => ?_, Heap.get?_push_of_some o e⟩
    rcases List.mem_cons.mp m with rfl | m
    · exact hb (.head _)
    · rcases List.mem_cons.mp m with rfl | m
      · exact absurd (Heap.lt_size e) (Nat.lt_irrefl _)
      · exact hb (.tail _ m)
  refine ⟨let ⟨m, e, r⟩ := S.ns; ⟨m, e.keeps (stays_push h o), r⟩, fun p hp => ?_, ?_, S.gd.keeps k, fun P hP => ⟨(S.fs P hP).1, (S.fs P hP).1 _ _ k (S.fs P hP).2⟩⟩
  · rcases List.mem_cons.mp hp with rfl | hp
    · exact Heap.get?_push_size _ hf
    · exact Heap.get?_push_of_some o (S.muts p hp)
  · have h1 := List.nodup_cons.mp S.nd
    refine List.nodup_cons.mpr ⟨fun m => ?_, List.nodup_cons.mpr ⟨fun m => ?_, h1.2⟩⟩
    · rcases List.mem_cons.mp m with q | m
      · exact absurd S.lt (by rw [q]; exact Nat.lt_irrefl _)
      · exact h1.1 m
    · exact absurd (hlt _ (.tail _ m)) (Nat.lt_irrefl _)
/-- the first that may change is changed -/
theorem St.upd {a : Addr} {o o' : Obj} (S : St w names L h vals ((a, o) :: ms) fs) (hs : Heap.SameBut a h h') (e : h'.get? a = some o') : St w names L h' vals ((a, o') :: ms) fs := by
  have nd := S.nd
  have nd1 := List.nodup_cons.mp nd
  have nd2 := List.nodup_cons.mp nd1.2
  have hLa : L ≠ a := fun q => nd1.1 (q ▸ .head _)
  have k : (fz L ((a, o) :: ms) h).StaysIn (fz L ((a, o') :: ms) h') := hide_mono fun b hb x e => ⟨hb, (hs.2 b fun q => hb (q ▸ .tail _ (.head _))).trans e⟩
  refine ⟨let ⟨m, e, r⟩ := S.ns; ⟨m, e.sameBut hs hLa, r⟩, fun p hp => ?_, nd, S.gd.keeps k, fun P hP => ⟨(S.fs P hP).1, (S.fs P hP).1 _ _ k (S.fs P hP).2⟩⟩
  rcases List.mem_cons.mp hp with rfl | hp
  · exact e
  · exact (hs.2 p.1 fun q => nd2.1 (List.mem_map.mpr ⟨p, hp, q⟩)).trans (S.muts p (.tail _ hp))
/-- two that may change trade places -/
theorem St.swap {p q : Addr × Obj} (S : St w names L h vals (p :: q :: ms) fs) : St w names L h vals (q :: p :: ms) fs := by
  have k : (fz L (p :: q :: ms) h).StaysIn (fz L (q :: p :: ms) h) := hide_mono fun b hb x e => by
    refine ⟨fun m => hb ?_, e⟩
    simp only [List.map_cons, List.mem_cons] at m ⊢
    rcases m with m | m | m | m <;> simp [m]
  refine ⟨S.ns, fun r hr => S.muts r ?_, ?_, S.gd.keeps k, fun P hP => ⟨(S.fs P hP).1, (S.fs P hP).1 _ _ k (S.fs P hP).2⟩⟩
  · simp only [List.mem_cons] at hr ⊢
    rcases hr with m | m | m <;> simp [m]
  · have nd := S.nd
    simp only [List.map_cons, List.nodup_cons, List.mem_cons, not_or] at nd ⊢
    obtain ⟨⟨a, b, c⟩, ⟨d, e⟩, f, g⟩ := nd
    exact ⟨⟨b, a, c⟩, ⟨Ne.symm d, f⟩, e, g⟩
/-- one that may change is let go -/
theorem St.drop {p : Addr × Obj} (S : St w names L h vals (p :: ms) fs) : St w names L h vals ms fs := by
  have k : (fz L (p :: ms) h).StaysIn (fz L ms h) := hide_mono fun b hb x e => by
    refine ⟨fun m => hb ?_, e⟩
    rcases List.mem_cons.mp m with rfl | m
    · exact .head _
    · exact .tail _ (.tail _ m)
  refine ⟨S.ns, fun r hr => S.muts r (.tail _ hr), ?_, S.gd.keeps k, fun P hP => ⟨(S.fs P hP).1, (S.fs P hP).1 _ _ k (S.fs P hP).2⟩⟩
  have nd := List.nodup_cons.mp S.nd
  exact List.nodup_cons.mpr ⟨fun m => nd.1 (.tail _ m), (List.nodup_cons.mp nd.2).2⟩
/-- one that may change is frozen: a fact of it -/
theorem St.freeze {a : Addr} {o : Obj} (S : St w names L h vals ((a, o) :: ms) fs) : St w names L h vals ms ((fun h => h.get? a = some o) :: fs) := by
  have nd := List.nodup_cons.mp S.nd
  refine S.drop.add (fun h h' k e => k _ _ e) (hideAll_get _ (S.muts _ (.head _)) fun m => ?_)
  rcases List.mem_cons.mp m with q | m
  · exact nd.1 (q ▸ .head _)
  · exact (List.nodup_cons.mp nd.2).1 m
end

/-- what an object's place is not: the frame's, nor one that may change -/
theorem St.addObj {w : World} {names : List Str} {L : Addr} {h : Heap} {vals : List (Option Value)} {fs : List HP} (S : St w names L h vals [] fs) {a : Addr} {o : Obj}
    (e : h.get? a = some o) (hd : ∀ es ep, o.data ≠ .dict es ep) : St w names L h vals [] ((fun h => h.get? a = some o) :: fs) := by
  refine S.add (fun h h' k e => k _ _ e) (hideAll_get _ e fun m => ?_)
  obtain ⟨m', ⟨oL, es, ep, eL, dL, _⟩, _⟩ := S.ns
  have q : a = L := by simpa using m
  rw [q, eL] at e
  cases e
  exact hd _ _ dL

end Mine

end

section
open PySem PySem.W PyProof.Rows PySem.Calls
set_option maxRecDepth 100000
namespace Mine

theorem mg_some {K : Frag} {h : Heap} {mg : Str → Option Value} {n : Str} {v : Value} (X : K.In h) (G : h.Ns mainGlobals mg) (e : nsIn K mainGlobals n = some (some v)) : mg n = some v := mg_of X G e

section
variable {w : World} {A : Around} {E : Value → Shared → Prop} {s : Shared} {env : Env} {names : List Str} {gls : List (Str × Value)} {vals vals' : List (Option Value)} {ms : List (Addr × Obj)} {fs : List HP}

theorem ldS {x : Str} {pos : Pos} {v : Value} {Q : Value → Shared → Prop} (Z : Stat w env names gls) (S : St w names env.locals s.heap vals ms fs) (hv : At names vals x v) (h : Q v s) :
    wpAny (MM w) A (eval (.Name x pos) env) Q E s := by
  obtain ⟨m, e, r⟩ := S.ns
  obtain ⟨k1, k2⟩ := Z.loc x hv.mem
  exact wpAny_Name (wpAny_loadName_local Z.fn k1 e (r x v hv) h) k2
theorem ldnS {x : Str} {v : Value} {Q : Value → Shared → Prop} (Z : Stat w env names gls) (S : St w names env.locals s.heap vals ms fs) (hv : At names vals x v) (h : Q v s) :
    wpAny (MM w) A (loadName env x) Q E s := by
  obtain ⟨m, e, r⟩ := S.ns
  exact wpAny_loadName_local Z.fn (Z.loc x hv.mem).1 e (r x v hv) h
theorem glS {x : Str} {pos : Pos} {v : Value} {Q : Value → Shared → Prop} (Z : Stat w env names gls) (S : St w names env.locals s.heap vals ms fs) (hv : (x, v) ∈ gls) (h : Q v s) :
    wpAny (MM w) A (eval (.Name x pos) env) Q E s := by
  obtain ⟨k1, k2, k3⟩ := Z.glo _ hv
  replace k1 : env.kindOf x = some .globalImplicit := k1
  obtain ⟨mg, eg⟩ := S.gdh.g
  rcases k3 with k3 | ⟨k3, k4, k5⟩
  · exact Name_function_global Z.fn k1 (loadGlobal_global (Z.gl ▸ eg) (mg_of S.gdh.K eg k3) h) k2
  · obtain ⟨mb, eb, hb⟩ := S.gdh.b
    exact Name_function_global Z.fn k1 (loadGlobal_builtin (Z.gl ▸ eg) (mg_none_of S.gdh.K eg k3) (Z.bt ▸ eb) ((hb x k5).trans k4) h) k2
theorem stS {x : Str} {v : Value} {Q : Unit → Shared → Prop} (Z : Stat w env names gls) (S : St w names env.locals s.heap vals ms fs) (hp : Put names vals x v vals')
    (h : ∀ h', St w names env.locals h' vals' ms fs → Q () { s with heap := h', toks := s.toks + 1 }) : wpAny (MM w) A (storeName env x v) Q E s := by
  obtain ⟨m, e, r⟩ := S.ns
  refine wpAny_storeName_local (Z.loc x hp.mem).1 e (fun h' hn hs => h h' ?_) (by rw [Z.fn]; rfl)
  refine S.set Z.nd hp (fun m' e' => ?_) hs
  have q : m' = m := by
    obtain ⟨o, es, ep, a, b, _, d⟩ := e
    obtain ⟨o', es', ep', a', b', _, d'⟩ := e'
    rw [a] at a'; cases a'
    rw [b] at b'; cases b'
    funext z
    rw [← d, ← d']
  exact q ▸ hn

/-- entering a def of the text -/
theorem enter {Q : Value → Shared → Prop} {E : Value → Shared → Prop} {name qual : Str} {params : Arguments} {body : List Stmt} {scope : Scope} {dV kV doc pm cdv ct oc : Value} {an od : Option Addr} {osl : Array (Option Value)} {f : Addr} {args : List Value} {binds : List (Str × Value)}
    (G : Gd w s.heap) (hroom : A.depth < recursionLimit)
    (ho : (hd.heap_39 w.params).lookup f = some ⟨oc, od, .func (fnOf name qual params body scope dV kV doc pm an cdv ct), osl⟩) (hcd : codeIn (hd.heap_39 w.params) cdv qual = true)
    (hbind : bindArgs (fnOf name qual params body scope dV kV doc pm an cdv ct) ⟨args, []⟩ = pure binds) (hloc : ∀ y ∈ binds, scope.names.lookup y.1 = some .local)
    (names : List Str) (gls : List (Str × Value)) (vals : List (Option Value)) (hZ : StatS w scope names gls) (hat : ∀ x v, At names vals x v → binds.reverse.lookup x = some v)
    (fs : List HP) (hfs : ∀ P ∈ fs, Keeps P ∧ P s.heap)
    (h : ∀ env h₁ tk, Stat w env names gls → St w names env.locals h₁ vals [] ((fun h => s.heap.StaysIn h) :: fs) →
      wpAny (MM w) (A.deeper env) (execs body env) (fun fl s' => Q (match fl with | .ret v => v | _ => .none) s') (fun _ _ => False)
        { s with heap := h₁, toks := tk })
    (hcell : ∀ x ∈ scope.names, x.2 ≠ .cell)
    (hco : scope.isCoroutine = false) (hgen : scope.isGenerator = false) (hk : scope.kind = .function) :
    wpAny (MM w) A (call (.ref f) args) Q E s := by
  refine wpAny_call (codeAny_call_def (fd := fnOf name qual params body scope dV kV doc pm an cdv ct) (body := body) (binds := binds) hroom (G.K _ _ ho) rfl G.lim (codeRec_of G.K hcd) rfl (BindsTo.of_eq hbind) hcell hloc (fun h₁ hns hk₁ => ?_) hco hgen hk)
  refine wpAny_mono (h (callEnv (fnOf name qual params body scope dV kV doc pm an cdv ct) s.heap.objs.size f) h₁ _ ⟨hk, rfl, rfl, hZ.nd, hZ.loc, hZ.glo⟩ ?_) (fun _ _ x => x) fun _ _ x => x.elim
  have k : s.heap.StaysIn (fz s.heap.objs.size [] h₁) := fun b o e => hideAll_get _ (hk₁ b o e) fun m => by
    have q : b = s.heap.objs.size := by simpa using m
    exact absurd (Heap.lt_size e) (by rw [q]; exact Nat.lt_irrefl _)
  refine ⟨⟨_, hns, hat⟩, (fun _ hp => nomatch hp), by simp, G.keeps k, fun P hP => ?_⟩
  rcases List.mem_cons.mp hP with rfl | hP
  · exact ⟨fun _ _ k1 k2 => stays_trans k2 k1, k⟩
  · exact ⟨(hfs P hP).1, (hfs P hP).1 _ _ k (hfs P hP).2⟩

/-- what a contract hands back -/
abbrev Ret (s : Shared) (P : Heap → Value → Prop) (Q : Value → Shared → Prop) : Prop := ∀ r h' tk', s.heap.StaysIn h' → P h' r → Q r { s with heap := h', toks := tk' }

/-- loops -/
def Turn {σ : Type} (w : World) (names : List Str) (L : Addr) (s : Shared) (V : σ → List (Option Value)) (Ms : σ → List (Addr × Obj)) (Fs : σ → List HP) (P : σ → Prop) (μ : σ → Nat) (Q : Flow → Shared → Prop) (c : σ) (f : Flow) (s' : Shared) : Prop :=
  match f with
  | .ret v => Q (.ret v) s'
  | .brk => Q .next s'
  | _ => ∃ (c' : σ) (h' : Heap) (tk' : Nat), s' = { s with heap := h', toks := tk' } ∧ P c' ∧ μ c' < μ c ∧ St w names L h' (V c') (Ms c') (Fs c')
theorem turn_next {σ : Type} {names : List Str} {L : Addr} {V : σ → List (Option Value)} {Ms : σ → List (Addr × Obj)} {Fs : σ → List HP} {P : σ → Prop} {μ : σ → Nat} {Q : Flow → Shared → Prop} {c : σ} {h' : Heap} {tk' : Nat} {vals fs}
    (c' : σ) (S : St w names L h' vals (Ms c') fs) (hv : Sub (V c') vals) (hf : ∀ P ∈ Fs c', P ∈ fs) (hp : P c') (hm : μ c' < μ c) : Turn w names L s V Ms Fs P μ Q c .next { s with heap := h', toks := tk' } :=
  ⟨c', h', tk', rfl, hp, hm, S.weak hv hf⟩

theorem whileS {σ : Type} {test : Expr} {body : List Stmt} {pos : Pos} {Q : Flow → Shared → Prop} {names : List Str} {L : Addr} {vals fs} (V : σ → List (Option Value)) (Ms : σ → List (Addr × Obj)) (Fs : σ → List HP) (P : σ → Prop) (μ : σ → Nat) (c₀ : σ)
    (S : St w names L s.heap vals (Ms c₀) fs) (hv : Sub (V c₀) vals) (hf : ∀ P ∈ Fs c₀, P ∈ fs) (hp : P c₀)
    (turn : ∀ (T : Flow → Shared → Prop) c h tk, (∀ f s', Turn w names L s V Ms Fs P μ Q c f s' → T f s') → P c → St w names L h (V c) (Ms c) (Fs c) → wpAny (MM w) A (isTrue test env (eval test env)) (fun b s₂ =>
        if b = true then wpAny (MM w) A (execs body env) T (fun _ _ => False) s₂ else Q .next s₂) (fun _ _ => False) { s with heap := h, toks := tk }) :
    wpAny (MM w) A (exec (.While test body [] pos) env) Q (fun _ _ => False) s := by
  have hE : PassesOwn (MM w) A env (fun _ _ => False) := PassesOwn.never
  refine wpAny_While (codeAny_whileLoop (fun n s' => ∃ c h₁ tk₁, μ c = n ∧ s' = { s with heap := h₁, toks := tk₁ } ∧ P c ∧ St w names L h₁ (V c) (Ms c) (Fs c)) ?_ (μ c₀) ⟨c₀, s.heap, s.toks, rfl, rfl, hp, S.weak hv hf⟩)
  rintro n s' ⟨c, h₁, tk₁, rfl, rfl, hp₁, S₁⟩
  refine wpAny_mono (turn (Turn w names L s V Ms Fs P μ Q c) c h₁ tk₁ (fun _ _ x => x) hp₁ S₁) (fun b s₂ h₂ => ?_) hE
  cases b with
  | false =>
    simp only [Bool.false_eq_true, if_false] at h₂ ⊢
    exact wpAny_execs_nil h₂
  | true =>
    simp only [if_true] at h₂ ⊢
    refine wpAny_mono h₂ (fun f s₃ h₃ => ?_) hE
    cases f with
    | next =>
      obtain ⟨c', h', tk', rfl, hp', hm, S'⟩ := h₃
      exact ⟨μ c', hm, c', h', tk', rfl, rfl, hp', S'⟩
    | cont =>
      obtain ⟨c', h', tk', rfl, hp', hm, S'⟩ := h₃
      exact ⟨μ c', hm, c', h', tk', rfl, rfl, hp', S'⟩
    | brk => exact h₃
    | ret v => exact h₃
end
end Mine

end

section
open PySem PySem.W PyProof.Rows PySem.Calls
set_option maxRecDepth 100000
namespace Mine

theorem St.move {w : World} {names : List Str} {L : Addr} {h h' : Heap} {vals : List (Option Value)} {ms : List (Addr × Obj)} {fs : List HP} {a : Addr} {o o' : Obj}
    (S : St w names L h vals ((a, o) :: ms) fs) (hs : Heap.ExtBut a h h') (e : h'.get? a = some o') : St w names L h' vals ((a, o') :: ms) fs := by
  have nd := S.nd
  have nd1 := List.nodup_cons.mp nd
  have nd2 := List.nodup_cons.mp nd1.2
  have hLa : L ≠ a := fun q => nd1.1 (q ▸ .head _)
  have k : (fz L ((a, o) :: ms) h).StaysIn (fz L ((a, o') :: ms) h') := hide_mono fun b hb x e => ⟨hb, hs b x (fun q => hb (q ▸ .tail _ (.head _))) e⟩
  refine ⟨let ⟨m, e, r⟩ := S.ns; ⟨m, e.extBut hs hLa, r⟩, fun p hp => ?_, nd, S.gd.keeps k, fun P hP => ⟨(S.fs P hP).1, (S.fs P hP).1 _ _ k (S.fs P hP).2⟩⟩
  rcases List.mem_cons.mp hp with rfl | hp
  · exact e
  · exact hs p.1 p.2 (fun q => nd2.1 (List.mem_map.mpr ⟨p, hp, q⟩)) (S.muts p (.tail _ hp))
theorem St.dropMove {w : World} {names : List Str} {L : Addr} {h h' : Heap} {vals : List (Option Value)} {ms : List (Addr × Obj)} {fs : List HP} {a : Addr} {o : Obj}
    (S : St w names L h vals ((a, o) :: ms) fs) (hs : Heap.ExtBut a h h') : St w names L h' vals ms fs := by
  have nd := S.nd
  have nd1 := List.nodup_cons.mp nd
  have nd2 := List.nodup_cons.mp nd1.2
  have hLa : L ≠ a := fun q => nd1.1 (q ▸ .head _)
  have k : (fz L ((a, o) :: ms) h).StaysIn (fz L ms h') := hide_mono fun b hb x e => by
    refine ⟨fun m => hb ?_, hs b x (fun q => hb (q ▸ .tail _ (.head _))) e⟩
    rcases List.mem_cons.mp m with rfl | m
    · exact .head _
    · exact .tail _ (.tail _ m)
  refine ⟨let ⟨m, e, r⟩ := S.ns; ⟨m, e.extBut hs hLa, r⟩, fun p hp => hs p.1 p.2 (fun q => nd2.1 (List.mem_map.mpr ⟨p, hp, q⟩)) (S.muts p (.tail _ hp)), ?_, S.gd.keeps k, fun P hP => ⟨(S.fs P hP).1, (S.fs P hP).1 _ _ k (S.fs P hP).2⟩⟩
  exact List.nodup_cons.mpr ⟨fun m => nd1.1 (.tail _ m), nd2.2⟩

/-- an iterator, in what a loop asks of it -/
structure Iter (w : World) (A : Around) (I : Addr) (n : Nat) (IP : Nat → Value → Prop) (IO : Nat → Obj → Prop) (X : HP) : Prop where
  item : ∀ i (s : Shared) o (Q : Option Value → Shared → Prop) (E : Value → Shared → Prop), i < n → s.heap.get? I = some o → IO i o → X s.heap →
    (∀ v h' tk o', IP i v → h'.get? I = some o' → IO (i + 1) o' → Heap.ExtBut I s.heap h' → Q (some v) { s with heap := h', toks := tk }) → wpAny (MM w) A (pyNext (.ref I)) Q E s
  done : ∀ (s : Shared) o (Q : Option Value → Shared → Prop) (E : Value → Shared → Prop), s.heap.get? I = some o → IO n o → X s.heap →
    (∀ h' tk, Heap.ExtBut I s.heap h' → Q none { s with heap := h', toks := tk }) → wpAny (MM w) A (pyNext (.ref I)) Q E s

theorem iterList {w : World} {A : Around} (hh : A.handled = none) (I l : Addr) (vs : List Value) (hne : l ≠ I) :
    Iter w A I vs.length (fun i v => vs[i]? = some v) (fun i o => o.cls = .type "list_iterator" ∧ o.data = .fields #[.ref l, .int i 0]) (fun h => h.IsList l vs.toArray) where
  item := fun i s o Q E hi ho hio hx hQ => by
    refine wpAny_pyNext_list_item (items := vs.toArray) (x := vs[i]) ⟨o, ho, hio.1, hio.2⟩ hx (by simp [hi]) fun h' hit' hs' => ?_
    obtain ⟨o', ho', hc', hd'⟩ := hit'
    exact hQ _ h' s.toks o' (by simp [hi]) ho' ⟨hc', hd'⟩ hs'.extBut
  done := fun s o Q E ho hio hx hQ =>
    wpAny_pyNext_list_end (items := vs.toArray) hh ⟨o, ho, hio.1, hio.2⟩ hx (by simp) fun h' he' => hQ h' s.toks he'

theorem iterRange {w : World} {A : Around} (hh : A.handled = none) (I : Addr) (a c : Int) (n : Nat) :
    Iter w A I n (fun i v => ∃ t, v = .int (a + i * c) t) (fun i o => o = { cls := .type "range_iterator", dict := none, data := .fields #[rawInt (a + (i : Nat) * c), rawInt ((n : Int) - (i : Nat)), rawInt c], slots := #[] }) (fun _ => True) where
  item := fun i s o Q E hi ho hio hx hQ => by
    subst hio
    refine wpAny_pyNext_range_item ho (by lia) fun h' hit' hs' => ?_
    refine hQ _ h' _ _ ⟨_, rfl⟩ hit' ?_ hs'.extBut
    have e1 : a + ((i + 1 : Nat) : Int) * c = a + (i : Int) * c + c := by push_cast; rw [Int.add_mul, Int.one_mul, Int.add_assoc]
    have e2 : (n : Int) - ((i + 1 : Nat) : Int) = (n : Int) - (i : Int) - 1 := by push_cast; lia
    rw [e1, e2]
  done := fun s o Q E ho hio hx hQ => by
    subst hio
    exact wpAny_pyNext_range_end hh ho (by lia) fun h' he' => hQ h' s.toks he'

section
variable {w : World} {A : Around} {s : Shared} {env : Env} {names : List Str} {gls : List (Str × Value)}

def FTurn {σ : Type} (w : World) (names : List Str) (L : Addr) (s : Shared) (V : σ → List (Option Value)) (Ms : σ → List (Addr × Obj)) (Fs : σ → List HP) (P : σ → Prop) (I : Addr) (o : Obj) (R : Result → Shared → Prop) (f : Flow) (s' : Shared) : Prop :=
  match f with
  | .ret v => R (.ok (.ret v)) s'
  | .brk => R (.ok .next) s'
  | _ => ∃ (c' : σ) (h' : Heap) (tk' : Nat), s' = { s with heap := h', toks := tk' } ∧ P c' ∧ St w names L h' (V c') ((I, o) :: Ms c') (Fs c')
theorem fturn_next {σ : Type} {L : Addr} {V : σ → List (Option Value)} {Ms : σ → List (Addr × Obj)} {Fs : σ → List HP} {P : σ → Prop} {I : Addr} {o : Obj} {R : Result → Shared → Prop} {h' : Heap} {tk' : Nat} {vals fs}
    (c' : σ) (S : St w names L h' vals ((I, o) :: Ms c') fs) (hv : Sub (V c') vals) (hf : ∀ P ∈ Fs c', P ∈ fs) (hp : P c') : FTurn w names L s V Ms Fs P I o R .next { s with heap := h', toks := tk' } :=
  ⟨c', h', tk', rfl, hp, S.weak hv hf⟩

theorem forS {σ : Type} {x : Str} {px : Pos} {body : List Stmt} {R : Result → Shared → Prop} {I : Addr} {n : Nat} {IP : Nat → Value → Prop} {IO : Nat → Obj → Prop} {X : HP} {vals fs}
    (V : σ → List (Option Value)) (V' : σ → Value → List (Option Value)) (Ms : σ → List (Addr × Obj)) (Fs : σ → List HP) (P : Nat → σ → Prop) (c₀ : σ) {o₀ : Obj}
    (Z : Stat w env names gls) (T : Iter w A I n IP IO X) (S : St w names env.locals s.heap vals ((I, o₀) :: Ms c₀) fs) (hv : Sub (V c₀) vals) (hf : ∀ P ∈ Fs c₀, P ∈ fs) (hX : (∀ c, X ∈ Fs c) ∨ (∀ h, X h))
    (ho : IO 0 o₀) (hp : P 0 c₀) (hput : ∀ c v, Put names (V c) x v (V' c v))
    (turn : ∀ (T : Flow → Shared → Prop) i c v h tk o, (∀ f s', FTurn w names env.locals s V Ms Fs (P (i + 1)) I o R f s' → T f s') → i < n → IP i v → P i c → St w names env.locals h (V' c v) ((I, o) :: Ms c) (Fs c) →
      wpAny (MM w) A (execs body env) T (fun _ _ => False) { s with heap := h, toks := tk })
    (done : ∀ c h tk, P n c → St w names env.locals h (V c) (Ms c) (Fs c) → R (.ok .next) { s with heap := h, toks := tk }) :
    codeAny (MM w) A (.forLoop (.Name x px) (.ref I) body [] env) R s := by
  refine codeAny_forLoop (fun k s' => ∃ i c h tk o, i + k = n ∧ s' = { s with heap := h, toks := tk } ∧ IO i o ∧ P i c ∧ St w names env.locals h (V c) ((I, o) :: Ms c) (Fs c)) ?_ n ⟨0, c₀, s.heap, s.toks, o₀, by lia, rfl, ho, hp, S.weak hv hf⟩
  rintro k s' ⟨i, c, h, tk, o, hik, rfl, hio, hpc, S₁⟩
  have hxh : X h := hX.elim (fun q => S₁.at (q c)) fun q => q h
  by_cases hi : i < n
  · refine T.item i _ o _ _ hi (S₁.muts _ (.head _)) hio hxh fun v h' tk' o' hv' ho' hio' hext => ?_
    refine wpAny_assign_Name ?_
    have S₂ := S₁.move hext ho'
    refine stS (s := { s with heap := h', toks := tk' }) Z S₂ (hput c v) fun h'' S₃ => ?_
    refine wpAny_mono (turn (FTurn w names env.locals s V Ms Fs (P (i + 1)) I o' R) i c v h'' _ o' (fun _ _ x => x) hi hv' hpc S₃) (fun f s₃ q => ?_) fun _ _ e => e.elim
    cases f with
    | next =>
      obtain ⟨c', h₃, tk₃, rfl, hp', S'⟩ := q
      exact ⟨n - (i + 1), by lia, i + 1, c', h₃, tk₃, o', by lia, rfl, hio', hp', S'⟩
    | cont =>
      obtain ⟨c', h₃, tk₃, rfl, hp', S'⟩ := q
      exact ⟨n - (i + 1), by lia, i + 1, c', h₃, tk₃, o', by lia, rfl, hio', hp', S'⟩
    | brk => exact q
    | ret v => exact q
  · have hin : i = n := by lia
    subst hin
    refine T.done _ o _ _ (S₁.muts _ (.head _)) hio hxh fun h' tk' hext => wpAny_execs_nil ?_
    exact done c h' tk' hpc (S₁.dropMove hext)
end

/-- rows and pairs, told of a heap -/
def IsRow (h : Heap) (a : Addr) (ns : List Int) : Prop := ∃ vs, h.IsList a vs.toArray ∧ IntsAre vs ns
theorem IsRow.keeps {a ns} : Keeps (fun h => IsRow h a ns) := fun _ _ k ⟨vs, ⟨o, e, r⟩, i⟩ => ⟨vs, ⟨o, k _ _ e, r⟩, i⟩
theorem keeps_list {a : Addr} {vs : Array Value} : Keeps (fun h => h.IsList a vs) := fun _ _ k ⟨o, e, r⟩ => ⟨o, k _ _ e, r⟩
theorem keeps_tup {a : Addr} {vs : Array Value} : Keeps (fun h => IsTup h a vs) := fun _ _ k ⟨o, e, r⟩ => ⟨o, k _ _ e, r⟩
theorem keeps_true : Keeps (fun _ => True) := fun _ _ _ _ => trivial

section
variable {w : World} {names : List Str} {L : Addr} {h : Heap} {vals : List (Option Value)} {fs : List HP} {ms : List (Addr × Obj)}
theorem St.notL (S : St w names L h vals ms fs) {a : Addr} {o : Obj} (e : h.get? a = some o) (hd : ∀ es ep, o.data ≠ .dict es ep) : a ≠ L := by
  obtain ⟨m', ⟨oL, es, ep, eL, dL, _⟩, _⟩ := S.ns
  intro q
  rw [q, eL] at e
  cases e
  exact hd _ _ dL
theorem St.addList (S : St w names L h vals [] fs) {a : Addr} {vs : Array Value} (x : h.IsList a vs) : St w names L h vals [] ((fun h => h.IsList a vs) :: fs) := by
  obtain ⟨o, e, hc, n, hd⟩ := x
  refine S.add keeps_list ⟨o, hideAll_get _ e fun m => ?_, hc, n, hd⟩
  exact S.notL e (by rw [hd]; intro _ _ q; cases q) (by simpa using m)
theorem St.addTup (S : St w names L h vals [] fs) {a : Addr} {vs : Array Value} (x : IsTup h a vs) : St w names L h vals [] ((fun h => IsTup h a vs) :: fs) := by
  obtain ⟨o, e, hc, n, hd⟩ := x
  refine S.add keeps_tup ⟨o, hideAll_get _ e fun m => ?_, hc, n, hd⟩
  exact S.notL e (by rw [hd]; intro _ _ q; cases q) (by simpa using m)
theorem St.addRow (S : St w names L h vals [] fs) {a : Addr} {ns : List Int} (x : IsRow h a ns) : St w names L h vals [] ((fun h => IsRow h a ns) :: fs) := by
  obtain ⟨vs, ⟨o, e, hc, n, hd⟩, i⟩ := x
  refine S.add IsRow.keeps ⟨vs, ⟨o, hideAll_get _ e fun m => ?_, hc, n, hd⟩, i⟩
  exact S.notL e (by rw [hd]; intro _ _ q; cases q) (by simpa using m)
/-- a new object, frozen at once, whatever may change beside it -/
theorem St.pushObj (S : St w names L h vals ms fs) (o : Obj) (hf : o.isFreed = false := by rfl) : St w names L (h.push o) vals ms ((fun h' => h'.get? h.objs.size = some o) :: fs) :=
  (S.newMut o hf).freeze
end
end Mine

end

section
open PySem PySem.W PyProof.Rows PySem.Calls
set_option maxRecDepth 100000
namespace Mine
theorem start_fill (w : World) : (hd.heap_39 w.params) = (hd.heap_39 w.params) ∧ PySem.Challenge.rw_nz0080_01 = PySem.Challenge.rw_nz0080_01 := by
  k_fill
  exact ⟨rfl, rfl⟩
theorem g_normal (w : World) : GlobalIs w (Str.ofString "normal") (.ref 58) := ⟨by decide, .inl (by k_dflt k_is)⟩
theorem g_compare (w : World) : GlobalIs w (Str.ofString "compare") (.ref 65) := ⟨by decide, .inl (by k_dflt k_is)⟩
theorem g_add (w : World) : GlobalIs w (Str.ofString "add") (.ref 72) := ⟨by decide, .inl (by k_dflt k_is)⟩
theorem g_sub (w : World) : GlobalIs w (Str.ofString "sub") (.ref 79) := ⟨by decide, .inl (by k_dflt k_is)⟩
theorem g_add_limb (w : World) : GlobalIs w (Str.ofString "add_limb") (.ref 86) := ⟨by decide, .inl (by k_dflt k_is)⟩
theorem g_signed (w : World) : GlobalIs w (Str.ofString "signed") (.ref 93) := ⟨by decide, .inl (by k_dflt k_is)⟩
theorem g_s_neg (w : World) : GlobalIs w (Str.ofString "s_neg") (.ref 100) := ⟨by decide, .inl (by k_dflt k_is)⟩
theorem g_s_sign (w : World) : GlobalIs w (Str.ofString "s_sign") (.ref 107) := ⟨by decide, .inl (by k_dflt k_is)⟩
theorem g_s_add (w : World) : GlobalIs w (Str.ofString "s_add") (.ref 114) := ⟨by decide, .inl (by k_dflt k_is)⟩
theorem g_s_sub (w : World) : GlobalIs w (Str.ofString "s_sub") (.ref 121) := ⟨by decide, .inl (by k_dflt k_is)⟩
theorem g_s_mul (w : World) : GlobalIs w (Str.ofString "s_mul") (.ref 128) := ⟨by decide, .inl (by k_dflt k_is)⟩
theorem g_tdiv (w : World) : GlobalIs w (Str.ofString "tdiv") (.ref 135) := ⟨by decide, .inl (by k_dflt k_is)⟩
theorem g_fdiv (w : World) : GlobalIs w (Str.ofString "fdiv") (.ref 142) := ⟨by decide, .inl (by k_dflt k_is)⟩
theorem g_NOUGHT (w : World) : GlobalIs w (Str.ofString "NOUGHT") (.ref 144) := ⟨by decide, .inl (by k_dflt k_is)⟩
theorem g_UNIT (w : World) : GlobalIs w (Str.ofString "UNIT") (.ref 146) := ⟨by decide, .inl (by k_dflt k_is)⟩
theorem g_fraction_of (w : World) : GlobalIs w (Str.ofString "fraction_of") (.ref 153) := ⟨by decide, .inl (by k_dflt k_is)⟩
theorem g_law_take (w : World) : GlobalIs w (Str.ofString "_law_take") (.ref 160) := ⟨by decide, .inl (by k_dflt k_is)⟩
theorem g_law_total (w : World) : GlobalIs w (Str.ofString "_law_total") (.ref 167) := ⟨by decide, .inl (by k_dflt k_is)⟩
theorem g_law_row (w : World) : GlobalIs w (Str.ofString "_law_row") (.ref 174) := ⟨by decide, .inl (by k_dflt k_is)⟩
theorem g_law_whole (w : World) : GlobalIs w (Str.ofString "_law_whole") (.ref 181) := ⟨by decide, .inl (by k_dflt k_is)⟩
theorem g_law_is_row (w : World) : GlobalIs w (Str.ofString "_law_is_row") (.ref 186) := ⟨by decide, .inl (by k_dflt k_is)⟩
theorem g_law_times (w : World) : GlobalIs w (Str.ofString "_law_times") (.ref 193) := ⟨by decide, .inl (by k_dflt k_is)⟩
theorem g_law_parts (w : World) : GlobalIs w (Str.ofString "_law_parts") (.ref 200) := ⟨by decide, .inl (by k_dflt k_is)⟩
theorem g_law_common (w : World) : GlobalIs w (Str.ofString "_law_common") (.ref 207) := ⟨by decide, .inl (by k_dflt k_is)⟩
theorem g_law_inverse (w : World) : GlobalIs w (Str.ofString "_law_inverse") (.ref 214) := ⟨by decide, .inl (by k_dflt k_is)⟩
theorem g_law_told (w : World) : GlobalIs w (Str.ofString "_law_told") (.ref 221) := ⟨by decide, .inl (by k_dflt k_is)⟩
theorem g_law_is_there (w : World) : GlobalIs w (Str.ofString "_law_is_there") (.ref 228) := ⟨by decide, .inl (by k_dflt k_is)⟩
theorem g_len (w : World) : GlobalIs w (Str.ofString "len") (.builtin "len") := ⟨by decide, .inr ⟨by k_dflt k_is, by boot_by_name, by decide⟩⟩
theorem g_range (w : World) : GlobalIs w (Str.ofString "range") (.type "range") := ⟨by decide, .inr ⟨by k_dflt k_is, by boot_by_name, by decide⟩⟩
theorem g_abs (w : World) : GlobalIs w (Str.ofString "abs") (.builtin "abs") := ⟨by decide, .inr ⟨by k_dflt k_is, by boot_by_name, by decide⟩⟩
theorem g_min (w : World) : GlobalIs w (Str.ofString "min") (.builtin "min") := ⟨by decide, .inr ⟨by k_dflt k_is, by boot_by_name, by decide⟩⟩
theorem g_isinstance (w : World) : GlobalIs w (Str.ofString "isinstance") (.builtin "isinstance") := ⟨by decide, .inr ⟨by k_dflt k_is, by boot_by_name, by decide⟩⟩
theorem g_list (w : World) : GlobalIs w (Str.ofString "list") (.type "list") := ⟨by decide, .inr ⟨by k_dflt k_is, by boot_by_name, by decide⟩⟩
theorem g_bool (w : World) : GlobalIs w (Str.ofString "bool") (.type "bool") := ⟨by decide, .inr ⟨by k_dflt k_is, by boot_by_name, by decide⟩⟩
theorem g_int (w : World) : GlobalIs w (Str.ofString "int") (.type "int") := ⟨by decide, .inr ⟨by k_dflt k_is, by boot_by_name, by decide⟩⟩
end Mine

end

section
open PySem PySem.W PyProof.Rows PySem.Calls
set_option maxRecDepth 100000
namespace Mine
structure Room (A : Around) (n : Nat) : Prop where
  hh : A.handled = none
  hd : A.depth + n < recursionLimit
  hu : A.units + 8 * n < cLine
theorem Room.deeper {A : Around} {n : Nat} (R : Room A (n + 1)) (env : Env) : Room (A.deeper env) n := by
  refine ⟨R.hh, ?_, ?_⟩
  · have := R.hd; show A.depth + 1 + n < _; lia
  · have := R.hu; show A.units + 3 + 8 * n < _; lia
theorem Room.less {A : Around} {n m : Nat} (R : Room A n) (h : m ≤ n) : Room A m := ⟨R.hh, by have := R.hd; lia, by have := R.hu; lia⟩
theorem Room.depth {A : Around} {n : Nat} (R : Room A n) : A.depth < recursionLimit := by have := R.hd; lia
theorem Room.units {A : Around} {n : Nat} (R : Room A n) : A.units < cLine := by have := R.hu; lia

/-- facts by name -/
def LF (a : Addr) (vs : List Value) : HP := fun h => h.IsList a vs.toArray
def TF (a : Addr) (vs : List Value) : HP := fun h => IsTup h a vs.toArray
theorem keepsLF {a vs} : Keeps (LF a vs) := keeps_list
theorem keepsTF {a vs} : Keeps (TF a vs) := keeps_tup
def listO (vs : List Value) (n : Nat) : Obj := { cls := .type "list", data := .seq vs.toArray n }

section
variable {w : World} {A : Around} {E : Value → Shared → Prop} {s : Shared} {names : List Str} {L : Addr} {vals : List (Option Value)} {ms : List (Addr × Obj)} {fs : List HP}

theorem St.pushList {h : Heap} (S : St w names L h vals ms fs) (vs : List Value) (n : Nat) : St w names L (h.push (listO vs n)) vals ms (LF h.objs.size vs :: fs) := by
  have S' := S.pushObj (listO vs n)
  have hm := S'.fs _ (.head _)
  exact (S'.weak (vals' := vals) (fs' := fs) (by clear S S' hm; induction vals with | nil => exact .nil | cons _ _ ih => exact .same ih) fun P hP => .tail _ hP).add keepsLF ⟨_, hm.2, rfl, n, rfl⟩
theorem St.pushTup {h : Heap} (S : St w names L h vals ms fs) (vs : List Value) : St w names L (h.push { cls := .type "tuple", data := .seq vs.toArray }) vals ms (TF h.objs.size vs :: fs) := by
  have S' := S.pushObj { cls := .type "tuple", data := .seq vs.toArray }
  have hm := S'.fs _ (.head _)
  exact (S'.weak (vals' := vals) (fs' := fs) (by clear S S' hm; induction vals with | nil => exact .nil | cons _ _ ih => exact .same ih) fun P hP => .tail _ hP).add keepsTF ⟨_, hm.2, rfl, 0, rfl⟩
theorem St.addLF {h : Heap} (S : St w names L h vals [] fs) {a : Addr} {vs : List Value} (x : h.IsList a vs.toArray) : St w names L h vals [] (LF a vs :: fs) := S.addList x
theorem St.addTF {h : Heap} (S : St w names L h vals [] fs) {a : Addr} {vs : List Value} (x : IsTup h a vs.toArray) : St w names L h vals [] (TF a vs :: fs) := S.addTup x

theorem lenS {a : Addr} {vs : List Value} {ns : List Int} {Q : Value → Shared → Prop} (S : St w names L s.heap vals ms fs) (hm : LF a vs ∈ fs) (hi : IntsAre vs ns) (hf : ns.length < 2 ^ 60)
    (h : ∀ t tk, Q (.int ns.length t) { s with toks := tk }) : wpAny (MM w) A (call (.builtin "len") [.ref a]) Q E s := by
  have hx : s.heap.IsList a vs.toArray := S.at hm
  have e : vs.toArray.size = ns.length := by simp [hi.length]
  refine call_len_list hx (by lia) ?_
  rw [e]
  exact h _ _
theorem lenM {a : Addr} {vs : List Value} {k : Nat} {ns : List Int} {Q : Value → Shared → Prop} (S : St w names L s.heap vals ms fs) (hm : (a, listO vs k) ∈ ms) (hi : IntsAre vs ns) (hf : ns.length < 2 ^ 60)
    (h : ∀ t tk, Q (.int ns.length t) { s with toks := tk }) : wpAny (MM w) A (call (.builtin "len") [.ref a]) Q E s := by
  have e : vs.toArray.size = ns.length := by simp [hi.length]
  refine call_len_list (items := vs.toArray) ⟨_, S.muts _ hm, rfl, k, rfl⟩ (by lia) ?_
  rw [e]
  exact h _ _
theorem getD_at {vs : List Value} {ns : List Int} (hi : IntsAre vs ns) {k : Nat} (h : k < ns.length) : ∃ t, vs[k]? = some (.int (ns.getD k 0) t) := by
  obtain ⟨t, e⟩ := hi.get k ns[k] (by simp [h])
  exact ⟨t, by rw [e, List.getD_eq_getElem?_getD]; simp [h]⟩
theorem itemS {value slice : PySem.Expr} {a : Addr} {vs : List Value} {ns : List Int} {k : Int} {u : Tok} {Q : Value → Shared → Prop} (S : St w names L s.heap vals ms fs) (hm : LF a vs ∈ fs) (hi : IntsAre vs ns)
    (h0 : 0 ≤ k) (h1 : k < ns.length) (hf : ns.length < 2 ^ 60) (h : ∀ t, Q (.int (ns.getD k.toNat 0) t) s)
    (hs : subscripted slice false (.ref a) (.int k u) = operate [.ref a, .int k u] (getItem (.ref a) (.int k u)) := by with_unfolding_all rfl) (hg : ∀ r, letTemporaryGo value (.ref a) r = pure () := by intro _; with_unfolding_all rfl) :
    wpAny (MM w) A (subscriptTail value slice (.ref a) (.int k u)) Q E s := by
  obtain ⟨t, e⟩ := getD_at hi (k := k.toNat) (by lia)
  exact item_list (S.at hm : s.heap.IsList a vs.toArray) h0 (by lia) (by simpa using e) (h t) hs hg
theorem itemM {value slice : PySem.Expr} {a : Addr} {vs : List Value} {kk : Nat} {ns : List Int} {k : Int} {u : Tok} {Q : Value → Shared → Prop} (S : St w names L s.heap vals ms fs) (hm : (a, listO vs kk) ∈ ms) (hi : IntsAre vs ns)
    (h0 : 0 ≤ k) (h1 : k < ns.length) (hf : ns.length < 2 ^ 60) (h : ∀ t, Q (.int (ns.getD k.toNat 0) t) s)
    (hs : subscripted slice false (.ref a) (.int k u) = operate [.ref a, .int k u] (getItem (.ref a) (.int k u)) := by with_unfolding_all rfl) (hg : ∀ r, letTemporaryGo value (.ref a) r = pure () := by intro _; with_unfolding_all rfl) :
    wpAny (MM w) A (subscriptTail value slice (.ref a) (.int k u)) Q E s := by
  obtain ⟨t, e⟩ := getD_at hi (k := k.toNat) (by lia)
  exact item_list (items := vs.toArray) ⟨_, S.muts _ hm, rfl, kk, rfl⟩ h0 (by lia) (by simpa using e) (h t) hs hg
theorem itemT {value slice : PySem.Expr} {a : Addr} {vs : List Value} {k : Int} {u : Tok} {x : Value} {Q : Value → Shared → Prop} (S : St w names L s.heap vals ms fs) (hm : TF a vs ∈ fs)
    (h0 : 0 ≤ k) (hf : k < 2 ^ 63) (h1 : seqIndex? k vs.length = some k.toNat) (hx : vs[k.toNat]? = some x) (h : Q x s)
    (hs : subscripted slice false (.ref a) (.int k u) = operate [.ref a, .int k u] (getItem (.ref a) (.int k u)) := by with_unfolding_all rfl) (hg : ∀ r, letTemporaryGo value (.ref a) r = pure () := by intro _; with_unfolding_all rfl) :
    wpAny (MM w) A (subscriptTail value slice (.ref a) (.int k u)) Q E s :=
  item_tupleL (S.at hm : IsTup s.heap a vs.toArray) (by lia) hf h1 hx h hs hg

theorem newTupS {vs : List Value} {Q : Value → Shared → Prop} (S : St w names L s.heap vals ms fs) (hz : vs.length ≤ 1000) (h : ∀ a h', St w names L h' vals ms (TF a vs :: fs) → Q (.ref a) { s with heap := h' }) :
    wpAny (MM w) A (newTuple vs) Q E s :=
  wpAny_newObj_type (h _ _ (S.pushTup vs)) (by show vs.toArray.size ≤ sizeLine; rw [List.size_toArray]; exact Nat.le_trans hz (by decide))
theorem newListM {vs : List Value} {Q : Value → Shared → Prop} (S : St w names L s.heap vals ms fs) (hz : vs.length ≤ 1000) (h : ∀ a h', St w names L h' vals ((a, listO vs 0) :: ms) fs → Q (.ref a) { s with heap := h' }) :
    wpAny (MM w) A (newList vs) Q E s :=
  wpAny_newObj_type (h _ _ (S.newMut (listO vs 0))) (by show vs.toArray.size ≤ sizeLine; rw [List.size_toArray]; exact Nat.le_trans hz (by decide))
theorem newListS {vs : List Value} {Q : Value → Shared → Prop} (S : St w names L s.heap vals ms fs) (hz : vs.length ≤ 1000) (h : ∀ a h', St w names L h' vals ms (LF a vs :: fs) → Q (.ref a) { s with heap := h' }) :
    wpAny (MM w) A (newList vs) Q E s :=
  wpAny_newObj_type (h _ _ (S.pushList vs 0)) (by show vs.toArray.size ≤ sizeLine; rw [List.size_toArray]; exact Nat.le_trans hz (by decide))

theorem getAppendS {a : Addr} {vs : List Value} {k : Nat} {pl : Sem Bool} {Q : Value × List Value → Shared → Prop} (S : St w names L s.heap vals ms fs) (hm : (a, listO vs k) ∈ ms)
    (h : Q (.builtin "list.append", [.ref a]) s) : wpAny (MM w) A (getMethod (.ref a) "append" pl) Q E s := getMethod_list_append (S.muts _ hm) rfl rfl h
theorem appendS {a : Addr} {vs : List Value} {k : Nat} {x : Value} {Q : Value → Shared → Prop} (S : St w names L s.heap vals ((a, listO vs k) :: ms) fs) (hz : vs.length ≤ 100000)
    (h : ∀ h', St w names L h' vals ((a, listO (vs ++ [x]) (k + 1)) :: ms) fs → Q .none { s with heap := h' }) :
    wpAny (MM w) A (call (.builtin "list.append") [.ref a, x]) Q E s :=
  append_at (S.muts _ (.head _)) (fun h' hs e => h h' (S.upd hs (by rw [e]; simp [listO])))
    (by rw [List.size_toArray]; exact Nat.le_trans hz (by decide))
/-- the list that grows stands behind an iterator -/
theorem append2S {a : Addr} {vs : List Value} {k : Nat} {x : Value} {p : Addr × Obj} {Q : Value → Shared → Prop} (S : St w names L s.heap vals (p :: (a, listO vs k) :: ms) fs) (hz : vs.length ≤ 100000)
    (h : ∀ h', St w names L h' vals (p :: (a, listO (vs ++ [x]) (k + 1)) :: ms) fs → Q .none { s with heap := h' }) :
    wpAny (MM w) A (call (.builtin "list.append") [.ref a, x]) Q E s :=
  appendS S.swap hz fun h' S' => h h' S'.swap

theorem sliceS {value slice : PySem.Expr} {l : Addr} {vs : List Value} {ns : List Int} {h₁ : Heap} {g d tk os} {vl vu vk : Value} {lo hi st : Option Int} {ops : List Value} {Q : Value → Shared → Prop}
    (S : St w names L h₁ vals ms fs) (hm : LF l vs ∈ fs) (hi' : IntsAre vs ns) (pl : IsPart vl lo) (pu : IsPart vu hi) (pk : IsPart vk st) (h0 : st ≠ some 0) (hz : ns.length ≤ 100000)
    (h : ∀ D vs' h', St w names L h' vals ms (LF D vs' :: fs) → IntsAre vs' (pickNums ns lo hi st) → Q (.ref D) ⟨h', g, d, tk, os⟩)
    (hs : subscripted slice false (.ref l) (.ref h₁.objs.size) = operate ops (getItem (.ref l) (.ref h₁.objs.size)) := by with_unfolding_all rfl)
    (ht : ∀ r, letTemporaryGo value (.ref l) r = pure () := by intro _; with_unfolding_all rfl) :
    wpAny (MM w) A (subscriptTail value slice (.ref l) (.ref h₁.objs.size)) Q E ⟨h₁.push { cls := .type "slice", data := .fields #[vl, vu, vk] }, g, d, tk, os⟩ := by
  have S₁ : St w names L (h₁.push { cls := .type "slice", data := .fields #[vl, vu, vk] }) vals ms fs := S.ext (stays_push _ _)
  have hl := (S₁.at hm : Heap.IsList _ l vs.toArray)
  refine subscriptTail_ops (s := ⟨h₁.push { cls := .type "slice", data := .fields #[vl, vu, vk] }, g, d, tk, os⟩) (Heap.IsList.typeIs hl) list_getitem_lookup
    (wpAny_getItem_list_slice hl (Heap.IsSliceOf.new ..) pl pu pk h0 ?_ (by simp only [List.size_toArray]; rw [hi'.length]; exact Nat.le_trans hz (by decide))) hs ht
  have hp := hi'.pick lo hi st
  have S₂ := S₁.pushList (slicePick vs.toArray lo hi st).toList 0
  exact h _ _ _ S₂ hp
/-- a range, by name -/
def RgF (r : Addr) (a b c : Int) : HP := fun h => ∃ t u v, IsRange h r a b c t u v
theorem keepsRgF {r a b c} : Keeps (RgF r a b c) := fun _ _ k ⟨t, u, v, e⟩ => ⟨t, u, v, k _ _ e⟩
theorem St.pushRange {h : Heap} (S : St w names L h vals ms fs) (a b c : Int) (t u v : Tok) : St w names L (h.push { cls := .type "range", data := .fields #[.int a t, .int b u, .int c v] }) vals ms (RgF h.objs.size a b c :: fs) := by
  have S' := S.pushObj { cls := .type "range", data := .fields #[.int a t, .int b u, .int c v] }
  have hm := S'.fs _ (.head _)
  exact (S'.weak (vals' := vals) (fs' := fs) (by clear S S' hm; induction vals with | nil => exact .nil | cons _ _ ih => exact .same ih) fun P hP => .tail _ hP).add keepsRgF ⟨t, u, v, hm.2⟩
theorem range1S {n : Int} {t : Tok} {Q : Value → Shared → Prop} (S : St w names L s.heap vals ms fs)
    (h : ∀ r h' tk, St w names L h' vals ms (RgF r 0 n 1 :: fs) → Q (.ref r) { s with heap := h', toks := tk }) : wpAny (MM w) A (call (.type "range") [.int n t]) Q E s :=
  call_range_1 (h _ _ _ (S.pushRange _ _ _ _ _ _))
theorem range2S {a b : Int} {t u : Tok} {Q : Value → Shared → Prop} (S : St w names L s.heap vals ms fs)
    (h : ∀ r h' tk, St w names L h' vals ms (RgF r a b 1 :: fs) → Q (.ref r) { s with heap := h', toks := tk }) : wpAny (MM w) A (call (.type "range") [.int a t, .int b u]) Q E s :=
  call_range_2 (h _ _ _ (S.pushRange _ _ _ _ _ _))
theorem range3S {a b c : Int} {t u v : Tok} {Q : Value → Shared → Prop} (S : St w names L s.heap vals ms fs) (hc : c ≠ 0) (hc2 : c.natAbs < 1073741824)
    (h : ∀ r h' tk, St w names L h' vals ms (RgF r a b c :: fs) → Q (.ref r) { s with heap := h', toks := tk }) : wpAny (MM w) A (call (.type "range") [.int a t, .int b u, .int c v]) Q E s :=
  call_range_3 hc (h _ _ _ (S.pushRange _ _ _ _ _ _)) (Or.inl (PyProof.noPylong_small hc2))
end
section
variable {w : World} {A : Around} {s : Shared} {env : Env} {names : List Str} {gls : List (Str × Value)} {E : Value → Shared → Prop}
theorem forRangeS {σ : Type} {x : Str} {px : Pos} {body : List Stmt} {R : Result → Shared → Prop} {r : Addr} {a b c : Int} {vals fs}
    (n : Nat) (V : σ → List (Option Value)) (V' : σ → Value → List (Option Value)) (Ms : σ → List (Addr × Obj)) (Fs : σ → List HP) (P : Nat → σ → Prop) (c₀ : σ)
    (hh : A.handled = none) (hsm : Builtin.Range.small a b c = true) (hn : Builtin.Range.rangeSize a b c = n)
    (Z : Stat w env names gls) (S : St w names env.locals s.heap vals (Ms c₀) fs) (hr : RgF r a b c ∈ fs) (hv : Sub (V c₀) vals) (hf : ∀ P ∈ Fs c₀, P ∈ fs)
    (hp : P 0 c₀) (hput : ∀ c v, Put names (V c) x v (V' c v))
    (turn : ∀ (T : Flow → Shared → Prop) i q t h tk I o, (∀ f s', FTurn w names env.locals s V Ms Fs (P (i + 1)) I o R f s' → T f s') → i < n → P i q → St w names env.locals h (V' q (.int (a + i * c) t)) ((I, o) :: Ms q) (Fs q) →
      wpAny (MM w) A (execs body env) T (fun _ _ => False) { s with heap := h, toks := tk })
    (done : ∀ q h tk, P n q → St w names env.locals h (V q) (Ms q) (Fs q) → R (.ok .next) { s with heap := h, toks := tk }) :
    wpAny (MM w) A (pyIter (.ref r)) (fun it s₂ => codeAny (MM w) A (.forLoop (.Name x px) it body [] env) R s₂) E s := by
  obtain ⟨t, u, v, hR⟩ := S.at hr
  refine wpAny_pyIter_range hR hsm ?_
  have S' := S.newMut { cls := .type "range_iterator", data := .fields #[rawInt a, rawInt (Builtin.Range.rangeSize a b c), rawInt c] }
  refine forS (s := { s with heap := _ }) V V' Ms Fs P c₀ Z (iterRange hh _ a c n) S' hv hf (.inr fun _ => trivial) (by simp [hn]) hp hput ?_ ?_
  · rintro T i q v h tk o hT hi ⟨t, rfl⟩ hP S₁
    exact turn T i q t h tk _ o hT hi hP S₁
  · exact done
theorem forListS {σ : Type} {x : Str} {px : Pos} {body : List Stmt} {R : Result → Shared → Prop} {l : Addr} {vs : List Value} {ns : List Int} {vals fs}
    (V : σ → List (Option Value)) (V' : σ → Value → List (Option Value)) (Ms : σ → List (Addr × Obj)) (Fs : σ → List HP) (P : Nat → σ → Prop) (c₀ : σ)
    (hh : A.handled = none) (hi : IntsAre vs ns)
    (Z : Stat w env names gls) (S : St w names env.locals s.heap vals (Ms c₀) fs) (hl : ∀ c, LF l vs ∈ Fs c) (hv : Sub (V c₀) vals) (hf : ∀ P ∈ Fs c₀, P ∈ fs)
    (hp : P 0 c₀) (hput : ∀ c v, Put names (V c) x v (V' c v))
    (turn : ∀ (T : Flow → Shared → Prop) i q t h tk I o, (∀ f s', FTurn w names env.locals s V Ms Fs (P (i + 1)) I o R f s' → T f s') → i < ns.length → P i q → St w names env.locals h (V' q (.int (ns.getD i 0) t)) ((I, o) :: Ms q) (Fs q) →
      wpAny (MM w) A (execs body env) T (fun _ _ => False) { s with heap := h, toks := tk })
    (done : ∀ q h tk, P ns.length q → St w names env.locals h (V q) (Ms q) (Fs q) → R (.ok .next) { s with heap := h, toks := tk }) :
    wpAny (MM w) A (pyIter (.ref l)) (fun it s₂ => codeAny (MM w) A (.forLoop (.Name x px) it body [] env) R s₂) E s := by
  have hL : s.heap.IsList l vs.toArray := S.at (hf _ (hl c₀))
  refine wpAny_pyIter_list hL ?_
  have S' := S.newMut { cls := .type "list_iterator", data := .fields #[.ref l, .int 0 0] }
  have hne : l ≠ s.heap.objs.size := by
    obtain ⟨o, ho, _⟩ := hL
    exact Nat.ne_of_lt (Heap.lt_size ho)
  refine forS (s := { s with heap := _ }) V V' Ms Fs P c₀ Z (iterList hh _ l vs hne) S' hv hf (.inl hl) ⟨rfl, rfl⟩ hp hput ?_ ?_
  · rintro T i q v h tk o hT hi' hv' hP S₁
    rw [hi.length] at hi'
    obtain ⟨t, e⟩ := getD_at hi hi'
    rw [e] at hv'
    cases hv'
    exact turn T i q t h tk _ o hT hi' hP S₁
  · rw [hi.length]; exact done
end
end Mine
namespace Mine
theorem cutS {M : Model} {A : Around} {E : Value → Shared → Prop} {s : Shared} {env : Env} {st : Stmt} {Q : Flow → Shared → Prop} (J : Shared → Prop)
    (h1 : wpAny M A (exec st env) (fun f s' => f = .next ∧ J s') E s) (h2 : ∀ s', J s' → Q .next s') : wpAny M A (exec st env) Q E s :=
  wpAny_mono h1 (fun f s' ⟨e, j⟩ => e ▸ h2 s' j) fun _ _ x => x
end Mine
namespace Mine
theorem St.mutRow {w : World} {names : List Str} {L : Addr} {h : Heap} {vals : List (Option Value)} {ms : List (Addr × Obj)} {fs : List HP} {a : Addr} {vs : List Value} {n : Nat} {ns : List Int} (S : St w names L h vals ms fs) (hm : (a, listO vs n) ∈ ms) (hi : IntsAre vs ns) : IsRow h a ns :=
  ⟨vs, ⟨_, S.muts _ hm, rfl, n, rfl⟩, hi⟩
theorem St.listRow {w : World} {names : List Str} {L : Addr} {h : Heap} {vals : List (Option Value)} {ms : List (Addr × Obj)} {fs : List HP} {a : Addr} {vs : List Value} {ns : List Int} (S : St w names L h vals ms fs) (hm : LF a vs ∈ fs) (hi : IntsAre vs ns) : IsRow h a ns :=
  ⟨vs, S.at hm, hi⟩
end Mine
namespace Mine
theorem callWithS {w : World} {A : Around} {E : Value → Shared → Prop} {s : Shared} {env : Env} {pos : Pos} {f : Value} {Q : Value → Shared → Prop} {e : PySem.Expr} {rest : List PySem.Expr} (hk : keepIn (hd.heap_39 w.params) f = true)
    (h : wpAny (MM w) A (spliced (backTo pos (starEach (e :: rest) env))) (fun vs s₁ => Frag.In (hd.heap_39 w.params) s₁.heap ∧ wpAny (MM w) A (call f ([] ++ vs)) Q E s₁) E s)
    (he : starEach (e :: rest) env = (false, eval e env) :: starEach rest env := by rfl) (hplain : (backTo pos (starEach rest env)).any (·.1) = false := by rfl) :
    wpAny (MM w) A (callWith pos f [] (backTo pos (starEach (e :: rest) env)) []) Q E s := by
  rw [he] at h ⊢
  exact callWith_of (by show ((false || (backTo pos (starEach rest env)).any (·.1)) || false) = false; rw [hplain]; rfl) (keeps_K hk) (evalArgs_plain h)
end Mine

end

section
open PySem PySem.W PyProof.Rows PySem.Calls
set_option maxRecDepth 100000
namespace Mine
section
variable {w : World} {A : Around} {E : Value → Shared → Prop} {s : Shared} {Q : Value → Shared → Prop} {a b : Int} {t u : Tok}
theorem mulI (hm : a.natAbs < 2 ^ 60 ∨ b.natAbs < 2 ^ 60) (h : ∀ t tk, Q (.int (a * b) t) { s with toks := tk }) : wpAny (MM w) A (binaryOp .Mult (.int a t) (.int b u)) Q E s := by
  refine mul_int (h _ _) ?_
  rcases hm with hm | hm
  · exact IntMulOk.of_left (intBits_le_64 (by lia) (by lia))
  · exact IntMulOk.of_right (intBits_le_64 (by lia) (by lia))
theorem fdivI (hb : 0 < b) (hb2 : b < 1073741824) (h : ∀ t tk, Q (.int (a / b) t) { s with toks := tk }) : wpAny (MM w) A (binaryOp .FloorDiv (.int a t) (.int b u)) Q E s := by
  refine floordiv_int (by lia) ?_ (Or.inl (PyProof.noPylong_small (by lia)))
  rw [Int.fdiv_eq_ediv_of_nonneg _ (by lia)]
  exact h _ _
theorem fmodI (hb : 0 < b) (h : ∀ t tk, Q (.int (a % b) t) { s with toks := tk }) : wpAny (MM w) A (binaryOp .Mod (.int a t) (.int b u)) Q E s := by
  refine mod_int' (by lia) ?_
  rw [Int.fmod_eq_emod_of_nonneg _ (by lia)]
  exact h _ _
theorem pow2I {k b : Nat} (hk : k ≤ 1000) (hb : 2 ^ k = b) (h : ∀ t tk, Q (.int (b : Int) t) { s with toks := tk }) : wpAny (MM w) A (binaryOp .Pow (.int 2 t) (.int (k : Int) u)) Q E s := by
  subst hb
  refine pow_int_small (by lia) (by lia) (by decide) ?_
  have e : ((2 : Int) ^ ((k : Int)).toNat) = ((2 ^ k : Nat) : Int) := by simp
  rw [e]
  exact h _ _
theorem shl1I {k b : Nat} (hk : k ≤ 1000) (hb : 2 ^ k = b) (h : ∀ t tk, Q (.int (b : Int) t) { s with toks := tk }) : wpAny (MM w) A (binaryOp .LShift (.int 1 t) (.int (k : Int) u)) Q E s := by
  subst hb
  refine lshift_int_small (by lia) (by lia) (by decide) ?_
  have e : ((1 : Int) * 2 ^ ((k : Int)).toNat) = ((2 ^ k : Nat) : Int) := by simp
  rw [e]
  exact h _ _
theorem shrI {k b : Nat} (hb : 2 ^ k = b) (h : ∀ t tk, Q (.int (a / (b : Int)) t) { s with toks := tk }) : wpAny (MM w) A (inplaceOp .RShift (.int a t) (.int (k : Int) u)) Q E s := by
  subst hb
  refine irshift_int (by lia) ?_
  have e : ((2 : Int) ^ ((k : Int)).toNat) = ((2 ^ k : Nat) : Int) := by simp
  rw [e, Int.fdiv_eq_ediv_of_nonneg _ (Int.natCast_nonneg _)]
  exact h _ _
theorem bitAnd_low {x : Int} (k : Nat) (hx : 0 ≤ x) : Builtin.bitAnd x (((2 ^ k : Nat) : Int) - 1) = x % ((2 ^ k : Nat) : Int) := by
  have hp : 0 < 2 ^ k := Nat.two_pow_pos k
  obtain ⟨n, rfl⟩ := Int.eq_ofNat_of_zero_le hx
  have e : (((2 ^ k : Nat) : Int) - 1) = ((2 ^ k - 1 : Nat) : Int) := by lia
  rw [e]
  unfold Builtin.bitAnd
  simp only [Int.natCast_nonneg, decide_true, Int.toNat_natCast]
  rw [Nat.and_two_pow_sub_one_eq_mod]
  rfl
theorem andI {k b : Nat} (ha : 0 ≤ a) (hb : 2 ^ k = b) (h : ∀ t tk, Q (.int (a % (b : Int)) t) { s with toks := tk }) :
    wpAny (MM w) A (binaryOp .BitAnd (.int a t) (.int ((b : Int) - 1) u)) Q E s := by
  subst hb
  refine and_int ?_
  rw [bitAnd_low k ha]
  exact h _ _
end
structure Wd (k b : Nat) : Prop where
  k1 : 2 ≤ k
  k2 : k ≤ 9
  hb : 2 ^ k = b
theorem Wd.b1 {k b : Nat} (W : Wd k b) : 4 ≤ b := by
  have := Nat.pow_le_pow_right (show 0 < 2 by decide) W.k1
  rw [W.hb] at this; exact this
theorem Wd.b2 {k b : Nat} (W : Wd k b) : b ≤ 512 := by
  have := Nat.pow_le_pow_right (show 0 < 2 by decide) W.k2
  rw [W.hb] at this; exact this
end Mine

end

section
open PySem PySem.W PyProof.Rows PySem.Calls
set_option maxRecDepth 100000
namespace Mine
section
variable {w : World} {A : Around} {E : Value → Shared → Prop} {s : Shared} {env : Env} {names : List Str} {gls : List (Str × Value)} {vals : List (Option Value)} {ms : List (Addr × Obj)} {fs : List HP} {L : Addr}
theorem Stat.block (Z : Stat w env names gls) : (env.blockKind != .function) = false := by
  unfold Env.blockKind
  rw [Z.fn]
  rfl
theorem Stat.kind (Z : Stat w env names gls) {x : Str} (h : x ∈ names) : (env.kindOf x == some .local) = true := by
  have := (Z.loc x h).1
  unfold Env.kindOf
  rw [this]
  rfl
theorem fm2 {f : PySem.Expr → Option Str} {a b : PySem.Expr} {x y : Str} (h1 : f a = some x) (h2 : f b = some y) : [a, b].filterMap f = [x, y] := by
  rw [List.filterMap_cons_some h1, List.filterMap_cons_some h2, List.filterMap_nil]
theorem fm3 {f : PySem.Expr → Option Str} {a b c : PySem.Expr} {x y z : Str} (h1 : f a = some x) (h2 : f b = some y) (h3 : f c = some z) : [a, b, c].filterMap f = [x, y, z] := by
  rw [List.filterMap_cons_some h1, fm2 h2 h3]
theorem Stat.here (Z : Stat w env names gls) {x : Str} (h : x ∈ names) {a b : Nat} (e : (a == b) = true) : (env.kindOf x == some .local && a == b) = true := by rw [Z.kind h, e]; rfl
theorem swapped2 (Z : Stat w env names gls) {n1 n2 : Str} {p1 p2 tp vp : Pos} {k1 k2 : Nat} {v1 v2 : PySem.Expr} (h1 : n1 ∈ names) (h2 : n2 ∈ names) (hne : [n1, n2].eraseDups.length = 2)
    (hl : (p2.line == p1.line) = true) (hs : ([v1, v2].any fun | .Starred .. => true | _ => false) = false) (hf : ([v1, v2].all (foldedForSure 8)) = false) (hc : ([v1, v2].all (constantsAlone 8)) = false) :
    swappedStores [.Tuple [.Name n1 p1, .Name n2 p2] k1 tp] (.Tuple [v1, v2] k2 vp) env = pure (some [n1, n2]) := by
  have hd : ([n1, n2].eraseDups.length != 2) = false := by rw [hne]; rfl
  unfold swappedStores
  refine (if_neg fun q => Bool.noConfusion (Z.block.symm.trans q)).trans ((if_neg fun q => Bool.noConfusion (hs.symm.trans q)).trans ?_)
  dsimp only
  rw [fm2 (x := n1) (y := n2)]
  · refine (if_neg fun q => Bool.noConfusion (hd.symm.trans q)).trans ?_
    rw [hf, hc]
    rfl
  · exact if_pos (Z.here h1 BEq.rfl)
  · exact if_pos (Z.here h2 hl)
theorem swapped3 (Z : Stat w env names gls) {n1 n2 n3 : Str} {p1 p2 p3 tp vp : Pos} {k1 k2 : Nat} {v1 v2 v3 : PySem.Expr} (h1 : n1 ∈ names) (h2 : n2 ∈ names) (h3 : n3 ∈ names) (hne : [n1, n2, n3].eraseDups.length = 3)
    (hl : (p2.line == p1.line) = true) (hl3 : (p3.line == p1.line) = true) (hs : ([v1, v2, v3].any fun | .Starred .. => true | _ => false) = false) (hf : ([v1, v2, v3].all (foldedForSure 8)) = false) (hc : ([v1, v2, v3].all (constantsAlone 8)) = false) :
    swappedStores [.Tuple [.Name n1 p1, .Name n2 p2, .Name n3 p3] k1 tp] (.Tuple [v1, v2, v3] k2 vp) env = pure (some [n1, n2, n3]) := by
  have hd : ([n1, n2, n3].eraseDups.length != 3) = false := by rw [hne]; rfl
  unfold swappedStores
  refine (if_neg fun q => Bool.noConfusion (Z.block.symm.trans q)).trans ((if_neg fun q => Bool.noConfusion (hs.symm.trans q)).trans ?_)
  dsimp only
  rw [fm3 (x := n1) (y := n2) (z := n3)]
  · refine (if_neg fun q => Bool.noConfusion (hd.symm.trans q)).trans ?_
    rw [hf, hc]
    rfl
  · exact if_pos (Z.here h1 BEq.rfl)
  · exact if_pos (Z.here h2 hl)
  · exact if_pos (Z.here h3 hl3)
theorem assign2S (Z : Stat w env names gls) {n1 n2 : Str} {p1 p2 tp vp pos : Pos} {k1 k2 : Nat} {v1 v2 : PySem.Expr} {Q : Flow → Shared → Prop} (h1 : n1 ∈ names) (h2 : n2 ∈ names) (hne : [n1, n2].eraseDups.length = 2)
    (hl : (p2.line == p1.line) = true) (hs : ([v1, v2].any fun | .Starred .. => true | _ => false) = false) (hf : ([v1, v2].all (foldedForSure 8)) = false) (hc : ([v1, v2].all (constantsAlone 8)) = false)
    (h : wpAny (MM w) A (eval (.Tuple [v1, v2] k2 vp) env) (fun v s₁ => wpAny (MM w) A (unpackItems v 2 none) (fun items s₂ =>
      wpAny (MM w) A (assignInOrder [bindName env n2, bindName env n1] items.reverse) (fun _ => Q .next) E s₂) E s₁) E s) :
    wpAny (MM w) A (exec (.Assign [.Tuple [.Name n1 p1, .Name n2 p2] k1 tp] (.Tuple [v1, v2] k2 vp) pos) env) Q E s :=
  Assign_Tuple_swapped (names := [n1, n2]) h (by rfl) (swapped2 Z h1 h2 hne hl hs hf hc)
theorem assign3S (Z : Stat w env names gls) {n1 n2 n3 : Str} {p1 p2 p3 tp vp pos : Pos} {k1 k2 : Nat} {v1 v2 v3 : PySem.Expr} {Q : Flow → Shared → Prop} (h1 : n1 ∈ names) (h2 : n2 ∈ names) (h3 : n3 ∈ names) (hne : [n1, n2, n3].eraseDups.length = 3)
    (hl : (p2.line == p1.line) = true) (hl3 : (p3.line == p1.line) = true) (hs : ([v1, v2, v3].any fun | .Starred .. => true | _ => false) = false) (hf : ([v1, v2, v3].all (foldedForSure 8)) = false) (hc : ([v1, v2, v3].all (constantsAlone 8)) = false)
    (h : wpAny (MM w) A (eval (.Tuple [v1, v2, v3] k2 vp) env) (fun v s₁ => wpAny (MM w) A (unpackItems v 3 none) (fun items s₂ =>
      wpAny (MM w) A (assignInOrder [bindName env n3, bindName env n2, bindName env n1] items.reverse) (fun _ => Q .next) E s₂) E s₁) E s) :
    wpAny (MM w) A (exec (.Assign [.Tuple [.Name n1 p1, .Name n2 p2, .Name n3 p3] k1 tp] (.Tuple [v1, v2, v3] k2 vp) pos) env) Q E s :=
  Assign_Tuple_swapped (names := [n1, n2, n3]) h (by rfl) (swapped3 Z h1 h2 h3 hne hl hl3 hs hf hc)
theorem unpackS {t : Addr} {vs : List Value} {n : Nat} {Q : List Value → Shared → Prop} (hh : A.handled = none) (S : St w names L s.heap vals ms fs) (hm : TF t vs ∈ fs) (hn : n = vs.length)
    (h : ∀ h', St w names L h' vals ms fs → Q vs { s with heap := h' }) : wpAny (MM w) A (unpackItems (.ref t) n none) Q E s := by
  have ht : IsTup s.heap t vs.toArray := S.at hm
  have e : n = vs.toArray.size := by simp [hn]
  rw [e]
  exact unpackItems_tuple hh ht fun h' he => h h' (S.ext fun b o q => he b o (Nat.ne_of_lt (Heap.lt_size q)) q)
theorem aioCons {t : Value → Sem Unit} {ts : List (Value → Sem Unit)} {x : Value} {xs : List Value} {M : Model} {Q : Unit → Shared → Prop} (h : wpAny M A (t x) (fun _ s₁ => wpAny M A (assignInOrder ts xs) Q E s₁) E s) :
    wpAny M A (assignInOrder (t :: ts) (x :: xs)) Q E s := by
  exact wpAny_bind (wpAny_mono (wpAny_holding h) (fun _ _ x => x) fun _ _ x => x)
theorem aioNil {M : Model} {Q : Unit → Shared → Prop} (h : Q () s) : wpAny M A (assignInOrder [] []) Q E s := wpAny_pure h
theorem assignTupS {M : Model} {elts : List PySem.Expr} {k : Nat} {pos : Pos} {v : Value} {Q : Unit → Shared → Prop} (hn : (assignEach elts env).findIdx? (·.1) = none)
    (h : wpAny M A (unpackItems v (assignEach elts env).length none) (fun items s₁ => wpAny M A (assignInOrder ((assignEach elts env).map (·.2)) items) Q E s₁) E s) : wpAny M A (assign (.Tuple elts k pos) env v) Q E s := by
  show wpAny M A (do standAt pos; unpack v (assignEach elts env)) Q E s
  refine wpAny_bind (wpAny_standAt ?_)
  unfold unpack
  rw [hn]
  exact wpAny_bind (wpAny_holding h)
end
theorem exprS {M : Model} {w : World} {A : Around} {E : Value → Shared → Prop} {s : Shared} {env : Env} {names : List Str} {gls : List (Str × Value)} {e : PySem.Expr} {pos : Pos} {Q : Flow → Shared → Prop} (Z : Stat w env names gls)
    (h : wpAny M A (eval e env) (fun v s' => match v with | .ref _ => False | _ => Q .next s') E s) (hs : swapsWith e none pos.line env = pure false := by rfl) : wpAny M A (exec (.Expr e pos) env) Q E s := by
  refine wpAny_Expr h ?_ hs
  unfold interactive
  rw [Z.fn]
  rfl
/-- an end that the walk leaves alone -/
structure Ends (J : Shared → Prop) (f : Flow) (s' : Shared) : Prop where
  e : f = .next
  j : J s'
theorem cutE {M : Model} {A : Around} {E : Value → Shared → Prop} {s : Shared} {env : Env} {st : Stmt} {Q : Flow → Shared → Prop} (J : Shared → Prop)
    (h1 : wpAny M A (exec st env) (Ends J) E s) (h2 : ∀ s', J s' → Q .next s') : wpAny M A (exec st env) Q E s :=
  wpAny_mono h1 (fun _ s' ⟨e, j⟩ => e ▸ h2 s' j) fun _ _ x => x
end Mine

end

section
open PySem PySem.W PyProof.Rows PySem.Calls
set_option maxRecDepth 100000
namespace Mine
section
variable {w : World} {A : Around} {E : Value → Shared → Prop} {s : Shared} {names : List Str} {L : Addr} {vals : List (Option Value)} {ms : List (Addr × Obj)} {fs : List HP}
theorem minS {a b : Int} {t u : Tok} {Q : Value → Shared → Prop} (hh : A.handled = none) (S : St w names L s.heap vals ms fs) (h : ∀ t' h' tk, St w names L h' vals ms fs → Q (.int (min a b) t') { s with heap := h', toks := tk }) :
    wpAny (MM w) A (call (.builtin "min") [.int a t, .int b u]) Q E s := by
  refine min_two_ints hh fun h' tk hk => ?_
  have S' := S.ext (h' := h') fun b o e => hk b o e
  by_cases hb : b < a
  · rw [if_pos hb]
    have := h u h' tk S'
    rwa [Int.min_eq_right (by lia)] at this
  · rw [if_neg hb]
    have := h t h' tk S'
    rwa [Int.min_eq_left (by lia)] at this
theorem absS {a : Int} {t : Tok} {Q : Value → Shared → Prop} (h : ∀ t' tk, Q (.int ((a.natAbs : Nat) : Int) t') { s with toks := tk }) : wpAny (MM w) A (call (.builtin "abs") [.int a t]) Q E s := by
  refine call_abs_int fun u tk => ?_
  have e : (if a < 0 then -a else a) = ((a.natAbs : Nat) : Int) := by split <;> lia
  rw [e]
  exact h u tk
/-- a list that may change, whatever its make -/
def LO (o : Obj) (vs : List Value) : Prop := o.cls = .type "list" ∧ ∃ n, o.data = .seq vs.toArray n
theorem LO.of (vs : List Value) (n : Nat) : LO (listO vs n) vs := ⟨rfl, n, rfl⟩
theorem itemB {value slice : PySem.Expr} {a : Addr} {o : Obj} {vs : List Value} {ns : List Int} {k : Int} {u : Tok} {Q : Value → Shared → Prop} (S : St w names L s.heap vals ((a, o) :: ms) fs) (ho : LO o vs) (hi : IntsAre vs ns)
    (h0 : 0 ≤ k) (h1 : k < ns.length) (hf : ns.length < 2 ^ 60) (h : ∀ t, Q (.int (ns.getD k.toNat 0) t) s)
    (hs : subscripted slice false (.ref a) (.int k u) = operate [.ref a, .int k u] (getItem (.ref a) (.int k u)) := by with_unfolding_all rfl) (hg : ∀ r, letTemporaryGo value (.ref a) r = pure () := by intro _; with_unfolding_all rfl) :
    wpAny (MM w) A (subscriptTail value slice (.ref a) (.int k u)) Q E s := by
  obtain ⟨t, e⟩ := getD_at hi (k := k.toNat) (by lia)
  obtain ⟨hc, n, hd⟩ := ho
  exact item_list (items := vs.toArray) ⟨_, S.muts _ (.head _), hc, n, hd⟩ h0 (by lia) (by simpa using e) (h t) hs hg
theorem intsSet {vs : List Value} {ns : List Int} (hi : IntsAre vs ns) : ∀ (i : Nat) (x : Int) (t : Tok), IntsAre (vs.set i (.int x t)) (ns.set i x) := by
  induction hi with
  | nil => intro i x t; exact .nil
  | cons n u _ ih =>
    intro i x t
    cases i with
    | zero => exact .cons _ _ (by assumption)
    | succ i => exact .cons _ _ (ih i x t)
theorem setB {a : Addr} {o : Obj} {vs : List Value} {ns : List Int} {k x : Int} {u t : Tok} {Q : Unit → Shared → Prop} (S : St w names L s.heap vals ((a, o) :: ms) fs) (ho : LO o vs) (hi : IntsAre vs ns)
    (h0 : 0 ≤ k) (h1 : k < ns.length) (hf : ns.length < 2 ^ 60) (h : ∀ h' o' vs', St w names L h' vals ((a, o') :: ms) fs → LO o' vs' → IntsAre vs' (ns.set k.toNat x) → Q () { s with heap := h' }) :
    wpAny (MM w) A (setItem (.ref a) (.int k u) (.int x t)) Q E s := by
  obtain ⟨hc, n, hd⟩ := ho
  have hl := hi.length
  refine wpAny_setItem_list (items := vs.toArray) ⟨_, S.muts _ (.head _), hc, n, hd⟩ h0 (by lia) (by simp; lia) fun h' hx hs => ?_
  obtain ⟨o', e', hc', n', hd'⟩ := hx
  refine h h' o' (vs.set k.toNat (.int x t)) (S.upd hs e') ⟨hc', n', ?_⟩ (intsSet hi _ _ _)
  rw [hd']
  simp
section
variable {a : Addr} {o : Obj} {vs : List Value} {x y z : Int} {u t : Tok}
theorem itemB0 {value slice : PySem.Expr} {Q : Value → Shared → Prop} (S : St w names L s.heap vals ((a, o) :: ms) fs) (ho : LO o vs) (hi : IntsAre vs [x, y]) (h : ∀ t, Q (.int x t) s)
    (hs : subscripted slice false (.ref a) (.int 0 u) = operate [.ref a, .int 0 u] (getItem (.ref a) (.int 0 u)) := by with_unfolding_all rfl) (hg : ∀ r, letTemporaryGo value (.ref a) r = pure () := by intro _; with_unfolding_all rfl) :
    wpAny (MM w) A (subscriptTail value slice (.ref a) (.int 0 u)) Q E s := itemB S ho hi (by decide) (by simp) (by simp) (fun t => h t) hs hg
theorem itemB1 {value slice : PySem.Expr} {Q : Value → Shared → Prop} (S : St w names L s.heap vals ((a, o) :: ms) fs) (ho : LO o vs) (hi : IntsAre vs [x, y]) (h : ∀ t, Q (.int y t) s)
    (hs : subscripted slice false (.ref a) (.int 1 u) = operate [.ref a, .int 1 u] (getItem (.ref a) (.int 1 u)) := by with_unfolding_all rfl) (hg : ∀ r, letTemporaryGo value (.ref a) r = pure () := by intro _; with_unfolding_all rfl) :
    wpAny (MM w) A (subscriptTail value slice (.ref a) (.int 1 u)) Q E s := itemB S ho hi (by decide) (by simp) (by simp) (fun t => h t) hs hg
theorem setB0 {Q : Unit → Shared → Prop} (S : St w names L s.heap vals ((a, o) :: ms) fs) (ho : LO o vs) (hi : IntsAre vs [x, y])
    (h : ∀ h' o' vs', St w names L h' vals ((a, o') :: ms) fs → LO o' vs' → IntsAre vs' [z, y] → Q () { s with heap := h' }) : wpAny (MM w) A (setItem (.ref a) (.int 0 u) (.int z t)) Q E s :=
  setB S ho hi (by decide) (by simp) (by simp) fun h' o' vs' S' ho' hi' => h h' o' vs' S' ho' hi'
theorem setB1 {Q : Unit → Shared → Prop} (S : St w names L s.heap vals ((a, o) :: ms) fs) (ho : LO o vs) (hi : IntsAre vs [x, y])
    (h : ∀ h' o' vs', St w names L h' vals ((a, o') :: ms) fs → LO o' vs' → IntsAre vs' [x, z] → Q () { s with heap := h' }) : wpAny (MM w) A (setItem (.ref a) (.int 1 u) (.int z t)) Q E s :=
  setB S ho hi (by decide) (by simp) (by simp) fun h' o' vs' S' ho' hi' => h h' o' vs' S' ho' hi'
end
end

section
variable {w : World} {A : Around} {s : Shared}
/-- entering a def of the text that may change one object of its caller's -/
theorem enterM {Q : Value → Shared → Prop} {E : Value → Shared → Prop} {name qual : Str} {params : Arguments} {body : List Stmt} {scope : Scope} {dV kV doc pm cdv ct oc : Value} {an od : Option Addr} {osl : Array (Option Value)} {f : Addr} {args : List Value} {binds : List (Str × Value)}
    {box : Addr} {ob : Obj} (hbx : s.heap.get? box = some ob) (G : Gd w (s.heap.hide box)) (hroom : A.depth < recursionLimit)
    (ho : (hd.heap_39 w.params).lookup f = some ⟨oc, od, .func (fnOf name qual params body scope dV kV doc pm an cdv ct), osl⟩) (hcd : codeIn (hd.heap_39 w.params) cdv qual = true)
    (hbind : bindArgs (fnOf name qual params body scope dV kV doc pm an cdv ct) ⟨args, []⟩ = pure binds) (hloc : ∀ y ∈ binds, scope.names.lookup y.1 = some .local)
    (names : List Str) (gls : List (Str × Value)) (vals : List (Option Value)) (hZ : StatS w scope names gls) (hat : ∀ x v, At names vals x v → binds.reverse.lookup x = some v)
    (h : ∀ env h₁ tk, Stat w env names gls → St w names env.locals h₁ vals [(box, ob)] [fun h => (s.heap.hide box).StaysIn h] →
      wpAny (MM w) (A.deeper env) (execs body env) (fun fl s' => Q (match fl with | .ret v => v | _ => .none) s') (fun _ _ => False)
        { s with heap := h₁, toks := tk })
    (hcell : ∀ x ∈ scope.names, x.2 ≠ .cell)
    (hco : scope.isCoroutine = false) (hgen : scope.isGenerator = false) (hk : scope.kind = .function) :
    wpAny (MM w) A (call (.ref f) args) Q E s := by
  have kh : (s.heap.hide box).StaysIn s.heap := fun b o e => Heap.of_hide e
  have G' := G.keeps kh
  refine wpAny_call (codeAny_call_def (fd := fnOf name qual params body scope dV kV doc pm an cdv ct) (body := body) (binds := binds) hroom (G'.K _ _ ho) rfl G'.lim (codeRec_of G'.K hcd) rfl (BindsTo.of_eq hbind) hcell hloc (fun h₁ hns hk₁ => ?_) hco hgen hk)
  refine wpAny_mono (h (callEnv (fnOf name qual params body scope dV kV doc pm an cdv ct) s.heap.objs.size f) h₁ _ ⟨hk, rfl, rfl, hZ.nd, hZ.loc, hZ.glo⟩ ?_) (fun _ _ x => x) fun _ _ x => x.elim
  have hlt := Heap.lt_size hbx
  have k : (s.heap.hide box).StaysIn (fz s.heap.objs.size [(box, ob)] h₁) := fun b o e => hideAll_get _ (hk₁ b o (kh b o e)) fun m => by
    simp only [List.map_cons, List.map_nil, List.mem_cons, List.not_mem_nil, or_false] at m
    rcases m with q | q
    · exact absurd (Heap.lt_size (kh b o e)) (by rw [q]; exact Nat.lt_irrefl _)
    · rw [q, Heap.hide_self] at e; cases e
  refine ⟨⟨_, hns, hat⟩, (fun p hp => ?_), ?_, G.keeps k, fun P hP => ?_⟩
  · have := List.mem_singleton.mp hp
    subst this
    exact hk₁ _ _ hbx
  · simp only [List.map_cons, List.map_nil, List.nodup_cons, List.mem_singleton, List.not_mem_nil, not_false_eq_true, List.nodup_nil, and_true]
    exact Nat.ne_of_gt hlt
  · have := List.mem_singleton.mp hP
    subst this
    exact ⟨fun _ _ k1 k2 => stays_trans k2 k1, k⟩
end
end Mine

end

section
open PySem PySem.W PyProof.Rows PySem.Calls
set_option maxRecDepth 100000
namespace Mine
def CellF (c : Addr) (v : Value) : HP := fun h => h.IsCell c (some v)
theorem keepsCellF {c v} : Keeps (CellF c v) := fun _ _ k x => x.keeps k
section
variable {w : World} {A : Around} {s : Shared}
/-- entering a def one of whose names is a cell -/
theorem enterC {Q : Value → Shared → Prop} {E : Value → Shared → Prop} {name qual : Str} {params : Arguments} {body : List Stmt} {scope : Scope} {dV kV doc pm cdv ct oc : Value} {an od : Option Addr} {osl : Array (Option Value)} {f : Addr} {args : List Value} {binds : List (Str × Value)}
    {xc : Str} {vc : Value} (G : Gd w s.heap) (hroom : A.depth < recursionLimit)
    (ho : (hd.heap_39 w.params).lookup f = some ⟨oc, od, .func (fnOf name qual params body scope dV kV doc pm an cdv ct), osl⟩) (hcd : codeIn (hd.heap_39 w.params) cdv qual = true)
    (hbind : bindArgs (fnOf name qual params body scope dV kV doc pm an cdv ct) ⟨args, []⟩ = pure binds)
    (hcf : ∀ n, cellsFrom n scope.names [] = [(xc, n)])
    (hkind : ∀ x ∈ binds, scope.names.lookup x.1 = some .local ∨ (scope.names.lookup x.1 = some .cell ∧ x.1 = xc))
    (names : List Str) (gls : List (Str × Value)) (vals : List (Option Value)) (hZ : StatS w scope names gls)
    (hat : ∀ L x v, At names vals x v → bindL (callEnvC (fnOf name qual params body scope dV kV doc pm an cdv ct) L f).kindOf binds (fun _ => none) x = some v)
    (hct : ∀ L, bindC (callEnvC (fnOf name qual params body scope dV kV doc pm an cdv ct) L f).kindOf binds (fun _ => none) xc = some vc) (hxc : scope.names.lookup xc = some .cell)
    (fs : List HP) (hfs : ∀ P ∈ fs, Keeps P ∧ P s.heap)
    (h : ∀ env h₁ tk c, Stat w env names gls → env.cells = [(xc, c)] → env.kindOf xc = some .cell → St w names env.locals h₁ vals [] (CellF c vc :: (fun h => s.heap.StaysIn h) :: fs) →
      wpAny (MM w) (A.deeper env) (execs body env) (fun fl s' => Q (match fl with | .ret v => v | _ => .none) s') (fun _ _ => False)
        { s with heap := h₁, toks := tk })
    (hco : scope.isCoroutine = false) (hgen : scope.isGenerator = false) (hk : scope.kind = .function) :
    wpAny (MM w) A (call (.ref f) args) Q E s := by
  refine wpAny_call (codeAny_call_cells (fd := fnOf name qual params body scope dV kV doc pm an cdv ct) (body := body) (binds := binds) hroom (G.K _ _ ho) rfl G.lim (codeRec_of G.K hcd) rfl hbind rfl (fun x hx => ?_) (fun s₁ x => ?_) hco hgen hk)
  · rcases hkind x hx with h1 | ⟨h1, h2⟩
    · exact .inl h1
    · refine .inr ⟨h1, ?_⟩
      show ((cellsFrom (s.heap.objs.size + 1) scope.names []).lookup x.1).isSome = true
      rw [hcf, h2]; simp
  · obtain ⟨h₁, tk, rfl, hk₁⟩ := x.done
    have hcells : (callEnvC (fnOf name qual params body scope dV kV doc pm an cdv ct) s.heap.objs.size f).cells = [(xc, s.heap.objs.size + 1)] := hcf _
    refine wpAny_mono (h (callEnvC (fnOf name qual params body scope dV kV doc pm an cdv ct) s.heap.objs.size f) h₁ _ (s.heap.objs.size + 1) ⟨hk, rfl, rfl, hZ.nd, hZ.loc, hZ.glo⟩ hcells hxc ?_) (fun _ _ x => x) fun _ _ x => x.elim
    have k : s.heap.StaysIn (fz s.heap.objs.size [] h₁) := fun b o e => hideAll_get _ (hk₁ b o e) fun m => by
      have q : b = s.heap.objs.size := by simpa using m
      exact absurd (Heap.lt_size e) (by rw [q]; exact Nat.lt_irrefl _)
    refine ⟨⟨_, x.toInCall.ns, hat _⟩, (fun _ hp => nomatch hp), by simp, G.keeps k, fun P hP => ?_⟩
    rcases List.mem_cons.mp hP with rfl | hP
    · refine ⟨keepsCellF, ?_⟩
      obtain ⟨oc', hoc, hod⟩ := x.cell xc (s.heap.objs.size + 1) (by rw [hcells]; simp)
      refine ⟨oc', hideAll_get _ hoc fun m => ?_, by rw [hod, hct]⟩
      have q : s.heap.objs.size + 1 = s.heap.objs.size := List.mem_singleton.mp m
      lia
    rcases List.mem_cons.mp hP with rfl | hP
    · exact ⟨fun _ _ k1 k2 => stays_trans k2 k1, k⟩
    · exact ⟨(hfs P hP).1, (hfs P hP).1 _ _ k (hfs P hP).2⟩
end

section
variable {w : World} {A : Around} {E : Value → Shared → Prop} {s : Shared} {env : Env} {names : List Str} {gls : List (Str × Value)} {vals : List (Option Value)} {fs : List HP}
/-- a comprehension none of whose items passes its test -/
theorem compNone {elt c : PySem.Expr} {x r : Str} {px pr pos : Pos} {scope : Scope} {cl : List (Str × Addr)} {l : Addr} {vs : List Value} {Q : Value → Shared → Prop}
    (hh : A.handled = none) (Z : Stat w env names gls) (S : St w names env.locals s.heap vals [] fs) (hr : At names vals r (.ref l)) (hl : LF l vs ∈ fs) (hz : vs.length ≤ 10000)
    (hclos : closureFor scope env = pure cl) (hcell : ∀ y ∈ scope.names, y.2 ≠ .cell) (hkind : scope.kind = .function)
    (hnames : ∀ y ∈ scope.names, y.2 = .local → scope.names.lookup y.1 = some .local) (hx : scope.names.lookup x = some .local)
    (tests : ∀ (env' : Env) (i : Nat) (v : Value) (s₃ : Shared), env'.globals = env.globals → env'.builtins = env.builtins → env'.scope = relabel scope env → env'.cells = cl → vs[i]? = some v → St w [x] env'.locals s₃.heap [some v] [] fs →
      wpAny (MM w) A (isTrue c env' (eval c env')) (fun ok s₄ => ok = false ∧ PySem.Keeps s₃ s₄) (fun _ _ => False) s₃)
    (hQ : ∀ D h' tk, St w names env.locals h' vals [] (LF D [] :: fs) → Q (.ref D) { s with heap := h', toks := tk })
    (hs : ∀ y, foldedSetIterable (.Name r pr) env y = pure y := by intro _; rfl) :
    wpAny (MM w) A (eval (.ListComp elt [⟨.Name x px, .Name r pr, [c], 0⟩] scope pos) env) Q E s := by
  have hls : s.heap.IsList l vs.toArray := S.at hl
  refine wpAny_ListComp_free (fun _ => false) (fun _ _ => False) hclos hcell hkind hnames hx (ldS Z S hr ?_) hs
  refine wpAny_pyIter_list hls ?_
  have hlt : l < s.heap.objs.size := by obtain ⟨_, e, _⟩ := hls; exact Heap.lt_size e
  have W := Walks.list (prog := PySem.Challenge.rw_nz0080_01.row.prog) (w := w) (A := A) hh s.heap.objs.size l (Nat.ne_of_lt hlt) vs.toArray
  refine ⟨s.heap.objs.size, [s.heap.objs.size, l], [s.heap.objs.size], vs.toArray.size, _, _, rfl, W, ?_, ⟨⟨_, Heap.get?_push_size _ rfl, rfl, rfl⟩, hls.at fun o e => Heap.get?_push_of_some _ e⟩, ?_, ⟨?_, ?_⟩, ?_⟩
  · rw [List.size_toArray]; exact Nat.le_trans hz (by decide)
  · intro b hb
    show b < (s.heap.push _).objs.size
    rw [Heap.size_push]
    rcases List.mem_cons.mp hb with rfl | hb
    · exact Nat.lt_succ_self _
    · rw [List.mem_singleton.mp hb]; exact Nat.lt_succ_of_lt hlt
  · intro C i v s₃ m₃ E' hC hP hn hm hk htk
    have hP' : vs[i]? = some v := by simpa using hP
    have hC' : s.heap.objs.size < C := by
      have q : (s.heap.push { cls := .type "list_iterator", data := .fields #[.ref l, .int 0 0] }).objs.size ≤ C := hC
      rw [Heap.size_push] at q; exact q
    have k : (fz env.locals [] s.heap).StaysIn (fz C [] s₃.heap) := fun b o e => by
      have e' := of_hideAll _ e
      have hb := Heap.lt_size e'
      refine hideAll_get _ (hk b o (fun m => ?_) (Heap.get?_push_of_some _ e')) fun m => ?_
      · rw [List.mem_singleton.mp m] at hb; exact Nat.lt_irrefl _ hb
      · have q : b = C := by simpa using m
        rw [q] at hb; exact absurd (Nat.lt_trans hb hC') (Nat.lt_irrefl _)
    have S₃ : St w [x] (compEnvC scope cl C env).locals s₃.heap [some v] [] fs := by
      refine ⟨⟨m₃, hn, fun z u a => ?_⟩, (fun _ hp => nomatch hp), by simp, S.gd.keeps k, fun P hP => ⟨(S.fs P hP).1, (S.fs P hP).1 _ _ k (S.fs P hP).2⟩⟩
      cases a with
      | here => exact hm
      | there a => cases a
    exact wpAny_noRaise (wpAny_tests_one (tests (compEnvC scope cl C env) i v s₃ rfl rfl rfl rfl hP' S₃))
  · intro C i v s₃ m₃ E' hC hP hpv
    cases hpv
  · intro D h' tk ys us hD hl' hpl hlen hP hF hk
    have e : ys.toList = [] := by
      rw [show us.filter (fun _ => false) = [] from List.filter_eq_nil_iff.mpr fun _ _ => by decide] at hF
      have hl2 := hF.length
      exact List.eq_nil_of_length_eq_zero hl2.symm
    have k : s.heap.StaysIn h' := fun b o q => hk b o (fun m => by
      have hb := Heap.lt_size q
      rw [List.mem_singleton.mp m] at hb; exact Nat.lt_irrefl _ hb) (Heap.get?_push_of_some _ q)
    refine hQ D h' tk ((S.ext k).addLF (vs := []) ?_)
    have e2 : ys = [].toArray := by rw [← e]
    rw [← e2]; exact hl'
end
end Mine
namespace Mine
section
variable {w : World} {A : Around} {E : Value → Shared → Prop} {s : Shared} {names : List Str} {L : Addr} {vals : List (Option Value)} {ms : List (Addr × Obj)} {fs : List HP}
theorem Room.u64 {n : Nat} (R : Room A n) (hn : 8 ≤ n) : A.units + 64 < cLine := by have := R.hu; lia
theorem isListS {a : Addr} {vs : List Value} {Q : Value → Shared → Prop} (S : St w names L s.heap vals ms fs) (hm : LF a vs ∈ fs) (h : Q (.bool true) s) : wpAny (MM w) A (call (.builtin "isinstance") [.ref a, .type "list"]) Q E s :=
  IsiPair.isList_list (S.at hm : s.heap.IsList a vs.toArray) (fun _ _ e => e) h
theorem eqS {a c : Addr} {vs us : List Value} {ns ks : List Int} {Q : Value → Shared → Prop} (hu : A.units + 64 < cLine) (S : St w names L s.heap vals ms fs) (hm : LF a vs ∈ fs) (hi : IntsAre vs ns) (hm' : LF c us ∈ fs) (hi' : IntsAre us ks)
    (h : Q (.bool (decide (ns = ks))) s) : wpAny (MM w) A (compareOp .Eq (.ref a) (.ref c)) Q E s := eq_intsK (S.at hm : s.heap.IsList a vs.toArray) hi (S.at hm' : s.heap.IsList c us.toArray) hi' hu h
theorem neS {a c : Addr} {vs us : List Value} {ns ks : List Int} {Q : Value → Shared → Prop} (hu : A.units + 64 < cLine) (S : St w names L s.heap vals ms fs) (hm : LF a vs ∈ fs) (hi : IntsAre vs ns) (hm' : LF c us ∈ fs) (hi' : IntsAre us ks)
    (h : Q (.bool (!decide (ns = ks))) s) : wpAny (MM w) A (compareOp .NotEq (.ref a) (.ref c)) Q E s := ne_intsK (S.at hm : s.heap.IsList a vs.toArray) hi (S.at hm' : s.heap.IsList c us.toArray) hi' hu h
end
end Mine
namespace Mine
theorem itemLast {w : World} {A : Around} {E : Value → Shared → Prop} {s : Shared} {names : List Str} {L : Addr} {vals : List (Option Value)} {ms : List (Addr × Obj)} {fs : List HP} {value slice : PySem.Expr} {a : Addr} {vs : List Value} {ns : List Int} {u : Tok} {Q : Value → Shared → Prop} (S : St w names L s.heap vals ms fs) (hm : LF a vs ∈ fs) (hi : IntsAre vs ns)
    (h0 : 0 < ns.length) (hf : ns.length < 2 ^ 60) (h : ∀ t, Q (.int (ns.getD (ns.length - 1) 0) t) s)
    (hs : subscripted slice false (.ref a) (.int (-1) u) = operate [.ref a, .int (-1) u] (getItem (.ref a) (.int (-1) u)) := by with_unfolding_all rfl) :
    wpAny (MM w) A (subscriptTail value slice (.ref a) (.int (-1) u)) Q E s := by
  obtain ⟨t, e⟩ := getD_at hi (k := ns.length - 1) (by lia)
  have hl : s.heap.IsList a vs.toArray := S.at hm
  have hv := hi.length
  refine tail_any hl.typeIs slot_list_getitem.lookup (wpAny_getItem_list_neg hl (by decide) (by simp; lia) (by decide) (x := .int (ns.getD (ns.length - 1) 0) t) ?_ (h t)) hs
  simp only [List.size_toArray, List.getElem?_toArray]
  rw [show ((-1 : Int) + (vs.length : Int)).toNat = ns.length - 1 by lia]
  exact e
end Mine

end

section
set_option autoImplicit false
namespace Mine
/-- the row of a number: its limbs, the least first, no nought at the end -/
def digs (b n : Nat) : List Int := if h : n = 0 ∨ b < 2 then [] else ((n % b : Nat) : Int) :: digs b (n / b)
termination_by n
decreasing_by exact Nat.div_lt_self (by lia) (by lia)

theorem digs_zero (b : Nat) : digs b 0 = [] := by rw [digs]; simp
theorem digs_pos {b n : Nat} (hb : 2 ≤ b) (hn : 0 < n) : digs b n = ((n % b : Nat) : Int) :: digs b (n / b) := by
  rw [digs, dif_neg (by lia)]
theorem digs_nil {b n : Nat} (hb : 2 ≤ b) : digs b n = [] ↔ n = 0 := by
  constructor
  · intro h
    by_cases hn : n = 0
    · exact hn
    · rw [digs_pos hb (by lia)] at h; cases h
  · rintro rfl; exact digs_zero b
theorem digs_len_pos {b n : Nat} (hb : 2 ≤ b) : 0 < (digs b n).length ↔ 0 < n := by
  have := digs_nil (n := n) hb
  rw [List.length_pos_iff]
  constructor
  · intro h; exact Nat.pos_of_ne_zero fun e => h (this.mpr e)
  · intro h e; exact absurd (this.mp e) (by lia)
theorem digs_length_le {b : Nat} (hb : 2 ≤ b) (n : Nat) : (digs b n).length ≤ n := by
  induction n using Nat.strongRecOn with
  | ind n ih =>
    by_cases hn : n = 0
    · subst hn; rw [digs_zero]; simp
    · rw [digs_pos hb (by lia), List.length_cons]
      have h1 := Nat.div_lt_self (n := n) (k := b) (by lia) (by lia)
      have := ih _ h1
      lia
/-- bounds by the length -/
theorem digs_lt {b : Nat} (hb : 2 ≤ b) (n : Nat) : n < b ^ (digs b n).length := by
  induction n using Nat.strongRecOn with
  | ind n ih =>
    by_cases hn : n = 0
    · subst hn; rw [digs_zero]; simp
    · rw [digs_pos hb (by lia), List.length_cons]
      have h1 := Nat.div_lt_self (n := n) (k := b) (by lia) (by lia)
      have h2 := ih _ h1
      rw [Nat.pow_succ]
      exact (Nat.div_lt_iff_lt_mul (by lia)).mp h2
theorem digs_ge {b : Nat} (hb : 2 ≤ b) (n : Nat) (hn : 0 < n) : b ^ ((digs b n).length - 1) ≤ n := by
  induction n using Nat.strongRecOn with
  | ind n ih =>
    rw [digs_pos hb hn, List.length_cons, Nat.add_sub_cancel]
    have h1 := Nat.div_lt_self (n := n) (k := b) (by lia) (by lia)
    by_cases h0 : n / b = 0
    · rw [h0, digs_zero]; simp; lia
    · have h2 := ih _ h1 (Nat.pos_of_ne_zero h0)
      have h3 : (digs b (n / b)).length ≠ 0 := fun e => h0 ((digs_nil hb).mp (List.eq_nil_of_length_eq_zero e))
      have e : (digs b (n / b)).length = (digs b (n / b)).length - 1 + 1 := by lia
      rw [e, Nat.pow_succ]
      exact (Nat.le_div_iff_mul_le (by lia)).mp h2
theorem digs_len_le_iff {b : Nat} (hb : 2 ≤ b) (n k : Nat) : (digs b n).length ≤ k ↔ n < b ^ k := by
  constructor
  · intro h
    exact Nat.lt_of_lt_of_le (digs_lt hb n) (Nat.pow_le_pow_right (by lia) h)
  · intro h
    by_cases hn : n = 0
    · subst hn; rw [digs_zero]; simp
    · have h1 := digs_ge hb n (by lia)
      have h2 : b ^ ((digs b n).length - 1) < b ^ k := Nat.lt_of_le_of_lt h1 h
      have h3 := (Nat.pow_lt_pow_iff_right (by lia : 1 < b)).mp h2
      lia
theorem digs_getD {b : Nat} (hb : 2 ≤ b) : ∀ (i n : Nat), (digs b n).getD i 0 = ((n / b ^ i % b : Nat) : Int)
  | i, n => by
    by_cases hn : n = 0
    · subst hn; rw [digs_zero]; simp
    · rw [digs_pos hb (by lia)]
      cases i with
      | zero => simp
      | succ i =>
        rw [List.getD_cons_succ, digs_getD hb i (n / b), Nat.div_div_eq_div_mul, Nat.pow_succ, Nat.mul_comm b]
/-- the first k limbs of a number, noughts too -/
def low (b k n : Nat) : List Int := (List.range k).map fun i => ((n / b ^ i % b : Nat) : Int)
theorem low_length (b k n : Nat) : (low b k n).length = k := by simp [low]
theorem low_succ (b k n : Nat) : low b (k + 1) n = low b k n ++ [((n / b ^ k % b : Nat) : Int)] := by
  simp [low, List.range_succ]
theorem digs_low {b : Nat} (hb : 2 ≤ b) (n : Nat) : digs b n = low b (digs b n).length n := by
  apply List.ext_getElem
  · rw [low_length]
  · intro i h1 h2
    have h3 := digs_getD hb i n
    rw [List.getD_eq_getElem?_getD, List.getElem?_eq_getElem h1] at h3
    simp only [Option.getD_some] at h3
    rw [h3]
    simp [low]
/-- the limbs of a sum -/
theorem low_mod (b k n m : Nat) (h : n % b ^ k = m % b ^ k) (hb : 0 < b) : low b k n = low b k m := by
  unfold low
  apply List.map_congr_left
  intro i hi
  have hik : i < k := List.mem_range.mp hi
  have key : ∀ n : Nat, n / b ^ i % b = n % b ^ k / b ^ i % b := by
    intro n
    have e : b ^ k = b ^ (i + 1) * b ^ (k - (i + 1)) := by rw [← Nat.pow_add]; congr 1; lia
    have h1 : n % b ^ k % b ^ (i + 1) = n % b ^ (i + 1) := by rw [e]; exact Nat.mod_mul_right_mod _ _ _
    have h2 : ∀ x : Nat, x / b ^ i % b = x % b ^ (i + 1) / b ^ i := by
      intro x
      rw [Nat.pow_succ, Nat.mod_mul_right_div_self]
    rw [h2 n, h2 (n % b ^ k), h1]
  rw [key n, key m, h]
theorem digs_of_low {b : Nat} (hb : 2 ≤ b) (n k : Nat) (h1 : n < b ^ k) (h2 : k = 0 ∨ b ^ (k - 1) ≤ n) : digs b n = low b k n := by
  have h3 : (digs b n).length = k := by
    have h4 := (digs_len_le_iff hb n k).mpr h1
    rcases h2 with h2 | h2
    · lia
    · by_cases h5 : (digs b n).length ≤ k - 1
      · have := (digs_len_le_iff hb n (k - 1)).mp h5
        lia
      · lia
  rw [digs_low hb n, h3]
theorem digs_range {b : Nat} (hb : 2 ≤ b) (n : Nat) : ∀ x ∈ digs b n, 0 ≤ x ∧ x < b := by
  intro x hx
  obtain ⟨i, hi, rfl⟩ := List.getElem_of_mem hx
  have h3 := digs_getD hb i n
  rw [List.getD_eq_getElem?_getD, List.getElem?_eq_getElem hi] at h3
  simp only [Option.getD_some] at h3
  rw [h3]
  have := Nat.mod_lt (n / b ^ i) (show b > 0 by lia)
  lia
theorem digs_last {b : Nat} (hb : 2 ≤ b) (n : Nat) (hn : 0 < n) : 0 < (digs b n).getD ((digs b n).length - 1) 0 := by
  rw [digs_getD hb]
  have h1 := digs_ge hb n hn
  have h2 := digs_lt hb n
  have hl : 0 < (digs b n).length := (digs_len_pos hb).mpr hn
  have h3 : 0 < n / b ^ ((digs b n).length - 1) := Nat.div_pos h1 (Nat.pow_pos (by lia))
  have h4 : n / b ^ ((digs b n).length - 1) < b := by
    rw [Nat.div_lt_iff_lt_mul (Nat.pow_pos (by lia))]
    have e : b * b ^ ((digs b n).length - 1) = b ^ (digs b n).length := by
      rw [Nat.mul_comm, ← Nat.pow_succ]; congr 1; lia
    rw [e]; exact h2
  rw [Nat.mod_eq_of_lt h4]
  lia
/-- worth of a row -/
def worth (b : Nat) (ns : List Int) : Int := ns.foldr (fun x a => a * b + x) 0
theorem worth_digs {b : Nat} (hb : 2 ≤ b) (n : Nat) : worth b (digs b n) = n := by
  induction n using Nat.strongRecOn with
  | ind n ih =>
    by_cases hn : n = 0
    · subst hn; rw [digs_zero]; rfl
    · have h1 := Nat.div_lt_self (n := n) (k := b) (by lia) (by lia)
      rw [digs_pos hb (by lia)]
      show worth b (digs b (n / b)) * b + _ = _
      rw [ih _ h1]
      have := Nat.div_add_mod n b
      rw [Nat.mul_comm] at this
      exact_mod_cast this
theorem digs_inj {b : Nat} (hb : 2 ≤ b) {n m : Nat} (h : digs b n = digs b m) : n = m := by
  have h1 := worth_digs hb n
  rw [h, worth_digs hb m] at h1
  lia
end Mine

end

section
set_option autoImplicit false
namespace Mine
def cmpI (x y : Nat) : Int := if x < y then -1 else if y < x then 1 else 0
theorem digs_drop {b : Nat} (hb : 2 ≤ b) : ∀ (k n : Nat), (digs b n).drop k = digs b (n / b ^ k)
  | 0, n => by simp
  | k + 1, n => by
    by_cases hn : n = 0
    · subst hn; simp [digs_zero]
    · rw [digs_pos hb (by lia), List.drop_succ_cons, digs_drop hb k (n / b), Nat.div_div_eq_div_mul, Nat.pow_succ, Nat.mul_comm b]
theorem cmp_len_lt {b x y : Nat} (hb : 2 ≤ b) (h : (digs b x).length < (digs b y).length) : cmpI x y = -1 := by
  have h1 := digs_lt hb x
  have hy : 0 < y := (digs_len_pos hb).mp (by lia)
  have h2 := digs_ge hb y hy
  have h3 : b ^ (digs b x).length ≤ b ^ ((digs b y).length - 1) := Nat.pow_le_pow_right (by lia) (by lia)
  unfold cmpI
  rw [if_pos (by lia)]
theorem cmp_len_gt {b x y : Nat} (hb : 2 ≤ b) (h : (digs b y).length < (digs b x).length) : cmpI x y = 1 := by
  have h1 := digs_lt hb y
  have hy : 0 < x := (digs_len_pos hb).mp (by lia)
  have h2 := digs_ge hb x hy
  have h3 : b ^ (digs b y).length ≤ b ^ ((digs b x).length - 1) := Nat.pow_le_pow_right (by lia) (by lia)
  unfold cmpI
  rw [if_neg (by lia), if_pos (by lia)]
theorem cmp_step {b x y p : Nat} (hb : 2 ≤ b) (h : (digs b x).drop (p + 1) = (digs b y).drop (p + 1)) (hlt : (digs b x).getD p 0 < (digs b y).getD p 0) : x < y := by
  rw [digs_drop hb, digs_drop hb] at h
  have h1 := digs_inj hb h
  rw [digs_getD hb, digs_getD hb] at hlt
  have hx := Nat.div_add_mod (x / b ^ p) b
  have hy := Nat.div_add_mod (y / b ^ p) b
  rw [Nat.div_div_eq_div_mul, ← Nat.pow_succ] at hx hy
  simp only [Nat.succ_eq_add_one] at hx hy
  rw [h1] at hx
  have h2 : x / b ^ p < y / b ^ p := by lia
  exact Nat.lt_of_not_le fun q => absurd (Nat.div_le_div_right (c := b ^ p) q) (by lia)
theorem cmp_at {b x y p : Nat} (hb : 2 ≤ b) (h : (digs b x).drop (p + 1) = (digs b y).drop (p + 1)) (hne : (digs b x).getD p 0 ≠ (digs b y).getD p 0) :
    cmpI x y = if (digs b x).getD p 0 < (digs b y).getD p 0 then -1 else 1 := by
  unfold cmpI
  by_cases hlt : (digs b x).getD p 0 < (digs b y).getD p 0
  · rw [if_pos hlt, if_pos (cmp_step hb h hlt)]
  · have := cmp_step hb h.symm (show (digs b y).getD p 0 < (digs b x).getD p 0 by lia)
    rw [if_neg hlt, if_neg (by lia), if_pos this]
theorem cmp_eq {b x y : Nat} (hb : 2 ≤ b) (h : digs b x = digs b y) : cmpI x y = 0 := by
  rw [digs_inj hb h]
  simp [cmpI]
theorem drop_getD {ns ms : List Int} {p : Nat} (hl : ns.length = ms.length) (hp : p < ns.length) (h : ns.drop (p + 1) = ms.drop (p + 1)) (e : ns.getD p 0 = ms.getD p 0) : ns.drop p = ms.drop p := by
  rw [List.drop_eq_getElem_cons (l := ns) hp, List.drop_eq_getElem_cons (l := ms) (hl ▸ hp), h]
  simp only [List.getD_eq_getElem?_getD, List.getElem?_eq_getElem hp, List.getElem?_eq_getElem (hl ▸ hp), Option.getD_some] at e
  rw [e]
end Mine

end

section
set_option autoImplicit false
namespace Mine
def carryN (b x y i : Nat) : Nat := (x % b ^ i + y % b ^ i) / b ^ i
theorem carry_zero (b x y : Nat) : carryN b x y 0 = 0 := by simp [carryN, Nat.mod_one]
theorem mod_pow_step (b x i : Nat) : x % b ^ (i + 1) = x % b ^ i + b ^ i * (x / b ^ i % b) := by
  rw [Nat.pow_succ]; exact Nat.mod_mul
theorem carry_sum {b : Nat} (hb : 2 ≤ b) (x y i : Nat) : carryN b x y i + x / b ^ i % b + y / b ^ i % b = (x % b ^ (i + 1) + y % b ^ (i + 1)) / b ^ i := by
  have hp : 0 < b ^ i := Nat.pow_pos (by lia)
  rw [mod_pow_step, mod_pow_step]
  have e : x % b ^ i + b ^ i * (x / b ^ i % b) + (y % b ^ i + b ^ i * (y / b ^ i % b)) = (x % b ^ i + y % b ^ i) + b ^ i * (x / b ^ i % b + y / b ^ i % b) := by
    rw [Nat.mul_add]; lia
  rw [e, Nat.add_mul_div_left _ _ hp]
  unfold carryN
  lia
theorem carry_limb {b : Nat} (hb : 2 ≤ b) (x y i : Nat) : (carryN b x y i + x / b ^ i % b + y / b ^ i % b) % b = (x + y) / b ^ i % b := by
  rw [carry_sum hb]
  have h2 : ∀ z : Nat, z / b ^ i % b = z % b ^ (i + 1) / b ^ i := by
    intro z; rw [Nat.pow_succ, Nat.mod_mul_right_div_self]
  rw [h2, h2 (x + y), ← Nat.add_mod]
theorem carry_next {b : Nat} (hb : 2 ≤ b) (x y i : Nat) : (carryN b x y i + x / b ^ i % b + y / b ^ i % b) / b = carryN b x y (i + 1) := by
  rw [carry_sum hb, Nat.div_div_eq_div_mul, ← Nat.pow_succ]
  rfl
theorem limb_above {b y i : Nat} (hb : 2 ≤ b) (h : (digs b y).length ≤ i) : y / b ^ i % b = 0 := by
  have h1 := (digs_len_le_iff hb y i).mp h
  rw [Nat.div_eq_of_lt h1]; simp
theorem carry_end {b x y : Nat} (hb : 2 ≤ b) (h : (digs b y).length ≤ (digs b x).length) : carryN b x y (digs b x).length = (x + y) / b ^ (digs b x).length := by
  have h1 := digs_lt hb x
  have h2 := (digs_len_le_iff hb y _).mp h
  unfold carryN
  rw [Nat.mod_eq_of_lt h1, Nat.mod_eq_of_lt h2]
theorem add_zero_end {b x y : Nat} (hb : 2 ≤ b) (h : (digs b y).length ≤ (digs b x).length) (h0 : carryN b x y (digs b x).length = 0) : low b (digs b x).length (x + y) = digs b (x + y) := by
  rw [carry_end hb h] at h0
  have hp : 0 < b ^ (digs b x).length := Nat.pow_pos (by lia)
  have h1 : x + y < b ^ (digs b x).length := by
    rcases Nat.div_eq_zero_iff.mp h0 with h2 | h2
    · lia
    · exact h2
  refine (digs_of_low hb _ _ h1 ?_).symm
  by_cases hx : x = 0
  · left; subst hx; rw [digs_zero]; rfl
  · right; have := digs_ge hb x (by lia); lia
theorem add_more_end {b x y : Nat} (hb : 2 ≤ b) (h : (digs b y).length ≤ (digs b x).length) (h0 : 0 < carryN b x y (digs b x).length) :
    low b (digs b x).length (x + y) ++ [((carryN b x y (digs b x).length : Nat) : Int)] = digs b (x + y) := by
  rw [carry_end hb h] at h0 ⊢
  have h1 := digs_lt hb x
  have h2 := (digs_len_le_iff hb y _).mp h
  have hp : 0 < b ^ (digs b x).length := Nat.pow_pos (by lia)
  have h3 : x + y < b ^ ((digs b x).length + 1) := by
    rw [Nat.pow_succ]
    have : b ^ (digs b x).length * 2 ≤ b ^ (digs b x).length * b := Nat.mul_le_mul_left _ hb
    lia
  have h4 : (x + y) / b ^ (digs b x).length < b := by
    rw [Nat.div_lt_iff_lt_mul hp, Nat.mul_comm, ← Nat.pow_succ]; exact h3
  have h5 : b ^ (digs b x).length ≤ x + y := by
    have := (Nat.le_div_iff_mul_le hp).mp h0; lia
  rw [digs_of_low hb _ _ h3 (.inr h5), low_succ, Nat.mod_eq_of_lt h4]
end Mine

end

section
set_option autoImplicit false
namespace Mine
/-- the loop of fraction_of, on numbers: the last rest, its factor, whether that is below nought -/
def ratLoop (bound one other h t : Nat) (neg : Bool) : Nat × Nat × Bool :=
  if hb : other ≤ bound then (other, t, neg) else ratLoop bound other (one % other) t (h + one / other * t) (!neg)
termination_by other
decreasing_by exact Nat.mod_lt _ (by lia)
theorem ratLoop_stop {bound one other h t : Nat} {neg : Bool} (hb : other ≤ bound) : ratLoop bound one other h t neg = (other, t, neg) := by
  rw [ratLoop, dif_pos hb]
theorem ratLoop_step {bound one other h t : Nat} {neg : Bool} (hb : bound < other) : ratLoop bound one other h t neg = ratLoop bound other (one % other) t (h + one / other * t) (!neg) := by
  rw [ratLoop, dif_neg (by lia)]
/-- what holds of the state -/
structure RatInv (m one other h t : Nat) : Prop where
  lt : other < one
  one_le : one ≤ m
  t1 : 1 ≤ t
  det : h * other + t * one = m
theorem RatInv.t_le {m one other h t : Nat} (I : RatInv m one other h t) : t ≤ m := by
  have h1 := I.det
  have h2 := I.lt
  have h3 : t * 1 ≤ t * one := Nat.mul_le_mul_left _ (by lia)
  lia
theorem RatInv.step {m one other h t : Nat} (I : RatInv m one other h t) (h0 : 0 < other) : RatInv m other (one % other) t (h + one / other * t) where
  lt := Nat.mod_lt _ h0
  one_le := by have := I.lt; have := I.one_le; lia
  t1 := by
    have h1 : 1 ≤ one / other := Nat.div_pos (by have := I.lt; lia) h0
    have h2 : 1 * 1 ≤ one / other * t := Nat.mul_le_mul h1 I.t1
    lia
  det := by
    have h1 := I.det
    have h2 := Nat.div_add_mod one other
    have h3 : t * one = t * (other * (one / other)) + t * (one % other) := by rw [← Nat.mul_add, h2]
    have h4 : (h + one / other * t) * other = h * other + t * (other * (one / other)) := by
      rw [Nat.add_mul]; congr 1
      rw [Nat.mul_comm (one / other) t, Nat.mul_assoc, Nat.mul_comm (one / other) other]
    lia
end Mine

end

section
set_option autoImplicit false
namespace Mine
/-- at the end of the loop: what holds of it -/
structure RatEnd (m v n : Nat) (c : Nat × Nat × Bool) : Prop where
  le : c.1 ≤ n
  t1 : 1 ≤ c.2.1
  /-- there are the row before and its factor -/
  prev : ∃ one h : Nat, n < one ∧ h * c.1 + c.2.1 * one = m ∧
    (m : Int) ∣ (c.1 : Int) - v * (if c.2.2 then -(c.2.1 : Int) else c.2.1) ∧
    (m : Int) ∣ (one : Int) - v * (if c.2.2 then (h : Int) else -(h : Int))
theorem rat_end {m v n : Nat} : ∀ (one other h t : Nat) (neg : Bool), RatInv m one other h t → n < one →
    (m : Int) ∣ (other : Int) - v * (if neg then -(t : Int) else t) → (m : Int) ∣ (one : Int) - v * (if neg then (h : Int) else -(h : Int)) →
    RatEnd m v n (ratLoop n one other h t neg) := by
  intro one other
  induction other using Nat.strongRecOn generalizing one with
  | ind other ih =>
    intro h t neg I hn h1 h2
    by_cases hb : other ≤ n
    · rw [ratLoop_stop hb]
      exact ⟨hb, I.t1, one, h, hn, I.det, h1, h2⟩
    · have hb' : n < other := by lia
      rw [ratLoop_step hb']
      refine ih (one % other) (Nat.mod_lt _ (by lia)) other t (h + one / other * t) (!neg) (I.step (by lia)) hb' ?_ ?_
      · have e : ((one % other : Nat) : Int) = one - other * (one / other : Nat) := by
          have := Nat.div_add_mod one other
          have h3 : (one : Int) = other * (one / other : Nat) + (one % other : Nat) := by exact_mod_cast this.symm
          lia
        obtain ⟨p, hp⟩ := h1
        obtain ⟨q, hq⟩ := h2
        rw [e]
        refine ⟨q - p * (one / other : Nat), ?_⟩
        cases neg
        · simp only [Bool.not_false, if_true, Bool.false_eq_true, if_false] at hp hq ⊢
          push_cast
          grind
        · simp only [Bool.not_true, if_true, Bool.false_eq_true, if_false] at hp hq ⊢
          push_cast
          grind
      · cases neg
        · simpa using h1
        · simpa using h1
theorem mul_up {p q : Int} (hp : 0 ≤ p) (hq : 1 ≤ q) : p ≤ p * q := by
  have := Int.mul_le_mul_of_nonneg_left hq hp
  rwa [Int.mul_one] at this
theorem mul_down {p q : Int} (hp : 0 ≤ p) (hq : q ≤ 0) : p * q ≤ 0 := Int.mul_nonpos_of_nonneg_of_nonpos hp hq
theorem mul_neg_up {p q : Int} (hp : 0 ≤ p) (hq : q ≤ -1) : p * q ≤ -p := by
  have := mul_up (q := -q) hp (by lia)
  rw [Int.mul_neg] at this
  lia
theorem lattice {m n o t one h X y : Int} (ho : 0 ≤ o) (hon : o ≤ n) (ht : 1 ≤ t) (hh : 0 ≤ h) (hone : n < one) (hdet : h * o + t * one = m) (hm : 2 * (n * n) < m)
    (d1 : m ∣ y * o - X * t) (d2 : m ∣ X * h + y * one) (x1 : -n ≤ X) (x2 : X ≤ n) (y1 : 1 ≤ y) (y2 : y ≤ n) : t ≤ n ∧ ∃ b : Int, X = o * b ∧ y = t * b := by
  obtain ⟨a, ha⟩ := d1
  obtain ⟨b, hb⟩ := d2
  have hn : 0 ≤ n := by lia
  have hnn : 0 ≤ n * n := Int.mul_nonneg hn hn
  have hmp : m ≠ 0 := by lia
  have eX : X = o * b - one * a := by
    apply Int.eq_of_mul_eq_mul_left hmp
    rw [← hdet] at ha hb ⊢
    grind
  have ey : y = t * b + h * a := by
    apply Int.eq_of_mul_eq_mul_left hmp
    rw [← hdet] at ha hb ⊢
    grind
  have fin : a = 0 → X = o * b ∧ y = t * b := by
    intro e; subst e
    exact ⟨by rw [eX]; simp, by rw [ey]; simp⟩
  by_cases htn : t ≤ n
  · refine ⟨htn, b, ?_⟩
    apply fin
    have h1 : y * o ≤ n * n := Int.mul_le_mul y2 hon ho hn
    have h2 : 0 ≤ y * o := Int.mul_nonneg (by lia) ho
    have h3 : X * t ≤ n * n := by
      by_cases hX : 0 ≤ X
      · exact Int.mul_le_mul x2 htn (by lia) hn
      · have := mul_down (p := t) (q := X) (by lia) (by lia)
        rw [Int.mul_comm] at this
        lia
    have h4 : -(n * n) ≤ X * t := by
      by_cases hX : 0 ≤ X
      · have := Int.mul_nonneg hX (show 0 ≤ t by lia)
        lia
      · have h5 : (-X) * t ≤ n * n := Int.mul_le_mul (by lia) htn (by lia) hn
        rw [Int.neg_mul] at h5
        lia
    have h6 : -m < m * a := by rw [← ha]; lia
    have h7 : m * a < m := by rw [← ha]; lia
    rcases Int.lt_trichotomy a 0 with h8 | h8 | h8
    · have := mul_neg_up (p := m) (q := a) (by lia) (by lia)
      lia
    · exact h8
    · have := mul_up (p := m) (q := a) (by lia) (by lia)
      lia
  · exfalso
    rcases Int.lt_trichotomy a 0 with h8 | h8 | h8
    · have g1 := mul_neg_up (p := one) (q := a) (by lia) (by lia)
      have g2 := mul_down (p := h) (q := a) hh (by lia)
      by_cases hb0 : 0 ≤ b
      · have := Int.mul_nonneg ho hb0
        lia
      · have := mul_neg_up (p := t) (q := b) (by lia) (by lia)
        lia
    · obtain ⟨e1, e2⟩ := fin h8
      by_cases hb0 : 1 ≤ b
      · have := mul_up (p := t) (q := b) (by lia) hb0
        lia
      · have := mul_down (p := t) (q := b) (by lia) (by lia)
        lia
    · have g1 := mul_up (p := one) (q := a) (by lia) (by lia)
      have g2 := Int.mul_nonneg hh (show 0 ≤ a by lia)
      by_cases hb0 : 1 ≤ b
      · have := mul_up (p := t) (q := b) (by lia) hb0
        lia
      · have := mul_down (p := o) (q := b) ho (by lia)
        lia
/-- the number that law_told answers -/
def numOf (c : Nat × Nat × Bool) : Int := if c.2.2 then 0 - (c.1 : Int) else (c.1 : Int)
theorem rat_belongs {m v n : Nat} {c : Nat × Nat × Bool} (R : RatEnd m v n c) : (m : Int) ∣ numOf c - v * c.2.1 := by
  obtain ⟨o, t, neg⟩ := c
  obtain ⟨one, h, _, _, ⟨p, hp⟩, _⟩ := R.prev
  unfold numOf
  cases neg
  · simp only [Bool.false_eq_true, if_false] at hp ⊢
    exact ⟨p, hp⟩
  · simp only [if_true] at hp ⊢
    exact ⟨-p, by grind⟩
theorem rat_unique {m v n : Nat} {c : Nat × Nat × Bool} (R : RatEnd m v n c) (hm : 2 * (n * n) < m) {x y : Int} (hd : (m : Int) ∣ x - v * y) (x1 : -(n : Int) ≤ x) (x2 : x ≤ n) (y1 : 1 ≤ y) (y2 : y ≤ n) :
    c.2.1 ≤ n ∧ ∃ q : Int, y = q * c.2.1 ∧ x = q * numOf c := by
  have hle := R.le
  have ht1 := R.t1
  obtain ⟨one, h, hone, hdet, ⟨p, hp⟩, q, hq⟩ := R.prev
  obtain ⟨o, t, neg⟩ := c
  obtain ⟨r, hr⟩ := hd
  unfold numOf
  dsimp only at hle ht1 hdet hp hq ⊢
  have hdet' : (h : Int) * o + t * one = m := by exact_mod_cast hdet
  have hm' : 2 * ((n : Int) * n) < m := by exact_mod_cast hm
  cases neg
  · simp only [Bool.false_eq_true, if_false] at hp hq ⊢
    obtain ⟨h1, b, h2, h3⟩ := lattice (n := n) (o := o) (t := t) (one := one) (h := h) (X := x) (y := y) (by lia) (by lia) (by lia) (by lia) (by lia) hdet' hm'
      ⟨y * p - t * r, by grind⟩ ⟨h * r + y * q, by grind⟩ x1 x2 y1 y2
    exact ⟨by lia, b, by rw [Int.mul_comm]; exact h3, by rw [Int.mul_comm]; exact h2⟩
  · simp only [if_true] at hp hq ⊢
    obtain ⟨h1, b, h2, h3⟩ := lattice (n := n) (o := o) (t := t) (one := one) (h := h) (X := -x) (y := y) (by lia) (by lia) (by lia) (by lia) (by lia) hdet' hm'
      ⟨y * p + t * r, by grind⟩ ⟨y * q - h * r, by grind⟩ (by lia) (by lia) y1 y2
    exact ⟨by lia, b, by rw [Int.mul_comm]; exact h3, by grind⟩
theorem rat_start {m v n : Nat} (hv : v < m) (hn : 1 ≤ n) (hm : 2 * (n * n) < m) : RatEnd m v n (ratLoop n m v 0 1 false) := by
  have h1 : n * 1 ≤ n * n := Nat.mul_le_mul_left _ hn
  refine rat_end m v 0 1 false ⟨hv, Nat.le_refl _, Nat.le_refl _, by simp⟩ (by lia) ?_ ?_
  · simp
  · simp
theorem rat_none {m v n : Nat} {c : Nat × Nat × Bool} (R : RatEnd m v n c) (hm : 2 * (n * n) < m) (ht : c.2.1 = 0 ∨ n < c.2.1) (d : Nat) (d1 : 1 ≤ d) (d2 : d ≤ n) : ¬ min ((v * d : Int) % m) (m - (v * d : Int) % m) ≤ n := by
  intro hmin
  have ht1 := R.t1
  have hlt := Int.emod_lt_of_pos ((v : Int) * d) (show (0 : Int) < m by lia)
  have hge := Int.emod_nonneg ((v : Int) * d) (show (m : Int) ≠ 0 by lia)
  have hdm := Int.emod_add_mul_ediv ((v : Int) * d) m
  generalize hr : ((v : Int) * d) % m = r at *
  generalize ((v : Int) * d) / m = q at *
  by_cases h : r ≤ n
  · have := (rat_unique R hm (x := r) (y := d) ⟨-q, by grind⟩ (by lia) h (by lia) (by lia)).1
    lia
  · have := (rat_unique R hm (x := r - m) (y := d) ⟨-q - 1, by grind⟩ (by lia) (by lia) (by lia) (by lia)).1
    lia
theorem dvd_of_coprime {m g z : Int} (h : Int.gcd g m = 1) (hd : m ∣ g * z) : m ∣ z := by
  have h1 : Int.gcd m g = 1 := by rw [Int.gcd_comm]; exact h
  have h2 := Int.dvd_gcd_mul_iff_dvd_mul.mpr hd
  rw [h1] at h2
  simpa using h2
theorem rat_lowest {m v n below : Nat} {top inv : Int} {c : Nat × Nat × Bool} (R : RatEnd m v n c) (hm : 2 * (n * n) < m) (t1 : -(n : Int) ≤ top) (t2 : top ≤ n) (b1 : 1 ≤ below) (b2 : below ≤ n)
    (hg : Int.gcd below m = 1) (hinv : (m : Int) ∣ inv * below - 1) (hv : (v : Int) = top * inv % m) :
    c.2.1 ≤ n ∧ numOf c = top / (Int.gcd top below : Nat) ∧ (c.2.1 : Int) = below / (Int.gcd top below : Nat) := by
  have hgp : 0 < Int.gcd top below := Int.gcd_pos_of_ne_zero_right _ (by lia)
  obtain ⟨x, hx⟩ := Int.gcd_dvd_left top below
  obtain ⟨y, hy⟩ := Int.gcd_dvd_right top below
  have hco : Int.gcd x y = 1 := by
    have := Int.gcd_ediv_gcd_ediv_gcd hgp
    rwa [show top / (Int.gcd top below : Nat) = x from Int.ediv_eq_of_eq_mul_right (by lia) hx, show (below : Int) / (Int.gcd top below : Nat) = y from Int.ediv_eq_of_eq_mul_right (by lia) hy] at this
  have ex : top / (Int.gcd top below : Nat) = x := Int.ediv_eq_of_eq_mul_right (by lia) hx
  have ey : (below : Int) / (Int.gcd top below : Nat) = y := Int.ediv_eq_of_eq_mul_right (by lia) hy
  rw [ex, ey]
  clear ex ey
  have hgm : Int.gcd ((Int.gcd top below : Nat) : Int) m = 1 := by
    have h1 : Int.gcd ((Int.gcd top below : Nat) : Int) m ∣ Int.gcd below m := Int.gcd_dvd_gcd_of_dvd_left _ (Int.gcd_dvd_right _ _)
    rw [hg] at h1
    exact Nat.dvd_one.mp h1
  generalize hG : ((Int.gcd top below : Nat) : Int) = g at *
  have hg1 : 1 ≤ g := by lia
  have hd : (m : Int) ∣ x - v * y := by
    refine dvd_of_coprime (g := g) hgm ?_
    have hdm := Int.emod_add_mul_ediv (top * inv) m
    rw [← hv] at hdm
    obtain ⟨p, hp⟩ := hinv
    refine ⟨(top * inv / m) * below - top * p, ?_⟩
    have e : g * (x - v * y) = top - v * below := by grind
    rw [e]
    grind
  have hy1 : 1 ≤ y := by
    rcases Int.lt_or_le y 1 with h | h
    · have := mul_down (p := g) (q := y) (by lia) (by lia)
      lia
    · exact h
  have hyn : y ≤ n := by
    have := mul_up (p := y) (q := g) (by lia) hg1
    rw [Int.mul_comm] at this
    lia
  have hx1 : -(n : Int) ≤ x ∧ x ≤ n := by
    rcases Int.lt_or_le x 0 with h | h
    · have := mul_up (p := -x) (q := g) (by lia) hg1
      rw [Int.neg_mul, Int.mul_comm] at this
      lia
    · have := mul_up (p := x) (q := g) h hg1
      rw [Int.mul_comm] at this
      lia
  obtain ⟨h1, q, h2, h3⟩ := rat_unique R hm hd hx1.1 hx1.2 hy1 hyn
  have hq : q.natAbs ∣ Int.gcd x y := by
    have := Int.dvd_coe_gcd (a := x) (b := y) (c := q) ⟨_, h3⟩ ⟨_, h2⟩
    exact Int.natAbs_dvd_natAbs.mpr this
  rw [hco] at hq
  have hq1 := Nat.dvd_one.mp hq
  have hq0 : q = 1 := by
    rcases Int.lt_or_le q 0 with h | h
    · have := mul_down (p := (c.2.1 : Int)) (q := q) (by lia) (by lia)
      rw [Int.mul_comm] at this
      lia
    · lia
  subst hq0
  rw [Int.one_mul] at h2 h3
  exact ⟨h1, h3.symm, h2.symm⟩
end Mine

end

set_option maxRecDepth 100000
namespace Mine
def IsSg (h : Heap) (v : Value) (neg : Bool) (ns : List Int) : Prop := ∃ t l, v = .ref t ∧ IsTup h t [Value.bool neg, Value.ref l].toArray ∧ IsRow h l ns
theorem keepsSg {v neg ns} : Keeps (fun h => IsSg h v neg ns) := fun _ _ k ⟨t, l, e, ht, hr⟩ => ⟨t, l, e, ht.keeps k, IsRow.keeps _ _ k hr⟩
def SgF (v : Value) (neg : Bool) (ns : List Int) : HP := fun h => IsSg h v neg ns
theorem keepsSgF {v neg ns} : Keeps (SgF v neg ns) := keepsSg

theorem start_fill_all (w : World) : (hd.heap_39 w.params) = (hd.heap_39 w.params) ∧ PySem.Challenge.rw_nz0080_01 = PySem.Challenge.rw_nz0080_01 := by
  k_fill
  exact ⟨rfl, rfl⟩

local macro_rules | `(tactic| walk_at "m at") => `(tactic| first | exact At.here | (apply At.there; walk_at "m at"))
local macro_rules | `(tactic| walk_at "m put") => `(tactic| first | exact Put.here | (apply Put.there; walk_at "m put"))
local macro_rules | `(tactic| walk_at "m sub") => `(tactic| first | exact Sub.nil | (apply Sub.same; walk_at "m sub") | (apply Sub.none; walk_at "m sub"))
local macro_rules | `(tactic| walk_at "m mem") => `(tactic| first | exact List.Mem.head _ | (apply List.Mem.tail; walk_at "m mem"))
local macro_rules | `(tactic| walk_at "m all") => `(tactic| first | exact List.forall_mem_nil _ | (refine List.forall_mem_cons.mpr ⟨?_, ?_⟩; walk_at "m mem"; walk_at "m all"))
local macro_rules | `(tactic| walk_at "m bat") => `(tactic| first | exact bat_nil | (refine bat_none ?_; walk_at "m bat") | (refine bat_some (by rfl) ?_; walk_at "m bat"))
local macro_rules | `(tactic| walk_at "eval Name") => `(tactic| (refine ldS (by assumption) (by assumption) (by walk_at "m at") ?_))
local macro_rules | `(tactic| walk_at "eval Name") => `(tactic| (refine glS (by assumption) (by assumption) (by walk_at "m mem") ?_))
local macro_rules | `(tactic| walk_at "loadName") => `(tactic| (refine ldnS (by assumption) (by assumption) (by walk_at "m at") ?_))
local macro_rules | `(tactic| walk_at "storeName") => `(tactic| (refine stS (by assumption) (by assumption) (by walk_at "m put") ?_; intro _ _))
local macro_rules | `(tactic| walk_at "m fit") => `(tactic| first | decide | lia | assumption | (simp only [List.length_append, List.length_cons, List.length_nil, List.length_map, List.length_take, List.length_reverse] at *; lia))
local macro_rules | `(tactic| walk_at "call builtin:len") => `(tactic| (refine lenS (by assumption) (by walk_at "m mem") (by assumption) (by walk_at "m fit") ?_; intro _ _))
local macro_rules | `(tactic| walk_at "call builtin:len") => `(tactic| (refine lenM (by assumption) (by walk_at "m mem") (by assumption) (by walk_at "m fit") ?_; intro _ _))
local macro_rules | `(tactic| walk_at "subscriptTail") => `(tactic| ((with_reducible show wpAny _ _ (subscriptTail _ _ (Value.ref _) (Value.int _ _)) _ _ _); refine itemS (by assumption) (by walk_at "m mem") (by assumption) (by walk_at "m fit") (by walk_at "m fit") (by walk_at "m fit") ?_; intro _))
local macro_rules | `(tactic| walk_at "subscriptTail") => `(tactic| ((with_reducible show wpAny _ _ (subscriptTail _ _ (Value.ref _) (Value.int _ _)) _ _ _); refine itemT (by assumption) (by walk_at "m mem") (by decide) (by decide) (by rfl) (by rfl) ?_))
local macro_rules | `(tactic| walk_at "newTuple") => `(tactic| (refine newTupS (by assumption) (by walk_at "m fit") ?_; intro _ _ _))
local macro_rules | `(tactic| walk_at "newList") => `(tactic| (refine newListM (by assumption) (by walk_at "m fit") ?_; intro _ _ _))
local macro_rules | `(tactic| walk_at "getMethod ref") => `(tactic| (refine getAppendS (by assumption) (by walk_at "m mem") ?_))
local macro_rules | `(tactic| walk_at "call builtin:list.append") => `(tactic| (first | (refine append2S (by assumption) (by walk_at "m fit") ?_; intro _ _) | (refine appendS (by assumption) (by walk_at "m fit") ?_; intro _ _)))
local macro_rules | `(tactic| walk_at "m keepsF") => `(tactic| first | exact List.forall_mem_nil _ | (refine List.forall_mem_cons.mpr ⟨⟨?_, ?_⟩, ?_⟩; (first | exact keepsLF | exact keepsTF | apply keepsSgF); assumption; walk_at "m keepsF"))
local macro_rules | `(tactic| walk_at "binaryOp Mult int int") => `(tactic| (refine mulI (by first | (left; lia) | (right; lia)) ?_; intro _ _))
local macro_rules | `(tactic| walk_at "binaryOp FloorDiv int int") => `(tactic| (refine fdivI (by lia) (by lia) ?_; intro _ _))
local macro_rules | `(tactic| walk_at "binaryOp Mod int int") => `(tactic| (refine fmodI (by lia) ?_; intro _ _))
local macro_rules | `(tactic| walk_at "binaryOp Pow int int") => `(tactic| (refine pow2I (by lia) (by assumption) ?_; intro _ _))
local macro_rules | `(tactic| walk_at "binaryOp LShift int int") => `(tactic| (refine shl1I (by lia) (by assumption) ?_; intro _ _))
local macro_rules | `(tactic| walk_at "inplaceOp RShift int int") => `(tactic| (refine shrI (by assumption) ?_; intro _ _))
local macro_rules | `(tactic| walk_at "binaryOp BitAnd int int") => `(tactic| (refine andI (by lia) (by assumption) ?_; intro _ _))
local macro_rules | `(tactic| walk_at "m part") => `(tactic| first | exact IsPart.none | exact IsPart.int _ _)
local macro_rules | `(tactic| walk_at "subscriptTail Name Slice ref ref") => `(tactic| (refine sliceS (by assumption) (by walk_at "m mem") (by assumption) (by walk_at "m part") (by walk_at "m part") (by walk_at "m part") (by decide) (by walk_at "m fit") ?_; intro _ _ _ _ _))
local macro_rules | `(tactic| walk_at "m glo") => `(tactic| first | exact List.forall_mem_nil _ | (refine List.forall_mem_cons.mpr ⟨⟨by rfl, ?_⟩, ?_⟩; (first | exact g_len _ | exact g_range _ | exact g_abs _ | exact g_min _ | exact g_isinstance _ | exact g_list _ | exact g_bool _ | exact g_int _ | exact g_normal _ | exact g_compare _ | exact g_add _ | exact g_sub _ | exact g_add_limb _ | exact g_signed _ | exact g_s_neg _ | exact g_s_sign _ | exact g_s_add _ | exact g_s_sub _ | exact g_s_mul _ | exact g_tdiv _ | exact g_fdiv _ | exact g_NOUGHT _ | exact g_UNIT _ | exact g_fraction_of _ | exact g_law_take _ | exact g_law_total _ | exact g_law_row _ | exact g_law_whole _ | exact g_law_is_row _ | exact g_law_times _ | exact g_law_parts _ | exact g_law_common _ | exact g_law_inverse _ | exact g_law_told _ | exact g_law_is_there _); walk_at "m glo"))
local macro_rules | `(tactic| walk_at "m not while") => `(tactic| first | (fail_if_success (with_reducible show wpAny _ _ (exec (Stmt.While _ _ _ _) _) _ _ _)))
local macro_rules | `(tactic| walk_at "m not for") => `(tactic| first | (fail_if_success (with_reducible show wpAny _ _ (exec (Stmt.For _ _ _ _ _) _) _ _ _)))
local macro_rules | `(tactic| walk_at "m not call") => `(tactic| first | (fail_if_success (with_reducible show wpAny _ _ (PySem.call (Value.ref _) _ _) _ _ _)))
local macro_rules | `(tactic| walk_at "m not comp") => `(tactic| first | (fail_if_success (with_reducible show wpAny _ _ (eval (PySem.Expr.ListComp _ _ _ _) _) _ _ _)))
local macro_rules | `(tactic| walk_at "m go") => `(tactic| repeat (walk_at "m not while"; walk_at "m not for"; walk_at "m not call"; walk_at "m not comp"; walk1; try dsimp only))
local macro_rules | `(tactic| walk_at "m gos") => `(tactic| repeat' (walk_at "m not while"; walk_at "m not for"; walk_at "m not call"; walk_at "m not comp"; walk1; try dsimp only))
local macro_rules | `(tactic| walk_at "call type:range") => `(tactic| (first | (refine range1S (by assumption) ?_; intro _ _ _ _) | (refine range2S (by assumption) ?_; intro _ _ _ _) | (refine range3S (by assumption) (by decide) (by decide) ?_; intro _ _ _ _)))
local macro_rules | `(tactic| walk_at "m not iter") => `(tactic| first | (fail_if_success (with_reducible show wpAny _ _ (pyIter _) _ _ _)))
local macro_rules | `(tactic| walk_at "m toiter") => `(tactic| (refine wpAny_For ?_; repeat (walk_at "m not iter"; walk1; try dsimp only)))
local macro_rules | `(tactic| walk_at "exec Assign") => `(tactic| ((with_reducible show wpAny _ _ (exec (Stmt.Assign [Expr.Tuple [_, _] _ _] (Expr.Tuple _ _ _) _) _) _ _ _); refine assign2S (by assumption) (by walk_at "m mem") (by walk_at "m mem") (by decide +kernel) (by rfl) (by rfl) (by rfl) (by rfl) ?_))
local macro_rules | `(tactic| walk_at "exec Assign") => `(tactic| ((with_reducible show wpAny _ _ (exec (Stmt.Assign [Expr.Tuple [_, _, _] _ _] (Expr.Tuple _ _ _) _) _) _ _ _); refine assign3S (by assumption) (by walk_at "m mem") (by walk_at "m mem") (by walk_at "m mem") (by decide +kernel) (by rfl) (by rfl) (by rfl) (by rfl) (by rfl) ?_))
local macro_rules | `(tactic| walk_at "unpackItems ref") => `(tactic| (refine unpackS (by exact Room.hh (by assumption)) (by assumption) (by walk_at "m mem") (by rfl) ?_; intro _ _))
local macro_rules | `(tactic| walk_at "assignInOrder") => `(tactic| first | exact aioNil ?_ | refine aioCons ?_ | refine aioNil ?_)
local macro_rules | `(tactic| walk_at "bindName") => `(tactic| refine bindName_ ?_)
local macro_rules | `(tactic| walk_at "assign Tuple") => `(tactic| refine assignTupS (by rfl) ?_)
local macro_rules | `(tactic| walk_at "assign Name") => `(tactic| refine assign_Name ?_)
local macro_rules | `(tactic| walk_at "exec Expr") => `(tactic| (refine exprS (by assumption) ?_))
local macro_rules | `(tactic| walk_at "callWith ref") => `(tactic| (refine callWithS (by k_dflt k_is) ?_))
local macro_rules | `(tactic| walk_at "And") => `(tactic| ((with_reducible show Frag.In _ _ ∧ _); refine ⟨(St.gdh (by assumption)).K, ?_⟩; try simp only [List.nil_append, List.cons_append]))
local macro_rules | `(tactic| walk_at "m not raise") => `(tactic| first | (fail_if_success (with_reducible show wpAny _ _ (exec (Stmt.Raise _ _ _) _) _ _ _)))
local macro_rules | `(tactic| walk_at "call builtin:min") => `(tactic| (refine minS (by exact Room.hh (by assumption)) (by assumption) ?_; intro _ _ _ _))
local macro_rules | `(tactic| walk_at "call builtin:abs") => `(tactic| (refine absS ?_; intro _ _))
local macro_rules | `(tactic| walk_at "subscriptTail") => `(tactic| ((with_reducible show wpAny _ _ (subscriptTail _ _ (Value.ref _) (Value.int 0 _)) _ _ _); refine itemB0 (by assumption) (by assumption) (by assumption) ?_; intro _))
local macro_rules | `(tactic| walk_at "subscriptTail") => `(tactic| ((with_reducible show wpAny _ _ (subscriptTail _ _ (Value.ref _) (Value.int 1 _)) _ _ _); refine itemB1 (by assumption) (by assumption) (by assumption) ?_; intro _))
local macro_rules | `(tactic| walk_at "setItem ref int int") => `(tactic| ((with_reducible show wpAny _ _ (setItem (Value.ref _) (Value.int 0 _) _) _ _ _); refine setB0 (by assumption) (by assumption) (by assumption) ?_; intro _ _ _ _ _ _))
local macro_rules | `(tactic| walk_at "setItem ref int int") => `(tactic| ((with_reducible show wpAny _ _ (setItem (Value.ref _) (Value.int 1 _) _) _ _ _); refine setB1 (by assumption) (by assumption) (by assumption) ?_; intro _ _ _ _ _ _))
local macro_rules | `(tactic| walk_at "last subscriptTail") => `(tactic| ((fail_if_success (with_reducible show wpAny _ _ (subscriptTail (PySem.Expr.Name _ _) _ _ _) _ _ _)); refine kba_turn (value' := PySem.Expr.Name (PySem.Str.ofString "_") ⟨0, 0, 0, 0⟩) (fun _ => rfl) ?_))
local macro_rules | `(tactic| walk_at "call builtin:isinstance ref") => `(tactic| ((with_reducible show wpAny _ _ (PySem.call _ [Value.ref _, Value.type "list"]) _ _ _); refine isListS (by assumption) (by walk_at "m mem") ?_))
local macro_rules | `(tactic| walk_at "call builtin:isinstance") => `(tactic| ((with_reducible show wpAny _ _ (PySem.call _ [Value.ref _, Value.type "list"]) _ _ _); refine isListS (by assumption) (by walk_at "m mem") ?_))

section
theorem IntsAre.inj : ∀ {vs : List Value} {ns ms : List Int}, IntsAre vs ns → IntsAre vs ms → ns = ms
  | _, _, _, .nil, h => by cases h; rfl
  | _, _, _, .cons n t h, h' => by cases h' with | cons _ _ h2 => rw [IntsAre.inj h h2]
theorem pick_upto {vs : List Value} {ns : List Int} (hi : IntsAre vs ns) {y : Int} (h0 : 0 ≤ y) (h2 : y ≤ ns.length) : pickNums ns none (some y) none = ns.take y.toNat :=
  IntsAre.inj (hi.pick none (some y) none) (slice_ints_upto hi h0 h2)
set_option maxHeartbeats 400000 in
theorem normal_spec {w : World} {A : Around} {s : Shared} {a : Addr} {ns : List Int} {Q E : Value → Shared → Prop} (G : Gd w s.heap) (R : Room A 3) (hr : IsRow s.heap a ns) (hl : ns.length ≤ 10000)
    (hz : 0 < ns.length → ns.getD (ns.length - 1) 0 ≠ 0)
    (ret : Ret s (fun h r => ∃ l, r = .ref l ∧ IsRow h l ns) Q) : wpAny (MM w) A (call (.ref 58) [.ref a]) Q E s := by
  obtain ⟨vs, hL, hI⟩ := hr
  refine enter (names := ["a", "end"]) (gls := [("len", .builtin "len")]) (vals := [some (.ref a), none]) (fs := [LF a vs]) G R.depth (by k_dflt k_is) (by k_dflt k_is) rfl (locs rfl) ?hZ ?hat ?hfs ?_ (by decide) rfl rfl rfl
  case hZ => exact ⟨by decide, by decide, by walk_at "m glo"⟩
  case hat => walk_at "m bat"
  case hfs => walk_at "m keepsF"
  intro env h₁ tk Z S
  have R' := R.deeper env
  walk_at "m go"
  refine whileS (σ := Int × Tok) (fun c => [some (.ref a), some (.int c.1 c.2)]) (fun _ => []) (fun _ => [fun h => s.heap.StaysIn h, LF a vs]) (fun c => c.1 = ns.length) (fun c => c.1.toNat) (_, _)
    (by assumption) (by walk_at "m sub") (by walk_at "m all") (by rfl) ?_
  rintro T ⟨e, te⟩ h tk hT h0 S
  dsimp only at *
  subst h0
  walk_at "m gos"
  · rename_i hpos _ hzero _ _
    exact absurd (by rw [show ((ns.length : Int) - 1).toNat = ns.length - 1 by lia] at hzero; exact hzero) (hz (by lia))
  all_goals
    rename_i S' hI'
    rw [pick_upto hI (by lia) (by lia), show ((ns.length : Int)).toNat = ns.length by lia, List.take_length] at hI'
    exact ret _ _ _ (S'.at (.tail _ (.head _))) ⟨_, rfl, _, S'.at (.head _), hI'⟩

end

section
theorem small_down {a : Int} (h1 : -2 ≤ a) (h2 : a < 2 ^ 60) : Builtin.Range.small a (-1) (-1) = true := by
  unfold Builtin.Range.small
  rw [rangeSize_down]
  simp only [Builtin.Range.rangeFitsLong, Bool.and_eq_true, Bool.or_eq_true, decide_eq_true_eq, beq_iff_eq, show ¬ ((-1 : Int) > 0) by decide, if_false]
  split <;> lia
set_option maxHeartbeats 1000000 in
theorem compare_spec {w : World} {A : Around} {s : Shared} {a c : Addr} {k b x y : Nat} {Q E : Value → Shared → Prop} (G : Gd w s.heap) (R : Room A 3) (W : Wd k b) (ha : IsRow s.heap a (digs b x)) (hc : IsRow s.heap c (digs b y))
    (hx : x ≤ 10000) (hy : y ≤ 10000)
    (ret : Ret s (fun _ r => ∃ t, r = .int (cmpI x y) t) Q) : wpAny (MM w) A (call (.ref 65) [.ref a, .ref c]) Q E s := by
  obtain ⟨vs, hL, hI⟩ := ha
  obtain ⟨us, hM, hJ⟩ := hc
  have hb : 2 ≤ b := by have := W.b1; lia
  have hlx := digs_length_le hb x
  have hly := digs_length_le hb y
  generalize hns : digs b x = ns at hI hlx
  generalize hms : digs b y = ms at hJ hly
  refine enter (names := ["a", "b", "at"]) (gls := [("len", .builtin "len"), ("range", .type "range")]) (vals := [some (.ref a), some (.ref c), none]) (fs := [LF a vs, LF c us]) G R.depth (by k_dflt k_is) (by k_dflt k_is) rfl (locs rfl) ?hZ ?hat ?hfs ?_ (by decide) rfl rfl rfl
  case hZ => exact ⟨by decide, by decide, by walk_at "m glo"⟩
  case hat => walk_at "m bat"
  case hfs => walk_at "m keepsF"
  intro env h₁ tk Z S
  have R' := R.deeper env
  walk_at "m gos"
  · exact ret _ _ _ (S.at (.head _)) ⟨_, by rw [cmp_len_lt hb (by rw [hns, hms]; lia)]⟩
  · exact ret _ _ _ (S.at (.head _)) ⟨_, by rw [cmp_len_gt hb (by rw [hns, hms]; lia)]⟩
  have hlen : ns.length = ms.length := by lia
  walk_at "m toiter"
  refine forRangeS (σ := Option Value) ns.length (fun o => [some (.ref a), some (.ref c), o]) (fun _ v => [some (.ref a), some (.ref c), some v]) (fun _ => []) (fun _ => [fun h => s.heap.StaysIn h, LF a vs, LF c us])
    (fun i _ => ns.drop (ns.length - i) = ms.drop (ns.length - i)) none R'.hh ?hsm ?hn Z (by assumption) (by walk_at "m mem") (by walk_at "m sub") (by walk_at "m all") ?_ ?_ ?_ ?_
  case hsm => exact small_down (by lia) (by lia)
  case hn => rw [rangeSize_downNat]; lia
  · rw [Nat.sub_zero, List.drop_length, hlen, List.drop_length]
  · intro c v; walk_at "m put"
  · rintro T i q t h tk I o hT hi hP S
    try dsimp only at hP S
    have e : (ns.length : Int) - 1 + (i : Int) * -1 = ((ns.length - (i + 1) : Nat) : Int) := by lia
    rw [e] at S
    have e1 : ns.length - (i + 1) + 1 = ns.length - i := by lia
    have hp : ns.length - (i + 1) < ns.length := by lia
    generalize hpe : ns.length - (i + 1) = p at S e1 hp
    rw [← e1] at hP
    walk_at "m gos"
    · rename_i hne _ _ hlt
      refine hT _ _ (ret _ _ _ (S.at (.head _)) ⟨_, by rw [cmp_at hb (p := p) (by rw [hns, hms]; exact hP) (by rw [hns, hms]; simpa using hne), if_pos (by rw [hns, hms]; simpa using hlt)]⟩)
    · rename_i hne _ _ hlt
      refine hT _ _ (ret _ _ _ (S.at (.head _)) ⟨_, by rw [cmp_at hb (p := p) (by rw [hns, hms]; exact hP) (by rw [hns, hms]; simpa using hne), if_neg (by rw [hns, hms]; simpa using hlt)]⟩)
    · rename_i heq
      subst hpe
      refine hT _ _ (fturn_next none (by assumption) (by walk_at "m sub") (by walk_at "m all") ?_)
      exact drop_getD hlen hp hP (by simpa using heq)
  · intro q h tk hP S
    try dsimp only at hP S ⊢
    walk_at "m gos"
    exact ret _ _ _ (S.at (.head _)) ⟨_, by rw [cmp_eq hb (by rw [hns, hms]; simpa using hP)]⟩

end

section
set_option maxHeartbeats 2000000 in
theorem add_spec {w : World} {A : Around} {s : Shared} {a c : Addr} {k b x y : Nat} {tw : Tok} {Q E : Value → Shared → Prop} (G : Gd w s.heap) (R : Room A 3) (W : Wd k b) (ha : IsRow s.heap a (digs b x)) (hc : IsRow s.heap c (digs b y))
    (hx : x ≤ 10000) (hy : y ≤ 10000)
    (ret : Ret s (fun h r => ∃ l, r = .ref l ∧ IsRow h l (digs b (x + y))) Q) : wpAny (MM w) A (call (.ref 72) [.ref a, .ref c, .int k tw]) Q E s := by
  obtain ⟨vs, hL, hI⟩ := ha
  obtain ⟨us, hM, hJ⟩ := hc
  have hb : 2 ≤ b := by have := W.b1; lia
  have hwb := W.hb
  have hk := W.k2
  have hlx := digs_length_le hb x
  have hly := digs_length_le hb y
  refine enter (names := ["a", "b", "w", "found", "carry", "mask", "at"]) (gls := [("len", .builtin "len"), ("range", .type "range")]) (vals := [some (.ref a), some (.ref c), some (.int k tw), none, none, none, none]) (fs := [LF a vs, LF c us]) G R.depth (by k_dflt k_is) (by k_dflt k_is) rfl (locs rfl) ?hZ ?hat ?hfs ?_ (by decide) rfl rfl rfl
  case hZ => exact ⟨by decide, by decide, by walk_at "m glo"⟩
  case hat => walk_at "m bat"
  case hfs => walk_at "m keepsF"
  intro env h₁ tk Z S
  have R' := R.deeper env
  walk1
  refine cutE (fun s' => ∃ (p q : Addr) (vs us : List Value) (x' y' : Nat) (h' : Heap) (tk' : Nat), s' = { s with heap := h', toks := tk' } ∧ x' + y' = x + y ∧ x' ≤ 10000 ∧ y' ≤ 10000 ∧ (digs b y').length ≤ (digs b x').length ∧ IntsAre vs (digs b x') ∧ IntsAre us (digs b y') ∧
    St w ["a", "b", "w", "found", "carry", "mask", "at"] env.locals h' [some (.ref p), some (.ref q), some (.int k tw), none, none, none, none] [] [fun h => s.heap.StaysIn h, LF p vs, LF q us]) ?_ ?_
  · walk_at "m gos"
    · exact ⟨rfl, c, a, us, vs, y, x, _, _, rfl, by lia, hy, hx, by lia, hJ, hI, St.weak (by assumption) (by walk_at "m sub") (by walk_at "m all")⟩
    · exact ⟨rfl, a, c, vs, us, x, y, _, _, rfl, rfl, hx, hy, by lia, hI, hJ, by assumption⟩
  clear hL hM hI hJ hlx hly S
  rintro _ ⟨p, q, vs, us, x', y', h', tk', rfl, hxy, hx', hy', hle, hI, hJ, S⟩
  have hlx := digs_length_le hb x'
  have hly := digs_length_le hb y'
  dsimp only
  rw [← hxy] at ret
  clear hxy hx hy
  walk_at "m go"
  rename_i f _ _ _ tm _ _ _ _ _ _ _ _ _ _ Sf
  walk_at "m toiter"
  have hpc : ∀ (i : Nat) (P : Int → Prop), P ((carryN b x' y' i : Nat) : Int) → P ((carryN b x' y' i : Nat) : Int) := fun _ _ h => h
  refine forRangeS (σ := List Value × Nat × Int × Tok × Option Value) (digs b y').length (fun c => [some (.ref p), some (.ref q), some (.int k tw), some (.ref f), some (.int c.2.2.1 c.2.2.2.1), some (.int ((b : Int) - 1) (tm + 1)), c.2.2.2.2])
    (fun c v => [some (.ref p), some (.ref q), some (.int k tw), some (.ref f), some (.int c.2.2.1 c.2.2.2.1), some (.int ((b : Int) - 1) (tm + 1)), some v]) (fun c => [(f, listO c.1 c.2.1)]) (fun _ => [fun h => s.heap.StaysIn h, LF p vs, LF q us])
    (fun i c => IntsAre c.1 (low b i (x' + y')) ∧ c.2.2.1 = ((carryN b x' y' i : Nat) : Int)) ([], 0, 0, _, none) R'.hh ?hsm ?hn Z (by assumption) (by walk_at "m mem") (by walk_at "m sub") (by walk_at "m all") ?_ ?_ ?_ ?_
  case hsm => exact small_one (by lia) (by lia) (by lia) (by lia)
  case hn => rw [rangeSize_nat]; lia
  · exact ⟨by simpa [low] using IntsAre.nil, by rw [carry_zero]; rfl⟩
  · intro c v; walk_at "m put"
  · rintro T i ⟨us', n, cv, ct, o'⟩ t h tk I o hT hi ⟨hP, hc⟩ S
    dsimp only at hP hc S
    subst hc
    have hlow := low_length b i (x' + y')
    have hus : us'.length = i := by rw [hP.length, hlow]
    have e1 : (digs b x').getD ((i : Int)).toNat 0 = _ := digs_getD hb i x'
    have e2 : (digs b y').getD ((i : Int)).toNat 0 = _ := digs_getD hb i y'
    have hstep := carry_limb hb x' y' i
    have hnext := carry_next hb x' y' i
    generalize hxd : x' / b ^ i % b = xd at e1 hstep hnext
    generalize hyd : y' / b ^ i % b = yd at e2 hstep hnext
    generalize hcr : carryN b x' y' i = cr at S hstep hnext
    have e0 : (0 : Int) + (i : Int) * 1 = (i : Int) := by lia
    rw [e0] at S
    walk_at "m gos"
    refine hT _ _ (fturn_next (_, _, _, _, _) (by assumption) (by walk_at "m sub") (by walk_at "m all") ⟨?_, ?_⟩)
    · rw [low_succ]
      refine hP.append ?_
      rw [e1, e2]
      have : ((cr : Int) + ((xd : Int) + (yd : Int))) % (b : Int) = (((x' + y') / b ^ i % b : Nat) : Int) := by rw [← hstep, Int.natCast_emod]; congr 1; lia
      rw [this]
      exact .cons _ _ .nil
    · dsimp only
      rw [e1, e2, ← hnext, Int.natCast_ediv]; congr 1; lia
  · rintro ⟨us', n, cv, ct, o'⟩ h tk ⟨hP, hc⟩ S
    dsimp only at hP hc S ⊢
    subst hc
    walk_at "m go"
    walk_at "m toiter"
    refine forRangeS (σ := List Value × Nat × Int × Tok × Option Value) ((digs b x').length - (digs b y').length) (fun c => [some (.ref p), some (.ref q), some (.int k tw), some (.ref f), some (.int c.2.2.1 c.2.2.2.1), some (.int ((b : Int) - 1) (tm + 1)), c.2.2.2.2])
      (fun c v => [some (.ref p), some (.ref q), some (.int k tw), some (.ref f), some (.int c.2.2.1 c.2.2.2.1), some (.int ((b : Int) - 1) (tm + 1)), some v]) (fun c => [(f, listO c.1 c.2.1)]) (fun _ => [fun h => s.heap.StaysIn h, LF p vs, LF q us])
      (fun i c => IntsAre c.1 (low b ((digs b y').length + i) (x' + y')) ∧ c.2.2.1 = ((carryN b x' y' ((digs b y').length + i) : Nat) : Int)) (us', n, _, ct, o') R'.hh ?hsm2 ?hn2 Z (by assumption) (by walk_at "m mem") (by walk_at "m sub") (by walk_at "m all") ?_ ?_ ?_ ?_
    case hsm2 => exact small_one (by lia) (by lia) (by lia) (by lia)
    case hn2 => rw [rangeSize_nat]; lia
    · exact ⟨hP, rfl⟩
    · intro c v; walk_at "m put"
    · clear S hP
      rintro T i ⟨us', n, cv, ct, o'⟩ t h tk I o hT hi ⟨hP, hc⟩ S
      dsimp only at hP hc S
      subst hc
      have e0 : ((digs b y').length : Int) + (i : Int) * 1 = (((digs b y').length + i : Nat) : Int) := by lia
      rw [e0] at S
      have hle' : (digs b y').length ≤ (digs b y').length + i := Nat.le_add_right _ _
      have hi' : (digs b y').length + i < (digs b x').length := by lia
      generalize hj : (digs b y').length + i = j at S hP hi' hle'
      have hlow := low_length b j (x' + y')
      have hus : us'.length = j := by rw [hP.length, hlow]
      have e1 : (digs b x').getD ((j : Int)).toNat 0 = _ := digs_getD hb j x'
      have hstep := carry_limb hb x' y' j
      have hnext := carry_next hb x' y' j
      rw [limb_above hb hle', Nat.add_zero] at hstep hnext
      generalize hxd : x' / b ^ j % b = xd at e1 hstep hnext
      generalize hcr : carryN b x' y' j = cr at S hstep hnext
      walk_at "m gos"
      refine hT _ _ (fturn_next (_, _, _, _, _) (by assumption) (by walk_at "m sub") (by walk_at "m all") ⟨?_, ?_⟩)
      · rw [show (digs b y').length + (i + 1) = j + 1 by lia, low_succ]
        refine hP.append ?_
        rw [e1]
        have : ((cr : Int) + (xd : Int)) % (b : Int) = (((x' + y') / b ^ j % b : Nat) : Int) := by rw [← hstep, Int.natCast_emod]; congr 1
        rw [this]
        exact .cons _ _ .nil
      · dsimp only
        rw [show (digs b y').length + (i + 1) = j + 1 by lia, e1, ← hnext, Int.natCast_ediv]; congr 1
    · clear S hP
      rintro ⟨us', n, cv, ct, o'⟩ h tk ⟨hP, hc⟩ S
      rw [show (digs b y').length + ((digs b x').length - (digs b y').length) = (digs b x').length by lia] at hP hc
      dsimp only at hP hc S ⊢
      subst hc
      have hlow := low_length b (digs b x').length (x' + y')
      have hus : us'.length = (digs b x').length := by rw [hP.length, hlow]
      walk_at "m gos"
      · rename_i hpos _ S'
        have hmore := add_more_end hb hle (by lia)
        refine ret _ _ _ (S'.at (.head _)) ⟨_, rfl, ?_⟩
        rw [← hmore]
        exact S'.mutRow (.head _) (hP.append (.cons _ _ .nil))
      · rename_i hpos
        have hmore := add_zero_end hb hle (by lia)
        refine ret _ _ _ (S.at (.head _)) ⟨_, rfl, ?_⟩
        rw [← hmore]
        exact S.mutRow (.head _) hP

end

section
theorem cmpI_zero (x : Nat) : ¬ cmpI x 0 < 0 := by unfold cmpI; split <;> (try split) <;> lia
set_option maxHeartbeats 2000000 in
theorem sub_spec {w : World} {A : Around} {s : Shared} {a c' : Addr} {k b x : Nat} {tw : Tok} {Q E : Value → Shared → Prop} (G : Gd w s.heap) (R : Room A 5) (W : Wd k b) (ha : IsRow s.heap a (digs b x)) (hc : IsRow s.heap c' (digs b 0))
    (hx : x ≤ 10000)
    (ret : Ret s (fun h r => ∃ l, r = .ref l ∧ IsRow h l (digs b x)) Q) : wpAny (MM w) A (call (.ref 79) [.ref a, .ref c', .int k tw]) Q E s := by
  obtain ⟨vs, hL, hI⟩ := ha
  obtain ⟨us, hM, hJ⟩ := hc
  have hb : 2 ≤ b := by have := W.b1; lia
  have hwb := W.hb
  have hk := W.k2
  have hlx := digs_length_le hb x
  have hl0 : (digs b 0).length = 0 := by rw [digs_zero]; rfl
  refine enter (names := ["a", "b", "w", "found", "borrow", "base", "at", "limb"]) (gls := [("len", .builtin "len"), ("range", .type "range"), ("compare", .ref 65), ("normal", .ref 58)]) (vals := [some (.ref a), some (.ref c'), some (.int k tw), none, none, none, none, none]) (fs := [LF a vs, LF c' us]) G R.depth (by k_dflt k_is) (by k_dflt k_is) rfl (locs rfl) ?hZ ?hat ?hfs ?_ (by decide) rfl rfl rfl
  case hZ => exact ⟨by decide, by decide, by walk_at "m glo"⟩
  case hat => walk_at "m bat"
  case hfs => walk_at "m keepsF"
  intro env h₁ tk Z S
  have R' := R.deeper env
  walk_at "m go"
  refine compare_spec (x := x) (y := 0) S.gdh (R'.less (by decide)) W (S.listRow (.tail _ (.head _)) hI) (S.listRow (.tail _ (.tail _ (.head _))) hJ) hx (by lia) ?_
  rintro r h' tk' hk' ⟨t, rfl⟩
  replace S := S.ext hk'
  walk_at "m gos"
  · exact absurd (by assumption) (cmpI_zero x)
  rename_i _ f _ _ tm _ _ _ _ _ _ _ _ _ _ _ Sf
  have hmm : ∃ cc, cc = (b : Int) := ⟨_, rfl⟩
  walk_at "m toiter"
  refine forRangeS (σ := List Value × Nat × Tok × Option Value × Option Value) (digs b x).length (fun c => [some (.ref a), some (.ref c'), some (.int k tw), some (.ref f), some (.int 0 c.2.2.1), some (.int b tm), c.2.2.2.1, c.2.2.2.2])
    (fun c v => [some (.ref a), some (.ref c'), some (.int k tw), some (.ref f), some (.int 0 c.2.2.1), some (.int b tm), some v, c.2.2.2.2]) (fun c => [(f, listO c.1 c.2.1)]) (fun _ => [fun h => s.heap.StaysIn h, LF a vs, LF c' us])
    (fun i c => IntsAre c.1 (low b i x)) ([], 0, _, none, none) R'.hh ?hsm ?hn Z (by assumption) (by walk_at "m mem") (by walk_at "m sub") (by walk_at "m all") ?_ ?_ ?_ ?_
  case hsm => exact small_one (by lia) (by lia) (by lia) (by lia)
  case hn => rw [rangeSize_nat]; lia
  · simpa [low] using IntsAre.nil
  · intro c v; walk_at "m put"
  · rintro T i ⟨us', n, ct, o', o''⟩ t h tk I o hT hi hP S
    dsimp only at hP S
    have hlow := low_length b i x
    have hus : us'.length = i := by rw [hP.length, hlow]
    have e1 : (digs b x).getD ((i : Int)).toNat 0 = _ := digs_getD hb i x
    generalize hxd : x / b ^ i % b = xd at e1
    have e0 : (0 : Int) + (i : Int) * 1 = (i : Int) := by lia
    rw [e0] at S
    walk_at "m gos"
    all_goals try (exfalso; lia)
    refine hT _ _ (fturn_next (_, _, _, _, _) (by assumption) (by walk_at "m sub") (by walk_at "m all") ?_)
    rw [low_succ]
    refine hP.append ?_
    rw [e1, hxd, Int.sub_zero, Int.sub_zero]
    exact .cons _ _ .nil
  · rintro ⟨us', n, ct, o', o''⟩ h tk hP S
    dsimp only at hP S ⊢
    rw [← digs_low hb x] at hP
    walk_at "m gos"
    refine normal_spec (ns := digs b x) S.gdh (R'.less (by decide)) (S.mutRow (.head _) hP) (by lia) (fun hpos => ?_) ?_
    · have := digs_last hb x ((digs_len_pos hb).mp hpos); lia
    · rintro r h' tk' hk' ⟨l, rfl, hrow⟩
      dsimp only
      exact ret _ _ _ (stays_trans (S.at (.head _)) hk') ⟨l, rfl, hrow⟩

end

section
set_option maxHeartbeats 2000000 in
theorem signed_spec {w : World} {A : Around} {s : Shared} {l : Addr} {p : Bool} {ns : List Int} {Q E : Value → Shared → Prop} (G : Gd w s.heap) (R : Room A 2) (ha : IsRow s.heap l ns) (hx : ns.length ≤ 10000)
    (ret : Ret s (fun h r => IsSg h r (p && decide (0 < ns.length)) ns) Q) : wpAny (MM w) A (call (.ref 93) [.bool p, .ref l]) Q E s := by
  obtain ⟨vs, hL, hI⟩ := ha
  refine enter (names := ["is_below", "nat"]) (gls := [("len", .builtin "len")]) (vals := [some (.bool p), some (.ref l)]) (fs := [LF l vs]) G R.depth (by k_dflt k_is) (by k_dflt k_is) rfl (locs rfl) ?hZ ?hat ?hfs ?_ (by decide) rfl rfl rfl
  case hZ => exact ⟨by decide, by decide, by walk_at "m glo"⟩
  case hat => walk_at "m bat"
  case hfs => walk_at "m keepsF"
  intro env h₁ tk Z S
  cases p
  · walk_at "m gos"
    rename_i t _ S'
    exact ret _ _ _ (S'.at (.tail _ (.head _))) ⟨t, l, rfl, S'.at (.head _), S'.listRow (.tail _ (.tail _ (.head _))) hI⟩
  · walk_at "m gos"
    rename_i t _ S'
    refine ret _ _ _ (S'.at (.tail _ (.head _))) ⟨t, l, rfl, ?_, S'.listRow (.tail _ (.tail _ (.head _))) hI⟩
    have := S'.at (.head _)
    unfold TF at this
    simpa using this
set_option maxHeartbeats 2000000 in
theorem s_neg_spec {w : World} {A : Around} {s : Shared} {x : Value} {p : Bool} {ns : List Int} {Q E : Value → Shared → Prop} (G : Gd w s.heap) (R : Room A 4) (ha : IsSg s.heap x p ns) (hx : ns.length ≤ 10000)
    (ret : Ret s (fun h r => IsSg h r (!p && decide (0 < ns.length)) ns) Q) : wpAny (MM w) A (call (.ref 100) [x]) Q E s := by
  obtain ⟨t, l, rfl, hT, vs, hL, hI⟩ := ha
  refine enter (names := ["x"]) (gls := [("signed", .ref 93)]) (vals := [some (.ref t)]) (fs := [TF t [.bool p, .ref l], LF l vs]) G R.depth (by k_dflt k_is) (by k_dflt k_is) rfl (locs rfl) ?hZ ?hat ?hfs ?_ (by decide) rfl rfl rfl
  case hZ => exact ⟨by decide, by decide, by walk_at "m glo"⟩
  case hat => walk_at "m bat"
  case hfs => walk_at "m keepsF"
  intro env h₁ tk Z S
  have R' := R.deeper env
  walk_at "m gos"
  refine signed_spec (ns := ns) S.gdh (R'.less (by decide)) (S.listRow (.tail _ (.tail _ (.head _))) hI) hx ?_
  rintro r h' tk' hk' hr
  dsimp only
  exact ret _ _ _ (stays_trans (S.at (.head _)) hk') hr

set_option maxHeartbeats 2000000 in
theorem s_sign_spec {w : World} {A : Around} {s : Shared} {x : Value} {p : Bool} {ns : List Int} {Q E : Value → Shared → Prop} (G : Gd w s.heap) (R : Room A 4) (ha : IsSg s.heap x p ns) (hx : ns.length ≤ 10000)
    (ret : Ret s (fun _ r => ∃ v t, r = .int v t ∧ (v = 0 ↔ ns.length = 0)) Q) : wpAny (MM w) A (call (.ref 107) [x]) Q E s := by
  obtain ⟨t, l, rfl, hT, vs, hL, hI⟩ := ha
  refine enter (names := ["x"]) (gls := [("len", .builtin "len")]) (vals := [some (.ref t)]) (fs := [TF t [.bool p, .ref l], LF l vs]) G R.depth (by k_dflt k_is) (by k_dflt k_is) rfl (locs rfl) ?hZ ?hat ?hfs ?_ (by decide) rfl rfl rfl
  case hZ => exact ⟨by decide, by decide, by walk_at "m glo"⟩
  case hat => walk_at "m bat"
  case hfs => walk_at "m keepsF"
  intro env h₁ tk Z S
  have R' := R.deeper env
  walk_at "m gos"
  · exact ret _ _ _ (S.at (.head _)) ⟨_, _, rfl, by lia⟩
  · exact ret _ _ _ (S.at (.head _)) ⟨_, _, rfl, by lia⟩
  · exact ret _ _ _ (S.at (.head _)) ⟨_, _, rfl, by lia⟩
theorem St.addSg {w : World} {names : List Str} {L : Addr} {h : Heap} {vals : List (Option Value)} {fs : List HP} (S : St w names L h vals [] fs) {v : Value} {neg : Bool} {ns : List Int} (x : IsSg h v neg ns) : St w names L h vals [] (SgF v neg ns :: fs) := by
  obtain ⟨t, l, rfl, hT, vs, hL, hI⟩ := x
  have S1 := (S.addLF hL).addTF (vs := [.bool neg, .ref l]) hT
  exact S.add keepsSgF ⟨t, l, rfl, (S1.fs _ (.head _)).2, vs, (S1.fs _ (.tail _ (.head _))).2, hI⟩
/-- a sign and a size, opened -/
theorem St.openSg {w : World} {names : List Str} {L : Addr} {h : Heap} {vals : List (Option Value)} {fs : List HP} (S : St w names L h vals [] fs) {v : Value} {neg : Bool} {ns : List Int} (x : IsSg h v neg ns) :
    ∃ t l vs, v = .ref t ∧ IntsAre vs ns ∧ St w names L h vals [] (TF t [.bool neg, .ref l] :: LF l vs :: fs) := by
  obtain ⟨t, l, rfl, hT, vs, hL, hI⟩ := x
  exact ⟨t, l, vs, rfl, hI, (S.addLF hL).addTF (vs := [.bool neg, .ref l]) hT⟩
set_option maxHeartbeats 2000000 in
theorem s_add_spec {w : World} {A : Around} {s : Shared} {x y : Value} {p q : Bool} {k b m n : Nat} {tw : Tok} {Q E : Value → Shared → Prop} (G : Gd w s.heap) (R : Room A 8) (W : Wd k b) (ha : IsSg s.heap x p (digs b m)) (hc : IsSg s.heap y q (digs b n))
    (hmn : m + n ≤ 10000) (hs : p = q ∨ (m = 0 ∧ p = false ∧ q = true ∧ 0 < n)) (h0 : 0 < n)
    (ret : Ret s (fun h r => IsSg h r q (digs b (m + n))) Q) : wpAny (MM w) A (call (.ref 114) [x, y, .int k tw]) Q E s := by
  obtain ⟨t, l, rfl, hT, vs, hL, hI⟩ := ha
  obtain ⟨t', l', rfl, hT', vs', hL', hI'⟩ := hc
  have hb : 2 ≤ b := by have := W.b1; lia
  have hm : m ≤ 10000 := by lia
  have hn : n ≤ 10000 := by lia
  have hlm := digs_length_le hb m
  have hln := digs_length_le hb n
  have hlmn := digs_length_le hb (m + n)
  have hpos : 0 < (digs b (m + n)).length := (digs_len_pos hb).mpr (by lia)
  refine enter (names := ["x", "y", "w"]) (gls := [("signed", .ref 93), ("add", .ref 72), ("compare", .ref 65), ("sub", .ref 79)]) (vals := [some (.ref t), some (.ref t'), some (.int k tw)]) (fs := [TF t [.bool p, .ref l], LF l vs, TF t' [.bool q, .ref l'], LF l' vs']) G R.depth (by k_dflt k_is) (by k_dflt k_is) rfl (locs rfl) ?hZ ?hat ?hfs ?_ (by decide) rfl rfl rfl
  case hZ => exact ⟨by decide, by decide, by walk_at "m glo"⟩
  case hat => walk_at "m bat"
  case hfs => walk_at "m keepsF"
  intro env h₁ tk Z S
  have R' := R.deeper env
  rcases hs with rfl | ⟨rfl, rfl, rfl, hn0⟩
  · walk_at "m gos"
    all_goals try (exfalso; simp_all; done)
    refine add_spec (x := m) (y := n) S.gdh (R'.less (by decide)) W (S.listRow (.tail _ (.tail _ (.head _))) hI) (S.listRow (.tail _ (.tail _ (.tail _ (.tail _ (.head _))))) hI') hm hn ?_
    rintro r h' tk' hk' ⟨l2, rfl, hr2⟩
    replace S := S.ext hk'
    walk_at "m gos"
    refine signed_spec (ns := digs b (m + n)) S.gdh (R'.less (by decide)) hr2 (by lia) ?_
    rintro r h' tk' hk' hr
    dsimp only
    rw [decide_eq_true hpos, Bool.and_true] at hr
    exact ret _ _ _ (stays_trans (S.at (.head _)) hk') hr
  · walk_at "m gos"
    all_goals try (exfalso; simp_all; done)
    refine compare_spec (x := 0) (y := n) S.gdh (R'.less (by decide)) W (S.listRow (.tail _ (.tail _ (.head _))) hI) (S.listRow (.tail _ (.tail _ (.tail _ (.tail _ (.head _))))) hI') (by lia) hn ?_
    rintro r h' tk' hk' ⟨tc, rfl⟩
    replace S := S.ext hk'
    have hcmp : cmpI 0 n = -1 := by unfold cmpI; rw [if_pos hn0]
    rw [hcmp]
    walk_at "m gos"
    all_goals try (exfalso; lia)
    refine sub_spec (x := n) S.gdh (R'.less (by decide)) W (S.listRow (.tail _ (.tail _ (.tail _ (.tail _ (.head _))))) hI') (S.listRow (.tail _ (.tail _ (.head _))) hI) hn ?_
    rintro r h' tk' hk' ⟨l2, rfl, hr2⟩
    replace S := S.ext hk'
    walk_at "m gos"
    rw [Nat.zero_add] at hpos
    refine signed_spec (ns := digs b n) S.gdh (R'.less (by decide)) hr2 (by lia) ?_
    rintro r h' tk' hk' hr
    dsimp only
    rw [decide_eq_true hpos, Bool.and_true] at hr
    rw [Nat.zero_add] at ret
    exact ret _ _ _ (stays_trans (S.at (.head _)) hk') hr

end

section
set_option maxHeartbeats 2000000 in
theorem row_spec {w : World} {A : Around} {s : Shared} {k b n : Nat} {tw tn : Tok} {Q E : Value → Shared → Prop} (G : Gd w s.heap) (R : Room A 3) (W : Wd k b) (hn : n ≤ 10000)
    (ret : Ret s (fun h r => ∃ l, r = .ref l ∧ IsRow h l (digs b n)) Q) : wpAny (MM w) A (call (.ref 174) [.int n tn, .int k tw]) Q E s := by
  have hb : 2 ≤ b := by have := W.b1; lia
  have hb2 := W.b2
  have hwb := W.hb
  have hk := W.k2
  refine enter (names := ["value", "w", "found"]) (gls := []) (vals := [some (.int n tn), some (.int k tw), none]) (fs := []) G R.depth (by k_dflt k_is) (by k_dflt k_is) rfl (locs rfl) ?hZ ?hat ?hfs ?_ (by decide) rfl rfl rfl
  case hZ => exact ⟨by decide, by decide, by walk_at "m glo"⟩
  case hat => walk_at "m bat"
  case hfs => walk_at "m keepsF"
  intro env h₁ tk Z S
  have R' := R.deeper env
  walk_at "m go"
  rename_i f _ _ _ Sf
  refine whileS (σ := Nat × Tok × List Value × Nat × List Int) (fun c => [some (.int c.1 c.2.1), some (.int k tw), some (.ref f)]) (fun c => [(f, listO c.2.2.1 c.2.2.2.1)]) (fun _ => [fun h => s.heap.StaysIn h])
    (fun c => IntsAre c.2.2.1 c.2.2.2.2 ∧ c.2.2.2.2 ++ digs b c.1 = digs b n ∧ c.2.2.2.2.length + c.1 ≤ n) (fun c => c.1) (n, tn, [], 0, [])
    (by assumption) (by walk_at "m sub") (by walk_at "m all") ⟨.nil, by simp, by simp⟩ ?_
  rintro T ⟨v, tv, us, j, ns⟩ h tk hT ⟨h0, h1, h2⟩ S
  dsimp only at h0 h1 h2 S ⊢
  have hus := h0.length
  walk_at "m gos"
  · rename_i S'
    have hvp : 0 < v := by lia
    rw [← Int.natCast_ediv, ← Int.natCast_emod] at S'
    refine hT _ _ (turn_next (v / b, _, _, _, ns ++ [((v % b : Nat) : Int)]) S' (by walk_at "m sub") (by walk_at "m all") ⟨h0.append (.cons _ _ .nil), ?_, ?_⟩ (Nat.div_lt_self hvp (by lia)))
    · rw [← h1, digs_pos hb hvp]; simp
    · have := Nat.div_lt_self hvp (show 1 < b by lia)
      simp only [List.length_append, List.length_cons, List.length_nil]; lia
  · have hv0 : v = 0 := by lia
    subst hv0
    rw [digs_zero, List.append_nil] at h1
    subst h1
    exact ret _ _ _ (S.at (.head _)) ⟨_, rfl, S.mutRow (.head _) h0⟩
theorem worth_fold (b : Nat) (ns : List Int) : worth b ns = (ns.reverse).foldl (fun (a x : Int) => a * (b : Int) + x) 0 := by
  unfold worth
  rw [List.foldl_reverse]
theorem take_fold (b : Nat) (ms : List Int) (i : Nat) (h : i < ms.length) : (ms.take (i + 1)).foldl (fun (a x : Int) => a * (b : Int) + x) 0 = (ms.take i).foldl (fun (a x : Int) => a * (b : Int) + x) 0 * b + ms.getD i 0 := by
  rw [List.take_add_one, List.getElem?_eq_getElem h, List.getD_eq_getElem?_getD, List.getElem?_eq_getElem h, Option.toList_some, List.foldl_append]
  rfl
theorem pick_rev {vs : List Value} {ns : List Int} (hi : IntsAre vs ns) : pickNums ns none none (some (-1)) = ns.reverse := by
  have h1 := hi.pick none none (some (-1))
  rw [krv_pick] at h1
  dsimp only at h1
  exact IntsAre.inj h1 hi.reverse
set_option maxHeartbeats 2000000 in
theorem whole_spec {w : World} {A : Around} {s : Shared} {l : Addr} {k b n : Nat} {tw : Tok} {Q E : Value → Shared → Prop} (G : Gd w s.heap) (R : Room A 3) (W : Wd k b) (ha : IsRow s.heap l (digs b n)) (hn : n ≤ 10000)
    (ret : Ret s (fun _ r => ∃ t, r = .int n t) Q) : wpAny (MM w) A (call (.ref 181) [.ref l, .int k tw]) Q E s := by
  obtain ⟨vs, hL, hI⟩ := ha
  have hb : 2 ≤ b := by have := W.b1; lia
  have hb2 := W.b2
  have hwb := W.hb
  have hk := W.k2
  have hlen := digs_length_le hb n
  refine enter (names := ["row", "w", "value", "limb"]) (gls := []) (vals := [some (.ref l), some (.int k tw), none, none]) (fs := [LF l vs]) G R.depth (by k_dflt k_is) (by k_dflt k_is) rfl (locs rfl) ?hZ ?hat ?hfs ?_ (by decide) rfl rfl rfl
  case hZ => exact ⟨by decide, by decide, by walk_at "m glo"⟩
  case hat => walk_at "m bat"
  case hfs => walk_at "m keepsF"
  intro env h₁ tk Z S
  have R' := R.deeper env
  walk_at "m go"
  walk_at "m toiter"
  rename_i D ws _ _ hJ
  rw [pick_rev hI] at hJ
  refine forListS (ns := (digs b n).reverse) (σ := Int × Tok × Option Value) (fun c => [some (.ref l), some (.int k tw), some (.int c.1 c.2.1), c.2.2]) (fun c v => [some (.ref l), some (.int k tw), some (.int c.1 c.2.1), some v])
    (fun _ => []) (fun _ => [LF D ws, fun h => s.heap.StaysIn h]) (fun i c => c.1 = ((digs b n).reverse.take i).foldl (fun (a x : Int) => a * (b : Int) + x) 0) (0, _, none) R'.hh hJ Z (by assumption) (fun _ => .head _) (by walk_at "m sub") (by walk_at "m all") rfl ?_ ?_ ?_
  · intro c v; walk_at "m put"
  · rintro T i ⟨v, tv, o⟩ t h tk I ob hT hi hP S
    dsimp only at hP S
    walk_at "m gos"
    rename_i S'
    refine hT _ _ (fturn_next (_, _, _) S' (by walk_at "m sub") (by walk_at "m all") ?_)
    show _ = _
    dsimp only
    rw [take_fold b _ _ hi, ← hP]
  · rintro ⟨v, tv, o⟩ h tk hP S
    dsimp only at hP S ⊢
    rw [List.take_length, ← worth_fold, worth_digs hb] at hP
    subst hP
    walk_at "m gos"
    exact ret _ _ _ (S.at (.tail _ (.head _))) ⟨_, rfl⟩

end

section
set_option maxHeartbeats 2000000 in
theorem times_spec {w : World} {A : Around} {s : Shared} {l l' : Addr} {k b m n : Nat} {tw : Tok} {Q E : Value → Shared → Prop} (G : Gd w s.heap) (R : Room A 5) (W : Wd k b) (ha : IsRow s.heap l (digs b m)) (hc : IsRow s.heap l' (digs b n))
    (hm : m ≤ 10000) (hn : n ≤ 10000) (hmn : m * n ≤ 10000)
    (ret : Ret s (fun h r => ∃ l, r = .ref l ∧ IsRow h l (digs b (m * n))) Q) : wpAny (MM w) A (call (.ref 193) [.ref l, .ref l', .int k tw]) Q E s := by
  obtain ⟨vs, hL, hI⟩ := ha
  obtain ⟨us, hM, hJ⟩ := hc
  refine enter (names := ["one", "other", "w"]) (gls := [("_law_row", .ref 174), ("_law_whole", .ref 181)]) (vals := [some (.ref l), some (.ref l'), some (.int k tw)]) (fs := [LF l vs, LF l' us]) G R.depth (by k_dflt k_is) (by k_dflt k_is) rfl (locs rfl) ?hZ ?hat ?hfs ?_ (by decide) rfl rfl rfl
  case hZ => exact ⟨by decide, by decide, by walk_at "m glo"⟩
  case hat => walk_at "m bat"
  case hfs => walk_at "m keepsF"
  intro env h₁ tk Z S
  have R' := R.deeper env
  walk_at "m gos"
  refine whole_spec (n := m) S.gdh (R'.less (by decide)) W (S.listRow (.tail _ (.head _)) hI) hm ?_
  rintro r h' tk' hk' ⟨t1, rfl⟩
  replace S := S.ext hk'
  walk_at "m gos"
  refine whole_spec (n := n) S.gdh (R'.less (by decide)) W (S.listRow (.tail _ (.tail _ (.head _))) hJ) hn ?_
  rintro r h' tk' hk' ⟨t2, rfl⟩
  replace S := S.ext hk'
  walk_at "m gos"
  rw [← Int.natCast_mul]
  refine row_spec (n := m * n) S.gdh (R'.less (by decide)) W hmn ?_
  rintro r h' tk' hk' ⟨l3, rfl, hr⟩
  exact ret _ _ _ (stays_trans (S.at (.head _)) hk') ⟨_, rfl, hr⟩
def IsPr (h : Heap) (r : Value) (P P' : Heap → Value → Prop) : Prop := ∃ t u v, r = .ref t ∧ IsTup h t [u, v].toArray ∧ P h u ∧ P' h v
set_option maxHeartbeats 2000000 in
theorem parts_spec {w : World} {A : Around} {s : Shared} {l l' : Addr} {k b m n : Nat} {tw : Tok} {Q E : Value → Shared → Prop} (G : Gd w s.heap) (R : Room A 5) (W : Wd k b) (ha : IsRow s.heap l (digs b m)) (hc : IsRow s.heap l' (digs b n))
    (hm : m ≤ 10000) (hn : n ≤ 10000) (h0 : 0 < n)
    (ret : Ret s (fun h r => IsPr h r (fun h u => ∃ l, u = .ref l ∧ IsRow h l (digs b (m / n))) (fun h u => ∃ l, u = .ref l ∧ IsRow h l (digs b (m % n)))) Q) : wpAny (MM w) A (call (.ref 200) [.ref l, .ref l', .int k tw]) Q E s := by
  obtain ⟨vs, hL, hI⟩ := ha
  obtain ⟨us, hM, hJ⟩ := hc
  refine enter (names := ["one", "other", "w", "here", "there"]) (gls := [("_law_row", .ref 174), ("_law_whole", .ref 181)]) (vals := [some (.ref l), some (.ref l'), some (.int k tw), none, none]) (fs := [LF l vs, LF l' us]) G R.depth (by k_dflt k_is) (by k_dflt k_is) rfl (locs rfl) ?hZ ?hat ?hfs ?_ (by decide) rfl rfl rfl
  case hZ => exact ⟨by decide, by decide, by walk_at "m glo"⟩
  case hat => walk_at "m bat"
  case hfs => walk_at "m keepsF"
  intro env h₁ tk Z S
  have R' := R.deeper env
  walk_at "m gos"
  refine whole_spec (n := m) S.gdh (R'.less (by decide)) W (S.listRow (.tail _ (.head _)) hI) hm ?_
  rintro r h' tk' hk' ⟨t1, rfl⟩
  replace S := S.ext hk'
  walk_at "m gos"
  refine whole_spec (n := n) S.gdh (R'.less (by decide)) W (S.listRow (.tail _ (.tail _ (.head _))) hJ) hn ?_
  rintro r h' tk' hk' ⟨t2, rfl⟩
  replace S := S.ext hk'
  walk_at "m gos"
  rename_i S' _ _
  clear S
  rw [← Int.natCast_ediv]
  refine row_spec (n := m / n) S'.gdh (R'.less (by decide)) W (Nat.le_trans (Nat.div_le_self _ _) hm) ?_
  rintro r h' tk' hk' ⟨l3, rfl, vs3, hL3, hI3⟩
  replace S' := (S'.ext hk').addLF hL3
  walk_at "m gos"
  rw [← Int.natCast_emod]
  refine row_spec (n := m % n) S'.gdh (R'.less (by decide)) W (Nat.le_trans (Nat.mod_le _ _) hm) ?_
  rintro r h' tk' hk' ⟨l4, rfl, vs4, hL4, hI4⟩
  replace S' := (S'.ext hk').addLF hL4
  walk_at "m gos"
  rename_i S''
  exact ret _ _ _ (S''.at (by walk_at "m mem")) ⟨_, _, _, rfl, S''.at (.head _), ⟨_, rfl, S''.listRow (.tail _ (.tail _ (.head _))) hI3⟩, ⟨_, rfl, S''.listRow (.tail _ (.head _)) hI4⟩⟩
set_option maxHeartbeats 2000000 in
theorem s_sub_spec {w : World} {A : Around} {s : Shared} {x y : Value} {p q : Bool} {k b m n : Nat} {tw : Tok} {Q E : Value → Shared → Prop} (G : Gd w s.heap) (R : Room A 10) (W : Wd k b) (ha : IsSg s.heap x p (digs b m)) (hc : IsSg s.heap y q (digs b n))
    (hmn : m + n ≤ 10000) (hs : p = !q ∨ (m = 0 ∧ p = false ∧ q = false)) (h0 : 0 < n)
    (ret : Ret s (fun h r => IsSg h r (!q) (digs b (m + n))) Q) : wpAny (MM w) A (call (.ref 121) [x, y, .int k tw]) Q E s := by
  have hb : 2 ≤ b := by have := W.b1; lia
  have hln := digs_length_le hb n
  have hpos : 0 < (digs b n).length := (digs_len_pos hb).mpr h0
  refine enter (names := ["x", "y", "w"]) (gls := [("s_add", .ref 114), ("s_neg", .ref 100)]) (vals := [some x, some y, some (.int k tw)]) (fs := [SgF x p (digs b m), SgF y q (digs b n)]) G R.depth (by k_dflt k_is) (by k_dflt k_is) rfl (locs rfl) ?hZ ?hat ?hfs ?_ (by decide) rfl rfl rfl
  case hZ => exact ⟨by decide, by decide, by walk_at "m glo"⟩
  case hat => walk_at "m bat"
  case hfs => walk_at "m keepsF"
  intro env h₁ tk Z S
  have R' := R.deeper env
  walk_at "m gos"
  refine s_neg_spec (p := q) (ns := digs b n) S.gdh (R'.less (by decide)) (S.at (.tail _ (.tail _ (.head _)))) (by lia) ?_
  rintro r h' tk' hk' hr
  rw [decide_eq_true hpos, Bool.and_true] at hr
  replace S := (S.ext hk').addSg hr
  walk_at "m gos"
  refine s_add_spec (p := p) (q := !q) (m := m) (n := n) S.gdh (R'.less (by decide)) W (S.at (.tail _ (.tail _ (.head _)))) (S.at (.head _)) hmn ?_ h0 ?_
  · rcases hs with h | ⟨h1, h2, h3⟩
    · exact .inl h
    · exact .inr ⟨h1, h2, by rw [h3]; rfl, h0⟩
  · rintro r h' tk' hk' hr
    exact ret _ _ _ (stays_trans (S.at (.tail _ (.head _))) hk') hr
set_option maxHeartbeats 2000000 in
theorem s_mul_spec {w : World} {A : Around} {s : Shared} {x y : Value} {p q : Bool} {k b m n : Nat} {tw : Tok} {Q E : Value → Shared → Prop} (G : Gd w s.heap) (R : Room A 10) (W : Wd k b) (ha : IsSg s.heap x p (digs b m)) (hc : IsSg s.heap y q (digs b n))
    (hm : m ≤ 10000) (hn : n ≤ 10000) (hmn : m * n ≤ 10000) (h0 : 0 < m * n)
    (ret : Ret s (fun h r => IsSg h r (p != q) (digs b (m * n))) Q) : wpAny (MM w) A (call (.ref 128) [x, y, .int k tw, .ref 193]) Q E s := by
  obtain ⟨t, l, rfl, hT, vs, hL, hI⟩ := ha
  obtain ⟨t', l', rfl, hT', vs', hL', hI'⟩ := hc
  have hb : 2 ≤ b := by have := W.b1; lia
  have hlmn := digs_length_le hb (m * n)
  have hpos : 0 < (digs b (m * n)).length := (digs_len_pos hb).mpr (by lia)
  refine enter (names := ["x", "y", "w", "mul"]) (gls := [("signed", .ref 93)]) (vals := [some (.ref t), some (.ref t'), some (.int k tw), some (.ref 193)]) (fs := [TF t [.bool p, .ref l], LF l vs, TF t' [.bool q, .ref l'], LF l' vs']) G R.depth (by k_dflt k_is) (by k_dflt k_is) rfl (locs rfl) ?hZ ?hat ?hfs ?_ (by decide) rfl rfl rfl
  case hZ => exact ⟨by decide, by decide, by walk_at "m glo"⟩
  case hat => walk_at "m bat"
  case hfs => walk_at "m keepsF"
  intro env h₁ tk Z S
  have R' := R.deeper env
  walk_at "m gos"
  refine times_spec (m := m) (n := n) S.gdh (R'.less (by decide)) W (S.listRow (.tail _ (.tail _ (.head _))) hI) (S.listRow (.tail _ (.tail _ (.tail _ (.tail _ (.head _))))) hI') hm hn hmn ?_
  rintro r h' tk' hk' ⟨l2, rfl, hr2⟩
  replace S := S.ext hk'
  walk_at "m gos"
  refine signed_spec (p := (p != q)) (ns := digs b (m * n)) S.gdh (R'.less (by decide)) hr2 (by lia) ?_
  rintro r h' tk' hk' hr
  dsimp only
  rw [decide_eq_true hpos, Bool.and_true] at hr
  exact ret _ _ _ (stays_trans (S.at (.head _)) hk') hr

end

section
theorem IsSg.of {w : World} {names : List Str} {L : Addr} {h : Heap} {vals : List (Option Value)} {ms : List (Addr × Obj)} {fs : List HP} (S : St w names L h vals ms fs) {t l : Addr} {neg : Bool} {vs : List Value} {ns : List Int} (h1 : TF t [.bool neg, .ref l] ∈ fs) (h2 : LF l vs ∈ fs) (hi : IntsAre vs ns) : IsSg h (.ref t) neg ns :=
  ⟨t, l, rfl, S.at h1, vs, S.at h2, hi⟩
set_option maxHeartbeats 2000000 in
theorem tdiv_spec {w : World} {A : Around} {s : Shared} {x y : Value} {k b m n : Nat} {tw : Tok} {Q E : Value → Shared → Prop} (G : Gd w s.heap) (R : Room A 10) (W : Wd k b) (ha : IsSg s.heap x false (digs b m)) (hc : IsSg s.heap y false (digs b n))
    (hm : m ≤ 10000) (hn : n ≤ 10000) (h0 : 0 < n)
    (ret : Ret s (fun h r => IsPr h r (fun h u => IsSg h u false (digs b (m / n))) (fun h u => IsSg h u false (digs b (m % n)))) Q) : wpAny (MM w) A (call (.ref 135) [x, y, .int k tw, .ref 200]) Q E s := by
  obtain ⟨t, l, rfl, hT, vs, hL, hI⟩ := ha
  obtain ⟨t', l', rfl, hT', vs', hL', hI'⟩ := hc
  have hb : 2 ≤ b := by have := W.b1; lia
  have hln := digs_length_le hb n
  have hpos : 0 < (digs b n).length := (digs_len_pos hb).mpr h0
  have hlq := digs_length_le hb (m / n)
  have hlr := digs_length_le hb (m % n)
  have hq := Nat.div_le_self m n
  have hr := Nat.mod_le m n
  refine enter (names := ["x", "y", "w", "divrem", "quotient", "rest"]) (gls := [("len", .builtin "len"), ("signed", .ref 93)]) (vals := [some (.ref t), some (.ref t'), some (.int k tw), some (.ref 200), none, none]) (fs := [TF t [.bool false, .ref l], LF l vs, TF t' [.bool false, .ref l'], LF l' vs']) G R.depth (by k_dflt k_is) (by k_dflt k_is) rfl (locs rfl) ?hZ ?hat ?hfs ?_ (by decide) rfl rfl rfl
  case hZ => exact ⟨by decide, by decide, by walk_at "m glo"⟩
  case hat => walk_at "m bat"
  case hfs => walk_at "m keepsF"
  intro env h₁ tk Z S
  have R' := R.deeper env
  walk1
  refine cutE (fun s' => ∃ h' tk', s' = { s with heap := h', toks := tk' } ∧ St w ["x", "y", "w", "divrem", "quotient", "rest"] env.locals h' [some (.ref t), some (.ref t'), some (.int k tw), some (.ref 200), none, none] [] [fun h => s.heap.StaysIn h, TF t [.bool false, .ref l], LF l vs, TF t' [.bool false, .ref l'], LF l' vs']) ?_ ?_
  · walk1
    walk1
    repeat (walk_at "m not raise"; walk1; try dsimp only)
    · exfalso; lia
    · walk_at "m gos"
      exact ⟨rfl, _, _, rfl, by assumption⟩
  clear S
  rintro _ ⟨h', tk', rfl, S⟩
  dsimp only
  walk_at "m go"
  refine parts_spec (m := m) (n := n) S.gdh (R'.less (by decide)) W (S.listRow (.tail _ (.tail _ (.head _))) hI) (S.listRow (.tail _ (.tail _ (.tail _ (.tail _ (.head _))))) hI') hm hn h0 ?_
  rintro r h' tk' hk' ⟨t3, u, v, rfl, hT3, ⟨l3, rfl, vs3, hL3, hI3⟩, ⟨l4, rfl, vs4, hL4, hI4⟩⟩
  replace S := (((S.ext hk').addLF hL3).addLF hL4).addTF (vs := [.ref l3, .ref l4]) hT3
  walk_at "m go"
  rename_i S'
  clear S
  refine signed_spec (ns := digs b (m / n)) S'.gdh (R'.less (by decide)) (S'.listRow (.tail _ (.tail _ (.head _))) hI3) (by lia) ?_
  rintro r h' tk' hk' hr1
  replace S' := (S'.ext hk').addSg hr1
  walk_at "m go"
  refine signed_spec (ns := digs b (m % n)) S'.gdh (R'.less (by decide)) (S'.listRow (.tail _ (.tail _ (.head _))) hI4) (by lia) ?_
  rintro r h' tk' hk' hr2
  replace S' := (S'.ext hk').addSg hr2
  walk_at "m go"
  rename_i S''
  exact ret _ _ _ (S''.at (by walk_at "m mem")) ⟨_, _, _, rfl, S''.at (.head _), S''.at (.tail _ (.tail _ (.head _))), S''.at (.tail _ (.head _))⟩

set_option maxHeartbeats 2000000 in
theorem fdiv_spec {w : World} {A : Around} {s : Shared} {x y : Value} {k b m n : Nat} {tw : Tok} {Q E : Value → Shared → Prop} (G : Gd w s.heap) (R : Room A 12) (W : Wd k b) (ha : IsSg s.heap x false (digs b m)) (hc : IsSg s.heap y false (digs b n))
    (hm : m ≤ 10000) (hn : n ≤ 10000) (h0 : 0 < n)
    (ret : Ret s (fun h r => IsPr h r (fun h u => IsSg h u false (digs b (m / n))) (fun h u => IsSg h u false (digs b (m % n)))) Q) : wpAny (MM w) A (call (.ref 142) [x, y, .int k tw, .ref 200]) Q E s := by
  obtain ⟨t, l, rfl, hT, vs, hL, hI⟩ := ha
  obtain ⟨t', l', rfl, hT', vs', hL', hI'⟩ := hc
  have hb : 2 ≤ b := by have := W.b1; lia
  have hlr := digs_length_le hb (m % n)
  have hr := Nat.mod_le m n
  refine enter (names := ["x", "y", "w", "divrem", "quotient", "rest"]) (gls := [("len", .builtin "len"), ("tdiv", .ref 135)]) (vals := [some (.ref t), some (.ref t'), some (.int k tw), some (.ref 200), none, none]) (fs := [TF t [.bool false, .ref l], LF l vs, TF t' [.bool false, .ref l'], LF l' vs']) G R.depth (by k_dflt k_is) (by k_dflt k_is) rfl (locs rfl) ?hZ ?hat ?hfs ?_ (by decide) rfl rfl rfl
  case hZ => exact ⟨by decide, by decide, by walk_at "m glo"⟩
  case hat => walk_at "m bat"
  case hfs => walk_at "m keepsF"
  intro env h₁ tk Z S
  have R' := R.deeper env
  walk_at "m go"
  refine tdiv_spec (m := m) (n := n) S.gdh (R'.less (by decide)) W (IsSg.of S (.tail _ (.head _)) (.tail _ (.tail _ (.head _))) hI) (IsSg.of S (.tail _ (.tail _ (.tail _ (.head _)))) (.tail _ (.tail _ (.tail _ (.tail _ (.head _))))) hI') hm hn h0 ?_
  rintro r h' tk' hk' ⟨t3, u, v, rfl, hT3, hu, hv⟩
  replace S := ((S.ext hk').addSg hu).addTF (vs := [u, v]) hT3
  obtain ⟨t4, l4, vs4, rfl, hI4, S⟩ := S.openSg hv
  walk_at "m gos"
  all_goals try (exfalso; simp_all; done)
  all_goals
    rename_i S'
    exact ret _ _ _ (S'.at (by walk_at "m mem")) ⟨_, _, _, rfl, S'.at (.head _), S'.at (P := SgF u false _) (by walk_at "m mem"), IsSg.of S' (by walk_at "m mem") (by walk_at "m mem") hI4⟩

end

section
theorem itemsInt {a b : Int} {t u : Tok} : IntsAre [Value.int a t, Value.int b u] [a, b] := .cons _ _ (.cons _ _ .nil)
set_option maxHeartbeats 2000000 in
theorem common_spec {w : World} {A : Around} {s : Shared} {m : Int} {n : Nat} {t u : Tok} {Q E : Value → Shared → Prop} (G : Gd w s.heap) (R : Room A 3) (hm : m.natAbs ≤ 100000) (hn : n ≤ 100000)
    (ret : Ret s (fun _ r => ∃ t, r = .int ((Int.gcd m n : Nat) : Int) t) Q) : wpAny (MM w) A (call (.ref 207) [.int m t, .int n u]) Q E s := by
  refine enter (names := ["here", "there"]) (gls := [("abs", .builtin "abs")]) (vals := [some (.int m t), some (.int n u)]) (fs := []) G R.depth (by k_dflt k_is) (by k_dflt k_is) rfl (locs rfl) ?hZ ?hat ?hfs ?_ (by decide) rfl rfl rfl
  case hZ => exact ⟨by decide, by decide, by walk_at "m glo"⟩
  case hat => walk_at "m bat"
  case hfs => walk_at "m keepsF"
  intro env h₁ tk Z S
  have R' := R.deeper env
  walk_at "m go"
  refine whileS (σ := Int × Nat × Tok × Tok) (fun c => [some (.int c.1 c.2.2.1), some (.int c.2.1 c.2.2.2)]) (fun c => []) (fun _ => [fun h => s.heap.StaysIn h])
    (fun c => Int.gcd c.1 c.2.1 = Int.gcd m n ∧ c.2.1 ≤ 100000) (fun c => c.2.1) (m, n, t, u)
    (by assumption) (by walk_at "m sub") (by walk_at "m all") ⟨rfl, hn⟩ ?_
  rintro T ⟨x, y, tx, ty⟩ h tk hT ⟨h0, h1⟩ S
  dsimp only at h0 h1 S ⊢
  walk_at "m gos"
  · rename_i S'
    have hy : 0 < y := by lia
    have hmod := Int.emod_lt_of_pos x (show (0 : Int) < (y : Int) by lia)
    have hmod0 := Int.emod_nonneg x (show (y : Int) ≠ 0 by lia)
    obtain ⟨z, hz⟩ := Int.eq_ofNat_of_zero_le hmod0
    rw [hz] at S'
    refine hT _ _ (turn_next ((y : Int), z, _, _) (S'.weak (by walk_at "m sub") (fs' := [fun h => s.heap.StaysIn h]) (by walk_at "m all")) (by walk_at "m sub") (by walk_at "m all") ⟨?_, ?_⟩ ?_)
    · dsimp only
      rw [← h0, show ((z : Nat) : Int) = x % (y : Int) from hz.symm]
      have e : x % (y : Int) = x + (y : Int) * (-(x / (y : Int))) := by
        have := Int.emod_add_mul_ediv x y
        rw [Int.mul_neg]; lia
      rw [e, Int.gcd_add_mul_left_right, Int.gcd_comm]
    · dsimp only; lia
    · dsimp only; lia
  · have hy : y = 0 := by lia
    subst hy
    rw [← h0] at ret
    have e : Int.gcd x ((0 : Nat) : Int) = x.natAbs := by simp
    rw [e] at ret
    exact ret _ _ _ (S.at (.head _)) ⟨_, rfl⟩
set_option maxHeartbeats 2000000 in
theorem inverse_spec {w : World} {A : Around} {s : Shared} {n m : Nat} {t u : Tok} {Q E : Value → Shared → Prop} (G : Gd w s.heap) (R : Room A 3) (hm : m ≤ 10000) (hm1 : 1 < m) (hn : n ≤ 10000) (hg : Int.gcd n m = 1)
    (ret : Ret s (fun _ r => ∃ (v : Nat) (t : Tok), r = .int v t ∧ v < m ∧ (m : Int) ∣ v * n - 1) Q) : wpAny (MM w) A (call (.ref 214) [.int n t, .int m u]) Q E s := by
  refine enter (names := ["number", "modulus", "one", "other", "here", "there"]) (gls := []) (vals := [some (.int n t), some (.int m u), none, none, none, none]) (fs := []) G R.depth (by k_dflt k_is) (by k_dflt k_is) rfl (locs rfl) ?hZ ?hat ?hfs ?_ (by decide) rfl rfl rfl
  case hZ => exact ⟨by decide, by decide, by walk_at "m glo"⟩
  case hat => walk_at "m bat"
  case hfs => walk_at "m keepsF"
  intro env h₁ tk Z S
  have R' := R.deeper env
  walk_at "m go"
  rw [← Int.natCast_emod] at *
  refine whileS (σ := Nat × Nat × Int × Int × Tok × Tok × Tok × Tok) (fun c => [some (.int n t), some (.int m u), some (.int c.1 c.2.2.2.2.1), some (.int c.2.1 c.2.2.2.2.2.1), some (.int c.2.2.1 c.2.2.2.2.2.2.1), some (.int c.2.2.2.1 c.2.2.2.2.2.2.2)]) (fun c => []) (fun _ => [fun h => s.heap.StaysIn h])
    (fun c => Nat.gcd c.1 c.2.1 = 1 ∧ c.1 ≤ 10000 ∧ c.2.1 ≤ 10000 ∧ (m : Int) ∣ c.2.2.1 * n - c.1 ∧ (m : Int) ∣ c.2.2.2.1 * n - c.2.1) (fun c => c.2.1) (m, n % m, 0, 1, _, _, _, _)
    (by assumption) (by walk_at "m sub") (by walk_at "m all") ⟨?_, ?_, ?_, ?_, ?_⟩ ?_
  · show Nat.gcd m (n % m) = 1
    rw [Nat.gcd_comm, ← Nat.gcd_rec, Nat.gcd_comm]
    exact hg
  · exact hm
  · show n % m ≤ 10000
    have := Nat.mod_le n m
    lia
  · show (m : Int) ∣ 0 * n - m
    rw [Int.zero_mul, Int.zero_sub]
    exact (Int.dvd_neg).mpr (Int.dvd_refl _)
  · show (m : Int) ∣ 1 * n - ((n % m : Nat) : Int)
    rw [Int.one_mul, Int.natCast_emod]
    exact Int.dvd_self_sub_emod
  rintro T ⟨x, y, p, q, t1, t2, t3, t4⟩ h tk hT ⟨h0, h1, h2, h3, h4⟩ S
  dsimp only at h0 h1 h2 h3 h4 S ⊢
  by_cases hy : y = 0
  · subst hy
    have hx : x = 1 := by simpa using h0
    subst hx
    walk_at "m gos"
    have hv := Int.emod_lt_of_pos p (show (0 : Int) < (m : Int) by lia)
    have hv0 := Int.emod_nonneg p (show (m : Int) ≠ 0 by lia)
    obtain ⟨z, hz⟩ := Int.eq_ofNat_of_zero_le hv0
    rw [hz]
    refine ret _ _ _ (S.at (.head _)) ⟨z, _, rfl, by lia, ?_⟩
    have e : ((z : Nat) : Int) * n - 1 = (p * n - ((1 : Nat) : Int)) - (p - p % m) * n := by
      rw [show ((z : Nat) : Int) = p % (m : Int) from hz.symm]; grind
    rw [e]
    exact Int.dvd_sub h3 (Int.dvd_mul_of_dvd_left Int.dvd_self_sub_emod)
  · have hxy : ((x : Int) / (y : Int)) ≤ 10000 ∧ 0 ≤ ((x : Int) / (y : Int)) := by
      rw [← Int.natCast_ediv]
      exact ⟨Int.ofNat_le.mpr (Nat.le_trans (Nat.div_le_self x y) h1), Int.natCast_nonneg _⟩
    walk_at "m gos"
    · rename_i S'
      rw [← Int.natCast_emod] at S'
      refine hT _ _ (turn_next (y, x % y, q, _, _, _, _, _) (S'.weak (fs' := [fun h => s.heap.StaysIn h]) (by walk_at "m sub") (by walk_at "m all")) (by walk_at "m sub") (by walk_at "m all") ⟨?_, ?_, ?_, ?_, ?_⟩ ?_)
      · show Nat.gcd y (x % y) = 1
        rw [Nat.gcd_comm, ← Nat.gcd_rec, Nat.gcd_comm]
        exact h0
      · exact h2
      · show x % y ≤ 10000
        have := Nat.mod_le x y
        lia
      · exact h4
      · dsimp only
        have e : (p - (x : Int) / (y : Int) * q) * n - ((x % y : Nat) : Int) = (p * n - x) - ((x : Int) / (y : Int)) * (q * n - y) := by
          rw [Int.natCast_emod]
          have := Int.emod_add_mul_ediv x y
          grind
        rw [e]
        exact Int.dvd_sub h3 (Int.dvd_mul_of_dvd_right h4)
      · exact Nat.mod_lt _ (by lia)
    · exfalso; lia

set_option maxHeartbeats 2000000 in
theorem there_spec {w : World} {A : Around} {s : Shared} {v m n : Nat} {t u tn : Tok} {Q E : Value → Shared → Prop} (G : Gd w s.heap) (R : Room A 3) (hv : v ≤ 10000) (hm : m ≤ 10000) (hm1 : 0 < m) (hn : n ≤ 10000)
    (hno : ∀ d : Nat, 1 ≤ d → d ≤ n → ¬ min ((v * d : Int) % m) (m - (v * d : Int) % m) ≤ n)
    (ret : Ret s (fun _ r => r = .bool false) Q) : wpAny (MM w) A (call (.ref 228) [.int v t, .int m u, .int n tn]) Q E s := by
  refine enter (names := ["value", "modulus", "bound", "below", "rest"]) (gls := [("range", .type "range"), ("min", .builtin "min")]) (vals := [some (.int v t), some (.int m u), some (.int n tn), none, none]) (fs := []) G R.depth (by k_dflt k_is) (by k_dflt k_is) rfl (locs rfl) ?hZ ?hat ?hfs ?_ (by decide) rfl rfl rfl
  case hZ => exact ⟨by decide, by decide, by walk_at "m glo"⟩
  case hat => walk_at "m bat"
  case hfs => walk_at "m keepsF"
  intro env h₁ tk Z S
  have R' := R.deeper env
  walk_at "m go"
  walk_at "m toiter"
  refine forRangeS (σ := Option Value × Option Value) n (fun c => [some (.int v t), some (.int m u), some (.int n tn), c.1, c.2]) (fun c x => [some (.int v t), some (.int m u), some (.int n tn), some x, c.2])
    (fun _ => []) (fun _ => [fun h => s.heap.StaysIn h]) (fun _ _ => True) (none, none) R'.hh ?hsm ?hn Z (by assumption) (by walk_at "m mem") (by walk_at "m sub") (by walk_at "m all") trivial ?_ ?_ ?_
  case hsm => exact small_one (by lia) (by lia) (by lia) (by lia)
  case hn => rw [rangeSize_nat]; lia
  · intro c v; walk_at "m put"
  · rintro T i ⟨o, o'⟩ td h tk I ob hT hi hP S
    dsimp only at S
    have e0 : (1 : Int) + (i : Int) * 1 = ((i + 1 : Nat) : Int) := by lia
    rw [e0] at S
    have hno' := hno (i + 1) (by lia) (by lia)
    walk_at "m gos"
    · rename_i hle
      exact absurd hle hno'
    · rename_i S' _
      exact hT _ _ (fturn_next (_, _) S' (by walk_at "m sub") (by walk_at "m all") trivial)
  · rintro ⟨o, o'⟩ h tk hP S
    dsimp only at S ⊢
    walk_at "m gos"
    exact ret _ _ _ (S.at (.head _)) rfl
set_option maxHeartbeats 2000000 in
theorem take_spec {w : World} {A : Around} {s : Shared} {box : Addr} {ob : Obj} {vs : List Value} {a c : Int} {many : Nat} {tm : Tok} {Q E : Value → Shared → Prop} (hbx : s.heap.get? box = some ob) (G : Gd w (s.heap.hide box)) (R : Room A 3) (hob : LO ob vs) (hi : IntsAre vs [a, c]) (h0 : 0 ≤ a) (h1 : 0 ≤ c) (hm : 0 < many) (hm2 : many ≤ 100000)
    (ret : ∀ (d : Nat) t h' tk' ob' vs' a' c', Heap.ExtBut box s.heap h' → h'.get? box = some ob' → LO ob' vs' → IntsAre vs' [a', c'] → 0 ≤ a' → 0 ≤ c' → d < many → Q (.int d t) { s with heap := h', toks := tk' }) :
    wpAny (MM w) A (call (.ref 160) [.ref box, .int many tm]) Q E s := by
  refine enterM (names := ["box", "many", "digit"]) (gls := []) (vals := [some (.ref box), some (.int many tm), none]) hbx G R.depth (by k_dflt k_is) (by k_dflt k_is) rfl (locs rfl) ?hZ ?hat ?_ (by decide) rfl rfl rfl
  case hZ => exact ⟨by decide, by decide, by walk_at "m glo"⟩
  case hat => walk_at "m bat"
  intro env h₁ tk Z S
  have R' := R.deeper env
  walk_at "m gos"
  · rename_i S' hlo hia
    have hv := Int.emod_lt_of_pos a (show (0 : Int) < (many : Int) by lia)
    have hv0 := Int.emod_nonneg a (show (many : Int) ≠ 0 by lia)
    obtain ⟨z, hz⟩ := Int.eq_ofNat_of_zero_le hv0
    rw [hz]
    exact ret z _ _ _ _ _ _ _ (fun b o hb e => S'.at (.head _) b o ((Heap.hide_ne _ hb).trans e)) (S'.muts _ (.head _)) hlo hia (Int.ediv_nonneg h0 (by lia)) (by lia) (by lia)
  · rename_i S' hlo hia _ _ _ _ _ _ _ _ _ _
    have hv := Int.emod_lt_of_pos ((c + 1) * 7 + (c + 1) / 5) (show (0 : Int) < (many : Int) by lia)
    have hv0 := Int.emod_nonneg ((c + 1) * 7 + (c + 1) / 5) (show (many : Int) ≠ 0 by lia)
    obtain ⟨z, hz⟩ := Int.eq_ofNat_of_zero_le hv0
    rw [hz]
    exact ret z _ _ _ _ _ _ _ (fun b o hb e => S'.at (.head _) b o ((Heap.hide_ne _ hb).trans e)) (S'.muts _ (.head _)) hlo hia h0 (by lia) (by lia)
set_option maxHeartbeats 2000000 in
theorem total_spec {w : World} {A : Around} {s : Shared} {l : Addr} {ns : List Int} {Q E : Value → Shared → Prop} (G : Gd w s.heap) (R : Room A 3) (ha : IsRow s.heap l ns) (hn : ns.length ≤ 10000)
    (ret : Ret s (fun _ r => ∃ g t, r = .int g t ∧ 0 ≤ g) Q) : wpAny (MM w) A (call (.ref 167) [.ref l]) Q E s := by
  obtain ⟨vs, hL, hI⟩ := ha
  refine enter (names := ["script", "great", "one"]) (gls := [("abs", .builtin "abs")]) (vals := [some (.ref l), none, none]) (fs := [LF l vs]) G R.depth (by k_dflt k_is) (by k_dflt k_is) rfl (locs rfl) ?hZ ?hat ?hfs ?_ (by decide) rfl rfl rfl
  case hZ => exact ⟨by decide, by decide, by walk_at "m glo"⟩
  case hat => walk_at "m bat"
  case hfs => walk_at "m keepsF"
  intro env h₁ tk Z S
  have R' := R.deeper env
  have hlp := length_pickNums_le hI none (some 24) none
  walk_at "m go"
  walk_at "m toiter"
  rename_i D ws _ _ hJ
  refine forListS (σ := Int × Tok × Option Value) (fun c => [some (.ref l), some (.int c.1 c.2.1), c.2.2]) (fun c v => [some (.ref l), some (.int c.1 c.2.1), some v])
    (fun _ => []) (fun _ => [LF D ws, fun h => s.heap.StaysIn h]) (fun i c => 0 ≤ c.1) (0, _, none) R'.hh hJ Z (by assumption) (fun _ => .head _) (by walk_at "m sub") (by walk_at "m all") (Int.le_refl _) ?_ ?_ ?_
  · intro c v; walk_at "m put"
  · rintro T i ⟨v, tv, o⟩ t h tk I ob hT hi hP S
    dsimp only at hP S
    walk_at "m gos"
    rename_i S'
    refine hT _ _ (fturn_next (_, _, _) S' (by walk_at "m sub") (by walk_at "m all") ?_)
    dsimp only
    lia
  · rintro ⟨v, tv, o⟩ h tk hP S
    dsimp only at hP S ⊢
    walk_at "m gos"
    exact ret _ _ _ (S.at (.tail _ (.head _))) ⟨_, _, rfl, hP⟩

end

section
theorem keepsOf (s₃ : Shared) {h' : Heap} {tk : Nat} (k : s₃.heap.StaysIn h') : PySem.Keeps s₃ { s₃ with heap := h', toks := tk } := ⟨h', tk, rfl, fun b o e => k b o e⟩
theorem ldCell {w : World} {A : Around} {E : Value → Shared → Prop} {s : Shared} {env : Env} {x : Str} {pos : Pos} {c : Addr} {v : Value} {Q : Value → Shared → Prop} {names : List Str} {gls : List (Str × Value)} {vals : List (Option Value)} {ms : List (Addr × Obj)} {fs : List HP} (Z : Stat w env names gls) (S : St w names env.locals s.heap vals ms fs)
    (hl : env.scope.names.lookup x = some .cell ∧ env.cells = [(x, c)] ∧ (x == ("__debug__" : Str)) = false) (hc : CellF c v ∈ fs) (h : Q v s) : wpAny (MM w) A (eval (.Name x pos) env) Q E s :=
  wpAny_Name (wpAny_loadName_cell (v := v) Z.fn hl.1 (by rw [hl.2.1]; simp) (S.at hc : s.heap.IsCell c (some v)) h) hl.2.2
local macro_rules | `(tactic| walk_at "eval Name") => `(tactic| (refine ldCell (by assumption) (by assumption) (by assumption) (by first | assumption | walk_at "m mem") ?_))
local macro_rules | `(tactic| walk_at "newList") => `(tactic| (refine newListS (by assumption) (by walk_at "m fit") ?_; intro _ _ _))
local macro_rules | `(tactic| walk_at "m ints") => `(tactic| first | exact IntsAre.nil | assumption)
local macro_rules | `(tactic| walk_at "compareOp NotEq ref ref") => `(tactic| (refine neS (by exact Room.u64 (by assumption) (by decide)) (by assumption) (by walk_at "m mem") (by walk_at "m ints") (by walk_at "m mem") (by walk_at "m ints") ?_))
local macro_rules | `(tactic| walk_at "compareOp Eq ref ref") => `(tactic| (refine eqS (by exact Room.u64 (by assumption) (by decide)) (by assumption) (by walk_at "m mem") (by walk_at "m ints") (by walk_at "m mem") (by walk_at "m ints") ?_))
local macro_rules | `(tactic| walk_at "subscriptTail") => `(tactic| ((with_reducible show wpAny _ _ (subscriptTail _ _ (Value.ref _) (Value.int _ _)) _ _ _); refine itemLast (by assumption) (by walk_at "m mem") (by assumption) (by walk_at "m fit") (by walk_at "m fit") ?_; intro _))
set_option maxHeartbeats 2000000 in
theorem isrow_spec {w : World} {A : Around} {s : Shared} {l : Addr} {k b n : Nat} {tw : Tok} {Q E : Value → Shared → Prop} (G : Gd w s.heap) (R : Room A 20) (W : Wd k b) (ha : IsRow s.heap l (digs b n)) (hn : n ≤ 10000)
    (ret : Ret s (fun _ r => r = .bool true) Q) : wpAny (MM w) A (call (.ref 186) [.ref l, .int k tw]) Q E s := by
  obtain ⟨vs, hL, hI⟩ := ha
  have hb : 2 ≤ b := by have := W.b1; lia
  have hlen := digs_length_le hb n
  have hvl := hI.length
  have hr := digs_range hb n
  refine enterC (xc := Str.ofString "w") (vc := .int k tw) (names := ["row"]) (gls := [("isinstance", .builtin "isinstance"), ("list", .type "list")]) (vals := [some (.ref l)]) (fs := [LF l vs]) G R.depth (by k_dflt k_is) (by k_dflt k_is) rfl (fun n => by rfl) ?hk ?hZ ?hat (fun L => by rfl) (by rfl) ?hfs ?_ rfl rfl rfl
  case hk => exact List.forall_mem_cons.mpr ⟨.inl (by rfl), List.forall_mem_cons.mpr ⟨.inr ⟨by rfl, rfl⟩, List.forall_mem_nil _⟩⟩
  case hZ => exact ⟨by decide, by decide, by walk_at "m glo"⟩
  case hat => intro L x v hx; cases hx with | here => exact rfl | there hx => cases hx
  case hfs => walk_at "m keepsF"
  intro env h₁ tk c Z hcl hkw S
  have R' := R.deeper env
  walk_at "m go"
  refine compNone (vs := vs) R'.hh Z S At.here (by walk_at "m mem") (by lia) (closureFor_none (by decide)) (by decide) rfl (by decide) (by rfl) (fun env' i v s₃ e1 e2 e3 e4 e5 S₃ => ?_) ?_
  · obtain ⟨x, t, rfl, hx⟩ := hI.at i v e5
    have Z' : Stat w env' ["one"] [("isinstance", .builtin "isinstance"), ("bool", .type "bool"), ("int", .type "int")] := by
      refine ⟨by rw [e3]; rfl, e1.trans Z.gl, e2.trans Z.bt, by decide, ?_, ?_⟩
      · rw [e3]
        exact List.forall_mem_cons.mpr ⟨⟨by rfl, by rfl⟩, List.forall_mem_nil _⟩
      · rw [e3]
        exact List.forall_mem_cons.mpr ⟨⟨by rfl, g_isinstance w⟩, List.forall_mem_cons.mpr ⟨⟨by rfl, g_bool w⟩, List.forall_mem_cons.mpr ⟨⟨by rfl, g_int w⟩, List.forall_mem_nil _⟩⟩⟩
    clear S Z
    walk_at "m gos"
    exact keepsOf s₃ (stays_refl _)
  intro D h' tk' S1
  clear S
  walk_at "m go"
  rename_i S2
  refine compNone (vs := vs) R'.hh Z S2 At.here (by walk_at "m mem") (by lia) (by simp only [closureFor, cellOf, hcl]; rfl) (by decide) rfl (by decide) (by rfl) (fun env' i v s₃ e1 e2 e3 e4 e5 S₃ => ?_) ?_
  · obtain ⟨x, t, rfl, hx⟩ := hI.at i v e5
    have hn := hr x (List.mem_of_getElem? hx)
    have hwb := W.hb
    have hk := W.k2
    have hkw' := hkw
    have hfn := Z.fn
    have hfree : env'.scope.names.lookup (Str.ofString "w") = some .cell := by
      rw [e3]
      unfold relabel
      simp only [List.map_cons, List.map_nil, hfn, hkw']
      rfl
    have Z' : Stat w env' ["one"] [] := by
      refine ⟨by rw [e3]; rfl, e1.trans Z.gl, e2.trans Z.bt, by decide, ?_, List.forall_mem_nil _⟩
      rw [e3]
      unfold relabel
      simp only [List.map_cons, List.map_nil, hfn, hkw']
      exact List.forall_mem_cons.mpr ⟨⟨by rfl, by rfl⟩, List.forall_mem_nil _⟩
    have hcw : env'.scope.names.lookup (Str.ofString "w") = some .cell ∧ env'.cells = [(Str.ofString "w", c)] ∧ ((Str.ofString "w") == ("__debug__" : Str)) = false := ⟨hfree, e4, by rfl⟩
    clear S1 S2 Z
    walk_at "m gos"
    all_goals first | (exfalso; lia) | exact keepsOf s₃ (stays_refl _) | skip
    all_goals first | exact keepsOf s₃ (stays_refl _) | (simp [hn.2]; done)
  intro D2 h2 tk2 S3
  clear S1
  by_cases hn0 : n = 0
  · subst hn0
    rw [digs_zero] at hI
    cases hI
    walk_at "m gos"
    rename_i S'
    exact ret _ _ _ (S'.at (P := fun h => s.heap.StaysIn h) (by walk_at "m mem")) (by simp)
  · have hpos : 0 < (digs b n).length := (digs_len_pos hb).mpr (by lia)
    have hlast := digs_last hb n (by lia)
    have hne : decide (digs b n = []) = false := decide_eq_false fun e => by rw [e] at hpos; exact absurd hpos (by decide)
    walk_at "m gos"
    · rename_i q
      rw [hne] at q; cases q
    · rename_i S' _ _
      exact ret _ _ _ (S'.at (P := fun h => s.heap.StaysIn h) (by walk_at "m mem")) (by rw [decide_eq_true hlast])

end

section
theorem nought_sg {w : World} {h : Heap} {b : Nat} (G : Gd w h) : IsSg h (.ref 144) false (digs b 0) := by
  rw [digs_zero]
  refine ⟨144, 143, rfl, ⟨_, (show (hd.heap_39 w.params).In h from G.K) 144 _ (by k_dflt k_is), rfl, 0, rfl⟩, [], ⟨_, (show (hd.heap_39 w.params).In h from G.K) 143 _ (by k_dflt k_is), rfl, 0, rfl⟩, .nil⟩
theorem unit_sg {w : World} {h : Heap} {b : Nat} (hb : 2 ≤ b) (G : Gd w h) : IsSg h (.ref 146) false (digs b 1) := by
  have e : digs b 1 = [1] := by
    rw [digs_pos hb (by lia), Nat.div_eq_of_lt (by lia), digs_zero, Nat.mod_eq_of_lt (by lia)]; rfl
  rw [e]
  refine ⟨146, 145, rfl, ⟨_, (show (hd.heap_39 w.params).In h from G.K) 146 _ (by k_dflt k_is), rfl, 0, rfl⟩, [_], ⟨_, (show (hd.heap_39 w.params).In h from G.K) 145 _ (by k_dflt k_is), rfl, 0, rfl⟩, .cons 1 _ .nil⟩
abbrev FracSt : Type := Value × Value × Value × Value × Nat × Nat × Nat × Nat × Bool × Bool × Option Value × Option Value
set_option maxHeartbeats 4000000 in
theorem fraction_spec {w : World} {A : Around} {s : Shared} {lv lm lb : Addr} {k b v m n : Nat} {tw : Tok} {Q E : Value → Shared → Prop} (G : Gd w s.heap) (R : Room A 30) (W : Wd k b) (hv : IsRow s.heap lv (digs b v)) (hm : IsRow s.heap lm (digs b m)) (hn : IsRow s.heap lb (digs b n))
    (hvm : v < m) (hmz : m ≤ 4000) (hnz : n ≤ 4000)
    (ret : Ret s (fun h r => ((ratLoop n m v 0 1 false).2.1 = 0 ∨ n < (ratLoop n m v 0 1 false).2.1) ∧ r = .none ∨
      ((ratLoop n m v 0 1 false).2.1 ≠ 0 ∧ (ratLoop n m v 0 1 false).2.1 ≤ n) ∧ IsPr h r (fun h u => IsSg h u ((ratLoop n m v 0 1 false).2.2 && decide (0 < (ratLoop n m v 0 1 false).1)) (digs b (ratLoop n m v 0 1 false).1)) (fun h u => ∃ l, u = .ref l ∧ IsRow h l (digs b (ratLoop n m v 0 1 false).2.1))) Q) :
    wpAny (MM w) A (call (.ref 153) [.ref lv, .ref lm, .ref lb, .int k tw, .ref 193, .ref 200]) Q E s := by
  obtain ⟨vs1, hL1, hI1⟩ := hv
  obtain ⟨vs2, hL2, hI2⟩ := hm
  obtain ⟨vs3, hL3, hI3⟩ := hn
  have hb : 2 ≤ b := by have := W.b1; lia
  refine enter (names := ["value", "modulus", "bound", "w", "mul", "divrem", "one", "other", "here", "there", "quotient", "rest"])
    (gls := [("NOUGHT", .ref 144), ("UNIT", .ref 146), ("compare", .ref 65), ("fdiv", .ref 142), ("s_sub", .ref 121), ("s_mul", .ref 128), ("s_sign", .ref 107), ("s_neg", .ref 100)])
    (vals := [some (.ref lv), some (.ref lm), some (.ref lb), some (.int k tw), some (.ref 193), some (.ref 200), none, none, none, none, none, none]) (fs := [LF lv vs1, LF lm vs2, LF lb vs3]) G R.depth (by k_dflt k_is) (by k_dflt k_is) rfl (locs rfl) ?hZ ?hat ?hfs ?_ (by decide) rfl rfl rfl
  case hZ => exact ⟨by decide, by decide, by walk_at "m glo"⟩
  case hat => walk_at "m bat"
  case hfs => walk_at "m keepsF"
  intro env h₁ tk Z S
  have R' := R.deeper env
  walk_at "m go"
  rename_i t1 _ _ t2 _ _ _ _ _ _ _ _ _ _ _ _ _ _ Sf
  have hsg := nought_sg (b := b) Sf.gdh
  have hug := unit_sg hb Sf.gdh
  have hone : IsSg _ (.ref t1) false (digs b m) := IsSg.of Sf (by walk_at "m mem") (by walk_at "m mem") hI2
  have hoth : IsSg _ (.ref t2) false (digs b v) := IsSg.of Sf (by walk_at "m mem") (by walk_at "m mem") hI1
  replace Sf := (((Sf.addSg hsg).addSg hug).addSg hone).addSg hoth
  refine whileS (σ := FracSt) (fun c => [some (.ref lv), some (.ref lm), some (.ref lb), some (.int k tw), some (.ref 193), some (.ref 200), some c.1, some c.2.1, some c.2.2.1, some c.2.2.2.1, c.2.2.2.2.2.2.2.2.2.2.1, c.2.2.2.2.2.2.2.2.2.2.2]) (fun c => [])
    (fun c => [SgF c.1 false (digs b c.2.2.2.2.1), SgF c.2.1 false (digs b c.2.2.2.2.2.1), SgF c.2.2.1 c.2.2.2.2.2.2.2.2.2.1 (digs b c.2.2.2.2.2.2.1), SgF c.2.2.2.1 c.2.2.2.2.2.2.2.2.1 (digs b c.2.2.2.2.2.2.2.1), LF lb vs3, fun h => s.heap.StaysIn h])
    (fun c => RatInv m c.2.2.2.2.1 c.2.2.2.2.2.1 c.2.2.2.2.2.2.1 c.2.2.2.2.2.2.2.1 ∧ (c.2.2.2.2.2.2.2.2.2.1 = (!c.2.2.2.2.2.2.2.2.1) ∨ (c.2.2.2.2.2.2.1 = 0 ∧ c.2.2.2.2.2.2.2.2.2.1 = false ∧ c.2.2.2.2.2.2.2.2.1 = false)) ∧
      ratLoop n c.2.2.2.2.1 c.2.2.2.2.2.1 c.2.2.2.2.2.2.1 c.2.2.2.2.2.2.2.1 c.2.2.2.2.2.2.2.2.1 = ratLoop n m v 0 1 false)
    (fun c => c.2.2.2.2.2.1) (.ref t1, .ref t2, .ref 144, .ref 146, m, v, 0, 1, false, false, none, none)
    Sf (by walk_at "m sub") (by walk_at "m all") ⟨⟨hvm, Nat.le_refl _, Nat.le_refl _, by simp⟩, .inr ⟨rfl, rfl, rfl⟩, rfl⟩ ?_
  clear Sf S hsg hug hone hoth
  rintro T ⟨v1, v2, v3, v4, one, other, hh, tt, neg, hs, oq, orr⟩ h tk hT ⟨hinv, hsgn, hrat⟩ S
  dsimp only at hinv hsgn hrat S ⊢
  obtain ⟨t4, l4, vs4, rfl, hI4, S⟩ := S.openSg (S.at (P := SgF v2 false _) (by walk_at "m mem"))
  have hlt := hinv.lt
  have hle := hinv.one_le
  have htm := hinv.t_le
  have ht1 := hinv.t1
  walk_at "m go"
  refine compare_spec (x := other) (y := n) S.gdh (R'.less (by decide)) W (S.listRow (by walk_at "m mem") hI4) (S.listRow (by walk_at "m mem") hI3) (by lia) (by lia) ?_
  rintro r h' tk' hk' ⟨tc, rfl⟩
  replace S := S.ext hk'
  by_cases hbig : n < other
  · have hcmp : cmpI other n = 1 := by unfold cmpI; rw [if_neg (by lia), if_pos hbig]
    rw [hcmp]
    walk_at "m gos"
    have hI := hinv.step (by lia)
    have hdet := hI.det
    have hlt2 := hI.lt
    have hq1 : 1 ≤ one / other := Nat.div_pos (by lia) (by lia)
    have hqt : 1 ≤ one / other * tt := Nat.mul_le_mul hq1 hinv.t1
    have hsum : hh + one / other * tt ≤ 4000 := by
      have h1 : (hh + one / other * tt) * 1 ≤ (hh + one / other * tt) * other := Nat.mul_le_mul_left _ (by lia)
      lia
    have hql : one / other ≤ one := Nat.div_le_self _ _
    refine fdiv_spec (m := one) (n := other) S.gdh (R'.less (by decide)) W (S.at (P := SgF v1 false _) (by walk_at "m mem")) (S.at (P := SgF (.ref t4) false _) (by walk_at "m mem")) (by lia) (by lia) (by lia) ?_
    rintro r h' tk' hk' ⟨t5, u, v', rfl, hT5, hu, hv'⟩
    replace S := (((S.ext hk').addSg hu).addSg hv').addTF (vs := [u, v']) hT5
    walk_at "m go"
    rename_i S1
    clear S
    refine s_mul_spec (m := one / other) (n := tt) (p := false) (q := neg) S1.gdh (R'.less (by decide)) W (S1.at (P := SgF u false _) (by walk_at "m mem")) (S1.at (P := SgF v4 neg _) (by walk_at "m mem")) (by lia) (by lia) (by lia) (by lia) ?_
    rintro r1 h' tk' hk' hr1
    rw [show (false != neg) = neg by cases neg <;> rfl] at hr1
    replace S1 := (S1.ext hk').addSg hr1
    walk_at "m go"
    refine s_sub_spec (m := hh) (n := one / other * tt) (p := hs) (q := neg) S1.gdh (R'.less (by decide)) W (S1.at (P := SgF v3 hs _) (by walk_at "m mem")) (S1.at (P := SgF r1 neg _) (by walk_at "m mem")) (by lia) hsgn (by lia) ?_
    rintro r2 h' tk' hk' hr2
    replace S1 := (S1.ext hk').addSg hr2
    walk_at "m go"
    rename_i S2
    clear S1
    refine hT _ _ (turn_next (.ref t4, v', v4, r2, other, one % other, tt, hh + one / other * tt, !neg, neg, some u, some v') S2 (by walk_at "m sub") (by walk_at "m all") ⟨hI, .inl (by simp), ?_⟩ hlt2)
    exact (ratLoop_step hbig).symm.trans hrat
  · have hcmp : ¬ 0 < cmpI other n := by unfold cmpI; split <;> (try split) <;> lia
    rw [ratLoop_stop (by lia)] at hrat
    rw [← hrat] at ret
    dsimp only at ret
    walk_at "m gos"
    · exact absurd (by assumption) hcmp
    refine s_sign_spec (ns := digs b tt) (p := neg) S.gdh (R'.less (by decide)) (S.at (P := SgF v4 neg _) (by walk_at "m mem")) ?_ ?_
    · have := digs_length_le hb tt; lia
    rintro r h' tk' hk' ⟨sv, ts, rfl, hsv⟩
    replace S := S.ext hk'
    have hs0 : sv ≠ 0 := fun e => by
      have h1 := hsv.mp e
      have h2 := (digs_len_pos hb).mpr (show 0 < tt by have := hinv.t1; lia)
      lia
    obtain ⟨t6, l6, vs6, rfl, hI6, S⟩ := S.openSg (S.at (P := SgF v4 neg _) (by walk_at "m mem"))
    walk_at "m gos"
    · exact absurd (by assumption) hs0
    refine compare_spec (x := tt) (y := n) S.gdh (R'.less (by decide)) W (S.listRow (by walk_at "m mem") hI6) (S.listRow (by walk_at "m mem") hI3) (by lia) (by lia) ?_
    rintro r h' tk' hk' ⟨tc, rfl⟩
    replace S := S.ext hk'
    by_cases hbt : n < tt
    · have hcmp : cmpI tt n = 1 := by unfold cmpI; rw [if_neg (by lia), if_pos hbt]
      rw [hcmp]
      walk_at "m gos"
      all_goals exact ret _ _ _ (S.at (by walk_at "m mem")) (.inl ⟨.inr hbt, rfl⟩)
    · have hcmp : ¬ 0 < cmpI tt n := by unfold cmpI; split <;> (try split) <;> lia
      walk_at "m gos"
      · exact absurd (by assumption) hcmp
      · refine s_neg_spec (ns := digs b other) (p := false) S.gdh (R'.less (by decide)) (IsSg.of S (by walk_at "m mem") (by walk_at "m mem") hI4) ?_ ?_
        · have := digs_length_le hb other; lia
        rintro r h' tk' hk' hr1
        rw [show decide (0 < (digs b other).length) = decide (0 < other) from by simp only [digs_len_pos hb]] at hr1
        have hneg : neg = true := by assumption
        replace S := (S.ext hk').addSg hr1
        walk_at "m go"
        rename_i S'
        clear S
        refine ret _ _ _ (S'.at (P := fun h => s.heap.StaysIn h) (by walk_at "m mem")) (.inr ⟨⟨by lia, by lia⟩, _, _, _, rfl, S'.at (.head _), ?_, ?_⟩)
        · rw [hneg]; exact S'.at (P := SgF r _ _) (by walk_at "m mem")
        · exact ⟨_, rfl, _, S'.at (P := LF l6 vs6) (by walk_at "m mem"), hI6⟩
      · rename_i S'
        refine ret _ _ _ (S'.at (P := fun h => s.heap.StaysIn h) (by walk_at "m mem")) (.inr ⟨⟨by lia, by lia⟩, _, _, _, rfl, S'.at (.head _), ?_, ?_⟩)
        · rw [show neg = false by assumption]
          exact S'.at (P := SgF (.ref t4) _ _) (by walk_at "m mem")
        · exact ⟨_, rfl, _, S'.at (P := LF l6 vs6) (by walk_at "m mem"), hI6⟩

end

section
section
variable {w : World} {A : Around} {E : Value → Shared → Prop} {s : Shared} {names : List Str} {L : Addr} {vals : List (Option Value)} {ms : List (Addr × Obj)} {fs : List HP}
theorem get_size_none (h : Heap) : h.get? h.objs.size = none := by
  rcases e : h.get? h.objs.size with _ | o
  · rfl
  · exact absurd (Heap.lt_size e) (Nat.lt_irrefl _)
theorem newTupF {vs : List Value} {Q : Value → Shared → Prop} (S : St w names L s.heap vals ms fs) (hz : vs.length ≤ 1000) (h : ∀ a h', s.heap.get? a = none → St w names L h' vals ms (TF a vs :: fs) → Q (.ref a) { s with heap := h' }) :
    wpAny (MM w) A (newTuple vs) Q E s :=
  wpAny_newObj_type (h _ _ (get_size_none _) (S.pushTup vs)) (by show vs.toArray.size ≤ sizeLine; rw [List.size_toArray]; exact Nat.le_trans hz (by decide))
end
/-- what law_told answers -/
def Told (h₀ h : Heap) (n m v : Nat) (r : Value) : Prop :=
  ((ratLoop n m v 0 1 false).2.1 = 0 ∨ n < (ratLoop n m v 0 1 false).2.1) ∧ r = .none ∨
  ((ratLoop n m v 0 1 false).2.1 ≠ 0 ∧ (ratLoop n m v 0 1 false).2.1 ≤ n) ∧ ∃ a x y, r = .ref a ∧ h₀.get? a = none ∧
    IsTup h a [Value.int (if (ratLoop n m v 0 1 false).2.2 then 0 - ((ratLoop n m v 0 1 false).1 : Int) else ((ratLoop n m v 0 1 false).1 : Int)) x, Value.int ((ratLoop n m v 0 1 false).2.1 : Int) y].toArray
local macro_rules | `(tactic| walk_at "newTuple") => `(tactic| (refine newTupF (by assumption) (by walk_at "m fit") ?_; intro _ _ _ _))
theorem fresh_of {h h' : Heap} {a : Addr} (k : h.StaysIn h') (e : h'.get? a = none) : h.get? a = none := by
  rcases e' : h.get? a with _ | o
  · rfl
  · rw [k a o e'] at e; cases e
local macro_rules | `(tactic| walk_at "newList") => `(tactic| (refine newListS (by assumption) (by walk_at "m fit") ?_; intro _ _ _))
local macro_rules | `(tactic| walk_at "m ints") => `(tactic| first | exact IntsAre.nil | assumption)
local macro_rules | `(tactic| walk_at "compareOp Eq ref ref") => `(tactic| (refine eqS (by exact Room.u64 (by assumption) (by decide)) (by assumption) (by walk_at "m mem") (by walk_at "m ints") (by walk_at "m mem") (by walk_at "m ints") ?_))
set_option maxHeartbeats 4000000 in
theorem told_spec {w : World} {A : Around} {s : Shared} {k b v m n : Nat} {tv tm tn tw : Tok} {Q E : Value → Shared → Prop} (G : Gd w s.heap) (R : Room A 32) (W : Wd k b)
    (hvm : v < m) (hmz : m ≤ 4000) (hnz : n ≤ 4000) (hol : (ratLoop n m v 0 1 false).1 ≤ n)
    (ret : Ret s (fun h r => Told s.heap h n m v r) Q) :
    wpAny (MM w) A (call (.ref 221) [.int v tv, .int m tm, .int n tn, .int k tw]) Q E s := by
  have hb : 2 ≤ b := by have := W.b1; lia
  refine enter (names := ["value", "modulus", "bound", "w", "told", "number", "below"])
    (gls := [("fraction_of", .ref 153), ("_law_row", .ref 174), ("_law_times", .ref 193), ("_law_parts", .ref 200), ("_law_is_row", .ref 186), ("_law_whole", .ref 181)])
    (vals := [some (.int v tv), some (.int m tm), some (.int n tn), some (.int k tw), none, none, none]) (fs := []) G R.depth (by k_dflt k_is) (by k_dflt k_is) rfl (locs rfl) ?hZ ?hat ?hfs ?_ (by decide) rfl rfl rfl
  case hZ => exact ⟨by decide, by decide, by walk_at "m glo"⟩
  case hat => walk_at "m bat"
  case hfs => walk_at "m keepsF"
  intro env h₁ tk Z S
  have R' := R.deeper env
  walk_at "m go"
  refine row_spec (n := v) S.gdh (R'.less (by decide)) W (by lia) ?_
  rintro r h' tk' hk' ⟨lv, rfl, vs1, hL1, hI1⟩
  replace S := (S.ext hk').addLF hL1
  walk_at "m go"
  refine row_spec (n := m) S.gdh (R'.less (by decide)) W (by lia) ?_
  rintro r h' tk' hk' ⟨lm, rfl, vs2, hL2, hI2⟩
  replace S := (S.ext hk').addLF hL2
  walk_at "m go"
  refine row_spec (n := n) S.gdh (R'.less (by decide)) W (by lia) ?_
  rintro r h' tk' hk' ⟨lb, rfl, vs3, hL3, hI3⟩
  replace S := (S.ext hk').addLF hL3
  walk_at "m go"
  refine fraction_spec (v := v) (m := m) (n := n) S.gdh (R'.less (by decide)) W (S.listRow (by walk_at "m mem") hI1) (S.listRow (by walk_at "m mem") hI2) (S.listRow (by walk_at "m mem") hI3) hvm hmz hnz ?_
  unfold Told at ret
  generalize ratLoop n m v 0 1 false = c at *
  obtain ⟨o, t, neg⟩ := c
  dsimp only at hol ret ⊢
  rintro r h' tk' hk' (⟨hno, rfl⟩ | ⟨⟨h1, h2⟩, a, u, u', rfl, hT, ⟨t4, l4, rfl, hT4, vs4, hL4, hI4⟩, l5, rfl, vs5, hL5, hI5⟩)
  · replace S := S.ext hk'
    walk_at "m gos"
    exact ret _ _ _ ((by assumption : St _ _ _ _ _ _ _).at (P := fun h => s.heap.StaysIn h) (by walk_at "m mem")) (.inl ⟨hno, rfl⟩)
  · replace S := (((((S.ext hk').addLF hL5).addLF hL4).addTF (vs := [.bool (neg && decide (0 < o)), .ref l4]) hT4)).addTF (vs := [.ref t4, .ref l5]) hT
    walk_at "m gos"
    rename_i S1
    clear S
    have S := S1
    clear S1
    refine isrow_spec (n := o) S.gdh (R'.less (by decide)) W (S.listRow (by walk_at "m mem") hI4) (by lia) ?_
    rintro r h' tk' hk' rfl
    replace S := S.ext hk'
    walk_at "m gos"
    refine isrow_spec (n := t) S.gdh (R'.less (by decide)) W (S.listRow (by walk_at "m mem") hI5) (by lia) ?_
    rintro r h' tk' hk' rfl
    replace S := S.ext hk'
    have hpos : (neg && decide (0 < o)) = true → decide (digs b o = []) = false := fun e => by
      have h0 : 0 < o := by simpa using (Bool.and_eq_true_iff.mp e).2
      have := (digs_len_pos hb).mpr h0
      exact decide_eq_false fun e => by rw [e] at this; exact absurd this (by decide)
    have hval : (if neg then 0 - (o : Int) else (o : Int)) = if (neg && decide (0 < o)) then 0 - (o : Int) else (o : Int) := by
      cases neg
      · rfl
      · by_cases h0 : o = 0
        · subst h0; rfl
        · rw [decide_eq_true (by lia : 0 < o)]; rfl
    rw [hval] at ret
    clear hval hT hT4
    generalize (neg && decide (0 < o)) = p at *
    cases p
    · walk_at "m gos"
      all_goals try (exfalso; contradiction)
      refine whole_spec (n := o) S.gdh (R'.less (by decide)) W (S.listRow (by walk_at "m mem") hI4) (by lia) ?_
      rintro r h' tk' hk' ⟨tc, rfl⟩
      replace S := S.ext hk'
      walk_at "m gos"
      refine whole_spec (n := t) S.gdh (R'.less (by decide)) W (S.listRow (by walk_at "m mem") hI5) (by lia) ?_
      rintro r h' tk' hk' ⟨td, rfl⟩
      replace S := S.ext hk'
      walk_at "m gos"
      rename_i hn S1
      exact ret _ _ _ (S1.at (P := fun h => s.heap.StaysIn h) (by walk_at "m mem")) (.inr ⟨⟨h1, h2⟩, _, _, _, rfl, fresh_of (S.at (P := fun h => s.heap.StaysIn h) (by walk_at "m mem")) hn, S1.at (.head _)⟩)
    · walk_at "m gos"
      · exact absurd (show decide (digs b o = []) = true by assumption) (by rw [hpos rfl]; decide)
      rename_i S1 _
      clear S
      have S := S1
      clear S1
      refine whole_spec (n := o) S.gdh (R'.less (by decide)) W (S.listRow (by walk_at "m mem") hI4) (by lia) ?_
      rintro r h' tk' hk' ⟨tc, rfl⟩
      replace S := S.ext hk'
      walk_at "m gos"
      refine whole_spec (n := t) S.gdh (R'.less (by decide)) W (S.listRow (by walk_at "m mem") hI5) (by lia) ?_
      rintro r h' tk' hk' ⟨td, rfl⟩
      replace S := S.ext hk'
      walk_at "m gos"
      rename_i hn S1
      exact ret _ _ _ (S1.at (P := fun h => s.heap.StaysIn h) (by walk_at "m mem")) (.inr ⟨⟨h1, h2⟩, _, _, _, rfl, fresh_of (S.at (P := fun h => s.heap.StaysIn h) (by walk_at "m mem")) hn, S1.at (.head _)⟩)

end

section
open PySem.Spec PySem.SeqAt
section
variable {w : World} {A : Around} {E : Value → Shared → Prop} {s : Shared} {names : List Str} {L : Addr} {vals : List (Option Value)} {ms : List (Addr × Obj)} {fs : List HP}
/-- a fact of an object that came up in a call, beside those that may change -/
theorem St.addNew {h h' : Heap} (S : St w names L h vals ms fs) (k : h.StaysIn h') {a : Addr} {vs : List Value} (hn : h.get? a = none) (x : IsTup h' a vs.toArray) : St w names L h' vals ms (TF a vs :: fs) := by
  refine (S.ext k).add keepsTF ?_
  obtain ⟨o, ho, r⟩ := x
  refine ⟨o, hideAll_get _ ho fun m => ?_, r⟩
  rcases List.mem_cons.mp m with rfl | m
  · obtain ⟨m', ⟨oL, es, ep, eL, dL, _⟩, _⟩ := S.ns
    rw [hn] at eL; cases eL
  · obtain ⟨p, hp, rfl⟩ := List.mem_map.mp m
    rw [S.muts p hp] at hn; cases hn
theorem St.gdHide {h : Heap} (S : St w names L h vals ms fs) {a : Addr} {o : Obj} (hm : (a, o) ∈ ms) : Gd w (h.hide a) := by
  refine S.gd.keeps (h' := hideAll h [a]) (hide_mono fun b hb o' e => ⟨fun m => hb ?_, e⟩)
  rw [List.mem_singleton.mp m]
  exact .tail _ (List.mem_map.mpr ⟨_, hm, rfl⟩)
theorem reads_tup {h : Heap} {a : Addr} {vs : List Value} {ns : List Int} (hl : IsTup h a vs.toArray) (hi : IntsAre vs ns) : Reads h (.ref a) (.tuple (ns.map PyData.int)) [] := by
  obtain ⟨o, ho, hc, n, hd⟩ := hl
  exact Reads.tuple ho hc hd (by simpa using PySem.W.readsAll_of_ints hi)
theorem shaped_tup (ns : List Int) : shaped (.tuple (ns.map PyData.int)) = true := by
  have h1 := PySem.W.depthAll_ints ns
  have h2 : PyData.depth (.tuple (ns.map PyData.int)) ≤ 64 := by simp only [PyData.depth]; lia
  show (PyData.canLay0 (.tuple (ns.map PyData.int)) && decide (PyData.depth (.tuple (ns.map PyData.int)) ≤ 64)) = true
  rw [Bool.and_eq_true]
  exact ⟨by simp only [PyData.canLay0]; exact PySem.W.canLayAll0_ints ns, decide_eq_true h2⟩
theorem neTupS {a c : Addr} {x y x' y' : Int} {t1 t2 t3 t4 : Tok} {Q : Value → Shared → Prop} (hu : A.units + 64 < cLine) (S : St w names L s.heap vals ms fs) (hm : TF a [.int x t1, .int y t2] ∈ fs) (hm' : TF c [.int x' t3, .int y' t4] ∈ fs)
    (e1 : x = x') (e2 : y = y') (h : Q (.bool false) s) : wpAny (MM w) A (compareOp .NotEq (.ref a) (.ref c)) Q E s := by
  subst e1 e2
  refine ne_dataH_same (reads_tup (S.at hm : IsTup s.heap a _) (.cons _ _ (.cons _ _ .nil))) (reads_tup (S.at hm' : IsTup s.heap c _) (.cons _ _ (.cons _ _ .nil))) (shaped_tup _) (shaped_tup _) hu (by simp only [noMix]; exact noMix_ints _ _) ?_
  simp only [PySem.Spec.same]; rw [same_ints, decide_eq_true rfl]; exact h
theorem eqTupListS {a c : Addr} {x y : Int} {t1 t2 : Tok} {vs : List Value} {ns : List Int} {Q : Value → Shared → Prop} (hu : A.units + 64 < cLine) (S : St w names L s.heap vals ms fs) (hm : TF a [.int x t1, .int y t2] ∈ fs) (hm' : LF c vs ∈ fs) (hi : IntsAre vs ns)
    (h : Q (.bool false) s) : wpAny (MM w) A (compareOp .Eq (.ref a) (.ref c)) Q E s := by
  refine eq_dataH (reads_tup (S.at hm : IsTup s.heap a _) (.cons _ _ (.cons _ _ .nil))) (PySem.W.reads_of_ints (S.at hm' : s.heap.IsList c _) hi) (shaped_tup _) (shaped_ints _) hu ?_
  simp only [PyData.eqv]; exact h
/-- the box that the law takes from -/
def BoxOk (ob : Obj) : Prop := ∃ (vs : List Value) (a c : Int), LO ob vs ∧ IntsAre vs [a, c] ∧ 0 ≤ a ∧ 0 ≤ c
theorem takeS {box : Addr} {ob : Obj} {many : Int} {tm : Tok} {Q : Value → Shared → Prop} (S : St w names L s.heap vals ((box, ob) :: ms) fs) (R : Room A 3) (hB : BoxOk ob) (hm : 0 < many) (hm2 : many ≤ 100000)
    (h : ∀ (d : Nat) t h' tk' ob', BoxOk ob' → (d : Int) < many → St w names L h' vals ((box, ob') :: ms) fs → Q (.int d t) { s with heap := h', toks := tk' }) :
    wpAny (MM w) A (call (.ref 160) [.ref box, .int many tm]) Q E s := by
  obtain ⟨n, rfl⟩ := Int.eq_ofNat_of_zero_le (show 0 ≤ many by lia)
  obtain ⟨vs, a, c, h1, h2, h3, h4⟩ := hB
  refine take_spec (S.muts _ (.head _)) (S.gdHide (.head _)) R h1 h2 h3 h4 (by lia) (by lia) ?_
  intro d t h' tk' ob' vs' a' c' hx hg k1 k2 k3 k4 k5
  exact h d t h' tk' ob' ⟨vs', a', c', k1, k2, k3, k4⟩ (by lia) (S.move hx hg)
theorem takeS2 {box : Addr} {ob : Obj} {p : Addr × Obj} {many : Int} {tm : Tok} {Q : Value → Shared → Prop} (S : St w names L s.heap vals (p :: (box, ob) :: ms) fs) (R : Room A 3) (hB : BoxOk ob) (hm : 0 < many) (hm2 : many ≤ 100000)
    (h : ∀ (d : Nat) t h' tk' ob', BoxOk ob' → (d : Int) < many → St w names L h' vals (p :: (box, ob') :: ms) fs → Q (.int d t) { s with heap := h', toks := tk' }) :
    wpAny (MM w) A (call (.ref 160) [.ref box, .int many tm]) Q E s :=
  takeS S.swap R hB hm hm2 fun d t h' tk' ob' k1 k2 S' => h d t h' tk' ob' k1 k2 S'.swap
end
/-- the law's end -/
def DoneTrue (s₁ : Shared) (fl : Flow) (s' : Shared) : Prop := fl = .ret (.bool true) ∧ ∃ h tk m, s' = { s₁ with heap := h, toks := tk } ∧ Fr s₁.heap s₁.heap.objs.size h m
theorem law_open {w : World} {A : Around} {env : Env} {body : List Stmt} {s s₁ : Shared} {Q : Flow → Shared → Prop} {E : Value → Shared → Prop} {p : Program} {loose : List Str} {mean : ExcName → Option Value} {mg mb f : Str → Option Value} {l : Addr} {vs : List Value} {ns : List Int}
    (names : List Str) (gls : List (Str × Value)) (vals : List (Option Value))
    (T : Top p loose mean mg mb s₁.heap) (KX : (hd.heap_39 w.params).In s₁.heap) (F : Fr s₁.heap s₁.heap.objs.size s.heap f) (hL : s₁.heap.IsList l vs.toArray)
    (hl : env.locals = s₁.heap.objs.size) (R : Room A 40) (hk : env.scope.kind = .function) (hgl : env.globals = mainGlobals) (hbt : env.builtins = builtinsNs) (hZ : StatS w env.scope names gls) (hat : ∀ x v, At names (some (.ref l) :: vals) x v → f x = some v)
    (hs : s = { s₁ with heap := s.heap, toks := s.toks })
    (hq : ∀ fl s', DoneTrue s₁ fl s' → Q fl s')
    (hI : IntsAre vs ns) (h63 : ¬ 63 < ns.length)
    (main : ∀ (w : World) (l : Addr) (vs : List Value) (ns : List Int), IntsAre vs ns → ¬ 63 < ns.length → ∀ (s : Shared) A env h tk, Room A 40 → Stat w env names gls → St w names env.locals h (some (.ref l) :: vals) [] [fun h => s.heap.StaysIn h, LF l vs] → env.locals = s.heap.objs.size →
      wpAny (MM w) A (execs body env) (DoneTrue s) (fun _ _ => False) { s with heap := h, toks := tk }) :
    wpAny (MM w) A (execs body env) Q E s := by
  have Z : Stat w env names gls := ⟨hk, hgl, hbt, hZ.nd, hZ.loc, hZ.glo⟩
  have k : s₁.heap.StaysIn (fz env.locals [] s.heap) := fun b o e => hideAll_get _ (F.keep b o e) fun m => by
    have q : b = s₁.heap.objs.size := by rw [← hl]; simpa using m
    exact absurd (Heap.lt_size e) (by rw [q]; exact Nat.lt_irrefl _)
  have G : Gd w s₁.heap := ⟨KX, ⟨_, T.g⟩, ⟨_, T.b, T.builtins⟩, T.nolimit⟩
  have S : St w names env.locals s.heap (some (.ref l) :: vals) [] [fun h => s₁.heap.StaysIn h, LF l vs] := by
    refine ⟨⟨_, hl ▸ F.ns, hat⟩, (fun _ hp => nomatch hp), by simp, G.keeps k, fun P hP => ?_⟩
    rcases List.mem_cons.mp hP with rfl | hP
    · exact ⟨fun _ _ k1 k2 => stays_trans k2 k1, k⟩
    · rw [List.mem_singleton.mp hP]
      exact ⟨keepsLF, keepsLF _ _ k hL⟩
  rw [hs]
  exact wpAny_mono (main w l vs ns hI h63 s₁ A env s.heap s.toks R Z S hl) hq fun _ _ x => x.elim
theorem St.done {w : World} {names : List Str} {L : Addr} {h : Heap} {vals : List (Option Value)} {ms : List (Addr × Obj)} {fs : List HP} {s₁ : Shared} {tk : Nat} (S : St w names L h vals ms fs) (hm : (fun h => s₁.heap.StaysIn h) ∈ fs) (hl : L = s₁.heap.objs.size) : DoneTrue s₁ (.ret (.bool true)) { s₁ with heap := h, toks := tk } := by
  obtain ⟨m, hns, _⟩ := S.ns
  exact ⟨rfl, _, _, m, rfl, hl ▸ hns, S.at hm, Nat.le_refl _⟩
theorem room_law (env : Env) : Room (callerA.deeper env) 40 := by
  refine ⟨rfl, ?_, ?_⟩
  · show callerA.depth + 1 + 40 < recursionLimit; decide +kernel
  · show callerA.units + 3 + 8 * 40 < cLine; decide +kernel

end

section
local macro_rules | `(tactic| walk_at "m not if") => `(tactic| first | (fail_if_success (with_reducible show wpAny _ _ (exec (Stmt.If _ _ _ _) _) _ _ _)))
local macro_rules | `(tactic| walk_at "m not list") => `(tactic| first | (fail_if_success (with_reducible show wpAny _ _ (newList _) _ _ _)))
local macro_rules | `(tactic| walk_at "m goi") => `(tactic| repeat (walk_at "m not while"; walk_at "m not for"; walk_at "m not call"; walk_at "m not if"; walk1; try dsimp only))
local macro_rules | `(tactic| walk_at "m gol") => `(tactic| repeat (walk_at "m not while"; walk_at "m not for"; walk_at "m not call"; walk_at "m not list"; walk1; try dsimp only))
local macro_rules | `(tactic| walk_at "m ints") => `(tactic| first | exact IntsAre.nil | assumption)
local macro_rules | `(tactic| walk_at "newList") => `(tactic| (refine newListS (by assumption) (by walk_at "m fit") ?_; intro _ _ _))
local macro_rules | `(tactic| walk_at "compareOp Eq ref ref") => `(tactic| (refine eqTupListS (by exact Room.u64 (by assumption) (by decide)) (by assumption) (by walk_at "m mem") (by walk_at "m mem") (by walk_at "m ints") ?_))
local macro_rules | `(tactic| walk_at "compareOp NotEq ref ref") => `(tactic| (refine neTupS (by exact Room.u64 (by assumption) (by decide)) (by assumption) (by walk_at "m mem") (by walk_at "m mem") (by assumption) (by assumption) ?_))
abbrev LawSt : Type := Obj × Option Value × Option Value × Option Value × Option Value × Option Value
set_option maxHeartbeats 8000000 in
theorem law_holds : PySem.Challenge.rw_nz0080_01.Holds := by
  refine hd ?_
  k_go0
  rename Fr _ _ _ _ => F
  rename Top _ _ _ _ _ _ => T
  rename Heap.IsList _ _ _ => hL
  rename IntsAre _ _ => hI
  rename ¬ ((63 : Int) < _) => h63
  rename _ = #[] => hgens
  refine law_open (names := ["script", "box", "w", "bound", "modulus", "turn", "top", "below", "shared", "rest", "value", "told"])
    (gls := [("_law_total", .ref 167), ("_law_take", .ref 160), ("range", .type "range"), ("_law_common", .ref 207), ("_law_inverse", .ref 214), ("_law_told", .ref 221), ("_law_is_there", .ref 228), ("abs", .builtin "abs")])
    (vals := [none, none, none, none, none, none, none, none, none, none, none]) T (by assumption) F hL rfl ?hR rfl rfl rfl ?hZ ?hat rfl ?hq hI (fun q => h63 (by exact_mod_cast q)) ?hmain
  case hR => exact room_law _
  case hZ => exact ⟨by decide, by repeat (first | exact List.forall_mem_nil _ | refine List.forall_mem_cons.mpr ⟨⟨by rfl, by rfl⟩, ?_⟩), by walk_at "m glo"⟩
  case hat => walk_at "m bat"
  case hq =>
    rintro fl s' ⟨rfl, h', tk', m, rfl, F'⟩
    dsimp only
    first | wrow_close | trace_state
  case hmain =>
    repeat (first | clear F | clear T | clear hL | clear hI | clear h63 | clear hgens | (rename_i xx; clear xx))
    intro w l vs ns hI h63 s A env h tk R Z S hloc
    have hlen := hI.length
    walk_at "m go"
    refine total_spec S.gdh (R.less (by decide)) (S.listRow (by walk_at "m mem") hI) (by lia) ?_
    rintro r h' tk' hk' ⟨g, tg, rfl, hg0⟩
    replace S := S.ext hk'
    walk_at "m gol"
    refine newListM S (show 2 ≤ 1000 by decide) ?_
    intro box h' S
    walk_at "m go"
    rename St _ _ _ _ _ _ _ => S
    refine takeS S (R.less (by decide)) ⟨_, _, _, LO.of _ _, .cons _ _ (.cons _ _ .nil), hg0, Int.le_refl _⟩ (by decide) (by decide) ?_
    intro d0 t0 h' ta ob hB hd0 S
    walk_at "m go"
    rename St _ _ _ _ _ _ _ => S
    have ek : (2 : Int) + (d0 : Int) = ((2 + d0 : Nat) : Int) := by lia
    rw [ek] at S
    have W : Wd (2 + d0) (2 ^ (2 + d0)) := ⟨by lia, by lia, rfl⟩
    clear ek
    generalize 2 + d0 = k at S W
    generalize 2 ^ k = b at W
    refine takeS S (R.less (by decide)) hB (by decide) (by decide) ?_
    intro d1 t1 h' tb ob hB hd1 S
    walk_at "m go"
    rename St _ _ _ _ _ _ _ => S
    have en : (1 : Int) + (d1 : Int) = ((1 + d1 : Nat) : Int) := by lia
    rw [en] at S ⊢
    have hn1 : 1 ≤ 1 + d1 := by lia
    have hn2 : 1 + d1 ≤ 30 := by lia
    clear en hd1
    generalize 1 + d1 = n at S hn1 hn2 ⊢
    refine takeS S (R.less (by decide)) hB (by decide) (by decide) ?_
    intro d2 t2 h' tc ob hB hd2 S
    walk_at "m go"
    rename St _ _ _ _ _ _ _ => S
    have em : (2 : Int) * (n : Int) * (n : Int) + 1 + (d2 : Int) = ((2 * n * n + 1 + d2 : Nat) : Int) := by push_cast; rfl
    rw [em] at S
    have hnn : n * n ≤ 30 * 30 := Nat.mul_le_mul hn2 hn2
    have hm1 : 2 * (n * n) < 2 * n * n + 1 + d2 := by rw [Nat.mul_assoc]; lia
    have hm2 : 2 * n * n + 1 + d2 ≤ 4000 := by rw [Nat.mul_assoc]; lia
    clear em hd2
    generalize 2 * n * n + 1 + d2 = m at S hm1 hm2
    have hnm : n < m := by have := Nat.mul_le_mul_left n hn1; lia
    walk_at "m toiter"
    rename St _ _ _ _ _ _ _ => S
    refine forRangeS (σ := LawSt) 3 (fun c => [none, some (.ref box), some (.int k ta), some (.int n tb), some (.int m tc), c.2.1, c.2.2.1, c.2.2.2.1, c.2.2.2.2.1, c.2.2.2.2.2, none, none])
      (fun c x => [none, some (.ref box), some (.int k ta), some (.int n tb), some (.int m tc), some x, c.2.2.1, c.2.2.2.1, c.2.2.2.2.1, c.2.2.2.2.2, none, none])
      (fun c => [(box, c.1)]) (fun _ => [fun h => s.heap.StaysIn h]) (fun _ c => BoxOk c.1) (ob, none, none, none, none, none) R.hh ?hsm ?hn Z S (by walk_at "m mem") (by walk_at "m sub") (by walk_at "m all") hB ?_ ?_ ?_
    case hsm => decide +kernel
    case hn => decide +kernel
    · intro c v; walk_at "m put"
    · rintro T i ⟨ob, o1, o2, o3, o4, o5⟩ td h tk I o hT hi hB S
      dsimp only at hB S
      walk_at "m goi"
      refine takeS2 S (R.less (by decide)) hB (by lia) (by lia) ?_
      intro e1 te1 h' te ob hB he1 S
      walk_at "m goi"
      refine takeS2 S (R.less (by decide)) hB (by lia) (by lia) ?_
      intro e2 te2 h' tf ob hB he2 S
      walk_at "m goi"
      rename St _ _ _ _ _ _ _ => S
      refine cutE (fun s' => ∃ h' tk' top below t1 t2, s' = { s with heap := h', toks := tk' } ∧ -(n : Int) ≤ top ∧ top ≤ n ∧ 1 ≤ below ∧ below ≤ n ∧
        St w ["script", "box", "w", "bound", "modulus", "turn", "top", "below", "shared", "rest", "value", "told"] env.locals h' [none, some (.ref box), some (.int k ta), some (.int n tb), some (.int m tc), some (.int (0 + (i : Int) * 1) td), some (.int top t1), some (.int ((below : Nat) : Int) t2), o4, o5, none, none] [(I, o), (box, ob)] [fun h => s.heap.StaysIn h]) ?_ ?_
      · walk_at "m gos"
        · rename St _ _ _ _ _ _ _ => S
          exact ⟨rfl, _, _, 0 - (n : Int), 1, _, _, rfl, by lia, by lia, by lia, by lia, S.weak (by walk_at "m sub") (by walk_at "m all")⟩
        · rw [show (1 : Int) + (e2 : Int) = ((1 + e2 : Nat) : Int) by lia] at S
          exact ⟨rfl, _, _, (e1 : Int) - (n : Int), 1 + e2, _, _, rfl, by lia, by lia, by lia, by lia, S.weak (by walk_at "m sub") (by walk_at "m all")⟩
      · rintro _ ⟨h', tk', top, below, t1, t2, rfl, ht1, ht2, hb1, hb2, S⟩
        dsimp only
        walk_at "m go"
        refine common_spec (m := (below : Int)) (n := m) S.gdh (R.less (by decide)) (by lia) (by lia) ?_
        rintro r h' tk' hk' ⟨tg, rfl⟩
        replace S := S.ext hk'
        by_cases hg : Int.gcd (below : Int) (m : Int) = 1
        · rw [hg]
          walk_at "m gos"
          refine common_spec (m := top) (n := below) S.gdh (R.less (by decide)) (by lia) (by lia) ?_
          rintro r h' tk' hk' ⟨tg2, rfl⟩
          replace S := S.ext hk'
          walk_at "m go"
          rename St _ _ _ _ _ _ _ => S
          refine inverse_spec (n := below) (m := m) S.gdh (R.less (by decide)) (by lia) (by lia) (by lia) hg ?_
          rintro r h' tk' hk' ⟨inv, tv, rfl, hinv, hdv⟩
          replace S := S.ext hk'
          walk_at "m go"
          rename St _ _ _ _ _ _ _ => S
          obtain ⟨v, hv⟩ : ∃ v : Nat, (v : Int) = top * inv % m := ⟨(top * inv % m).toNat, Int.toNat_of_nonneg (Int.emod_nonneg _ (by lia))⟩
          have hvm : v < m := by have := Int.emod_lt_of_pos (top * (inv : Int)) (show (0 : Int) < m by lia); lia
          rw [← hv] at S ⊢
          have RE := rat_start hvm hn1 hm1
          have hgp : 0 < Int.gcd top (below : Int) := Int.gcd_pos_of_ne_zero_right _ (by lia)
          have hgl : ((Int.gcd top (below : Int) : Nat) : Int) ≤ below := Int.le_of_dvd (by lia) (Int.gcd_dvd_right _ _)
          refine told_spec (v := v) (m := m) (n := n) S.gdh (R.less (by decide)) W hvm hm2 (by lia) RE.le ?_
          rintro r h' tk' hk' hT
          obtain ⟨hle, ex, ey⟩ := rat_lowest RE hm1 ht1 ht2 hb1 hb2 hg hdv hv
          unfold numOf at ex
          rcases hT with ⟨hno, rfl⟩ | ⟨_, a, tx, ty, rfl, hfr, hTup⟩
          · exfalso
            have := RE.t1
            lia
          · replace S := S.addNew hk' hfr hTup
            walk_at "m gos"
            rename St _ _ _ _ _ _ _ => S
            exact hT _ _ (fturn_next (ob, _, _, _, _, _) S (by walk_at "m sub") (by walk_at "m all") hB)
        · walk_at "m gos"
          · exfalso; lia
          · exact hT _ _ (fturn_next (ob, _, _, _, _, _) S (by walk_at "m sub") (by walk_at "m all") hB)
    · rintro ⟨ob, o1, o2, o3, o4, o5⟩ h tk hB S
      dsimp only at hB S ⊢
      walk_at "m go"
      walk_at "m toiter"
      rename St _ _ _ _ _ _ _ => S
      refine forRangeS (σ := LawSt) 2 (fun c => [none, some (.ref box), some (.int k ta), some (.int n tb), some (.int m tc), c.2.1, none, none, none, none, c.2.2.1, c.2.2.2.1])
        (fun c x => [none, some (.ref box), some (.int k ta), some (.int n tb), some (.int m tc), some x, none, none, none, none, c.2.2.1, c.2.2.2.1])
        (fun c => [(box, c.1)]) (fun _ => [fun h => s.heap.StaysIn h]) (fun _ c => BoxOk c.1) (ob, none, none, none, none, none) R.hh ?hsm2 ?hn2 Z S (by walk_at "m mem") (by walk_at "m sub") (by walk_at "m all") hB ?_ ?_ ?_
      case hsm2 => decide +kernel
      case hn2 => decide +kernel
      · intro c v; walk_at "m put"
      · rintro T i ⟨ob, o1, o2, o3, o4, o5⟩ td h tk I o hT hi hB S
        dsimp only at hB S
        walk_at "m go"
        refine takeS2 S (R.less (by decide)) hB (by lia) (by lia) ?_
        intro v tv h' te ob hB hv S
        walk_at "m go"
        rename St _ _ _ _ _ _ _ => S
        have hvm : v < m := by lia
        have RE := rat_start hvm hn1 hm1
        refine told_spec (v := v) (m := m) (n := n) S.gdh (R.less (by decide)) W hvm hm2 (by lia) RE.le ?_
        rintro r h' tk' hk' hT
        rcases hT with ⟨hno, rfl⟩ | ⟨⟨k1, k2⟩, a, tx, ty, rfl, hfr, hTup⟩
        · replace S := S.ext hk'
          walk_at "m gos"
          rename St _ _ _ _ _ _ _ => S
          refine there_spec (v := v) (m := m) (n := n) S.gdh (R.less (by decide)) (by lia) (by lia) (by lia) (by lia) (fun d d1 d2 => rat_none RE hm1 hno d d1 d2) ?_
          rintro r h' tk' hk' rfl
          replace S := S.ext hk'
          walk_at "m gos"
          exact hT _ _ (fturn_next (ob, _, _, _, none, none) S (by walk_at "m sub") (by walk_at "m all") hB)
        · have hbel := rat_belongs RE
          have hle := RE.le
          have ht0 := RE.t1
          unfold numOf at hbel
          generalize ratLoop n m v 0 1 false = c at hTup hbel hle ht0 k1 k2
          obtain ⟨oo, t, neg⟩ := c
          dsimp only at hTup hbel hle ht0 k1 k2
          have q0 : ((if neg = true then 0 - (oo : Int) else (oo : Int)).natAbs : Int) ≤ n := by split <;> lia
          generalize (if neg = true then 0 - (oo : Int) else (oo : Int)) = q at hTup hbel q0
          have hmod : (q - (v : Int) * (t : Int)) % (m : Int) = 0 := Int.emod_eq_zero_of_dvd hbel
          replace S := S.addNew hk' hfr hTup
          walk_at "m gos"
          all_goals rename St _ _ _ _ _ _ _ => S
          all_goals first
            | exact hT _ _ (fturn_next (ob, _, _, _, none, none) S (by walk_at "m sub") (by walk_at "m all") hB)
            | (exfalso; contradiction)
            | (exfalso; lia)
            | trace_state
      · rintro ⟨ob, o1, o2, o3, o4, o5⟩ h tk hB S
        dsimp only at hB S ⊢
        walk_at "m gos"
        exact S.done (by walk_at "m mem") hloc

end
end Mine

theorem PySem.Challenge.cw_nz0080_01_holds : PySem.Challenge.rw_nz0080_01.Holds := by
  exact Mine.law_holds
