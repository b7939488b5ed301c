import PyProof.Rows.All
import Wide.All
import OpenK.AllK
import Wide.FinOn
import KE.KDictOf
import Lean
import PySem.Challenge.RW_rg0210_02
set_option Elab.async false

section
open PySem PySem.W PyProof.Rows PySem.Calls
set_option Elab.async false
set_option maxRecDepth 100000
namespace Mine

/-- a ledger laid out in a heap over a base -/
structure Cx (b₀ h : Heap) (led : List (Addr × Obj)) : Prop where
  stays : b₀.StaysIn h
  own : ∀ p ∈ led, h.get? p.1 = some p.2
  new : ∀ p ∈ led, b₀.objs.size ≤ p.1
  nd : (led.map (·.1)).Nodup

/-- a frame's names at L beside a ledger -/
structure Fx (b₀ h : Heap) (L : Addr) (m : Str → Option Value) (led : List (Addr × Obj)) : Prop where
  F : Fr b₀ L h m
  C : Cx b₀ h led
  nL : ∀ p ∈ led, p.1 ≠ L

variable {b₀ h h' : Heap} {L : Addr} {m : Str → Option Value} {led led' pre post : List (Addr × Obj)}

theorem none_of_ge {b : Addr} (hb : b₀.objs.size ≤ b) : b₀.get? b = none := by
  cases q : b₀.get? b with
  | none => rfl
  | some o => exact absurd (Heap.lt_size q) (Nat.not_lt.mpr hb)

theorem Cx.fresh (C : Cx b₀ h led) {p : Addr × Obj} (hp : p ∈ led) : b₀.get? p.1 = none := none_of_ge (C.new p hp)
theorem Fx.N (W : Fx b₀ h L m led) : News b₀ L h led := fun p hp => ⟨W.C.own p hp, W.nL p hp, W.C.fresh hp⟩
theorem Cx.lt (C : Cx b₀ h led) {p : Addr × Obj} (hp : p ∈ led) : p.1 < h.objs.size := Heap.lt_size (C.own p hp)
theorem Fx.ltL (W : Fx b₀ h L m led) : L < h.objs.size := W.F.ns.lt
/-- a heap that keeps everything that stood -/
def Grow (h h' : Heap) : Prop := ∀ b o, h.get? b = some o → h'.get? b = some o
theorem Grow.refl (h : Heap) : Grow h h := fun _ _ e => e
theorem Grow.trans {a b c : Heap} (x : Grow a b) (y : Grow b c) : Grow a c := fun q o e => y q o (x q o e)
theorem Grow.push (h : Heap) (o : Obj) : Grow h (h.push o) := fun _ _ e => Heap.get?_push_of_some _ e
theorem Cx.grow (C : Cx b₀ h led) (g : Grow h h') : Cx b₀ h' led := ⟨fun b o e => g b o (C.stays b o e), fun p hp => g _ _ (C.own p hp), C.new, C.nd⟩
theorem Fx.grow (W : Fx b₀ h L m led) (g : Grow h h') : Fx b₀ h' L m led :=
  ⟨⟨W.F.ns.at' fun o e => g _ o e, fun b o e => g b o (W.F.keep b o e), W.F.above⟩, W.C.grow g, W.nL⟩

theorem Cx.more (C : Cx b₀ h led) {a : Addr} {o : Obj} (ha : h.get? a = some o) (hb : b₀.objs.size ≤ a) (hn : ∀ p ∈ led, p.1 ≠ a) : Cx b₀ h ((a, o) :: led) where
  stays := C.stays
  own := fun p hp => by rcases List.mem_cons.mp hp with rfl | hp; exact ha; exact C.own p hp
  new := fun p hp => by rcases List.mem_cons.mp hp with rfl | hp; exact hb; exact C.new p hp
  nd := by
    rw [List.map_cons, List.nodup_cons]
    refine ⟨fun q => ?_, C.nd⟩
    obtain ⟨p, hp, e⟩ := List.mem_map.mp q
    exact hn p hp e

theorem Fx.push (W : Fx b₀ h L m led) (o : Obj) (hf : o.isFreed = false := by rfl) : Fx b₀ (h.push o) L m ((h.objs.size, o) :: led) := by
  have g := Grow.push h o
  have W' := W.grow g
  refine ⟨W'.F, W'.C.more (Heap.get?_push_size _ hf) (Nat.le_of_lt (Nat.lt_of_le_of_lt W.F.above W.ltL)) fun p hp => Nat.ne_of_lt (W.C.lt hp), fun p hp => ?_⟩
  rcases List.mem_cons.mp hp with rfl | hp
  · exact Nat.ne_of_gt W.ltL
  · exact W.nL p hp

/-- sub-ledgers -/
theorem Cx.sub (C : Cx b₀ h led) (hs : ∀ p ∈ led', p ∈ led) (hn : (led'.map (·.1)).Nodup) : Cx b₀ h led' := ⟨C.stays, fun p hp => C.own p (hs p hp), fun p hp => C.new p (hs p hp), hn⟩
theorem Fx.sub (W : Fx b₀ h L m led) (hs : led'.Sublist led) : Fx b₀ h L m led' :=
  ⟨W.F, W.C.sub (fun _ hp => hs.subset hp) ((hs.map _).nodup W.C.nd), fun p hp => W.nL p (hs.subset hp)⟩
theorem Fx.perm (W : Fx b₀ h L m led) (hs : led'.Perm led) : Fx b₀ h L m led' :=
  ⟨W.F, W.C.sub (fun _ hp => hs.subset hp) ((hs.map _).nodup_iff.mpr W.C.nd), fun p hp => W.nL p (hs.subset hp)⟩

/-- the frame's own object as an entry, and back -/
theorem Fx.out (W : Fx b₀ h L m led) : ∃ oL, Cx b₀ h ((L, oL) :: led) ∧ ∀ h' led', Cx b₀ h' ((L, oL) :: led') → Fx b₀ h' L m led' := by
  obtain ⟨oL, es, ep, hL, r⟩ := W.F.ns
  refine ⟨oL, W.C.more hL W.F.above W.nL, fun h' led' C => ⟨⟨⟨oL, es, ep, C.own _ (.head _), r⟩, C.stays, W.F.above⟩, C.sub (fun _ hp => .tail _ hp) (List.nodup_cons.mp C.nd).2, fun p hp e => ?_⟩⟩
  have := (List.nodup_cons.mp (by simpa using C.nd : (L :: led'.map (·.1)).Nodup)).1
  exact this (List.mem_map.mpr ⟨p, hp, e⟩)

/-- an entry changed -/
theorem nodup_mid {a : Addr} {o : Obj} (hn : ((pre ++ (a, o) :: post).map (·.1)).Nodup) : (∀ p ∈ pre, p.1 ≠ a) ∧ (∀ p ∈ post, p.1 ≠ a) := by
  simp only [List.map_append, List.map_cons] at hn
  rw [List.nodup_append] at hn
  obtain ⟨h1, h2, h3⟩ := hn
  exact ⟨fun p hp e => h3 _ (List.mem_map_of_mem hp) a (.head _) e, fun p hp e => (List.nodup_cons.mp h2).1 (List.mem_map.mpr ⟨p, hp, e⟩)⟩
theorem nodup_swap {a : Addr} {o o' : Obj} (hn : ((pre ++ (a, o) :: post).map (·.1)).Nodup) : ((pre ++ (a, o') :: post).map (·.1)).Nodup := by
  simpa using hn

theorem Cx.set {a : Addr} {o o' : Obj} (C : Cx b₀ h (pre ++ (a, o) :: post)) (hs : Heap.SameBut a h h') (ho : h'.get? a = some o') : Cx b₀ h' (pre ++ (a, o') :: post) := by
  have ⟨n1, n2⟩ := nodup_mid C.nd
  have hm : (a, o) ∈ pre ++ (a, o) :: post := List.mem_append_right _ (.head _)
  refine ⟨fun b x e => (hs.2 b fun q => ?_).trans (C.stays b x e), fun p hp => ?_, fun p hp => ?_, nodup_swap C.nd⟩
  · subst q; have := C.fresh hm; rw [e] at this; cases this
  · rcases List.mem_append.mp hp with q | q
    · exact (hs.2 _ (n1 p q)).trans (C.own p (List.mem_append_left _ q))
    · rcases List.mem_cons.mp q with rfl | q
      · exact ho
      · exact (hs.2 _ (n2 p q)).trans (C.own p (List.mem_append_right _ (.tail _ q)))
  · rcases List.mem_append.mp hp with q | q
    · exact C.new p (List.mem_append_left _ q)
    · rcases List.mem_cons.mp q with rfl | q
      · exact C.new (a, o) hm
      · exact C.new p (List.mem_append_right _ (.tail _ q))
theorem Fx.set {a : Addr} {o o' : Obj} (W : Fx b₀ h L m (pre ++ (a, o) :: post)) (hs : Heap.SameBut a h h') (ho : h'.get? a = some o') : Fx b₀ h' L m (pre ++ (a, o') :: post) := by
  have hm : (a, o) ∈ pre ++ (a, o) :: post := List.mem_append_right _ (.head _)
  have C' := W.C.set hs ho
  have hL : L ≠ a := fun e => W.nL _ hm e.symm
  refine ⟨⟨W.F.ns.at' fun o e => (hs.2 L hL).trans e, C'.stays, W.F.above⟩, C', fun p hp => ?_⟩
  rcases List.mem_append.mp hp with q | q
  · exact W.nL p (List.mem_append_left _ q)
  · rcases List.mem_cons.mp q with rfl | q
    · exact W.nL (a, o) hm
    · exact W.nL p (List.mem_append_right _ (.tail _ q))
/-- the frame's names changed -/
theorem Fx.names {m' : Str → Option Value} (W : Fx b₀ h L m led) (hn : h'.Ns L m') (hs : Heap.SameBut L h h') : Fx b₀ h' L m' led :=
  ⟨W.F.set hn hs, ⟨(W.F.set hn hs).keep, fun p hp => (hs.2 _ (W.nL p hp)).trans (W.C.own p hp), W.C.new, W.C.nd⟩, W.nL⟩

/-- what a def hands back: the frame goes, the rest stands -/
def Back (b₀ : Heap) (L L' : Addr) (m : Str → Option Value) (oL : Obj) (gs : Array GenState) (dr : Drawn) (os : OsState) (Q : Value → Shared → Prop) (v : Value) (s : Shared) : Prop :=
  ∃ h tk led m', s = ⟨h, gs, dr, tk, os⟩ ∧ Fx b₀ h L' m' ((L, oL) :: led) ∧ (Fx b₀ h L m led → Q v ⟨h, gs, dr, tk, os⟩)

section
variable {prog : Program} {w : World} {A : Around} {E : Value → Shared → Prop} {K : Frag} {gs : Array GenState} {dr : Drawn} {os : OsState} {tk : Tok}

theorem enter {Q : Value → Shared → Prop} {f : Addr} {args : Args} {binds : List (Str × Value)} {name qual : Str} {params : Arguments} {body : List Stmt} {scope : Scope} {dV kV doc pm cdv ct oc : Value} {an od : Option Addr} {osl : Array (Option Value)}
    (X : K.In b₀) (hlim : b₀.NoLimit) (W : Fx b₀ h L m led)
    (ho : K.lookup f = some ⟨oc, od, .func (fnOf name qual params body scope dV kV doc pm an cdv ct), osl⟩) (hcd : codeIn K cdv qual = true) (hroom : A.depth < recursionLimit)
    (hbind : BindsTo ⟨h, gs, dr, tk, os⟩ (fnOf name qual params body scope dV kV doc pm an cdv ct) args ((params.args.map (·.arg)).zip args.pos)) (hbl : (params.args.map (·.arg)).zip args.pos = binds)
    (hloc : ∀ y ∈ binds, scope.names.lookup y.1 = some .local)
    (hb : ∀ oL L' h₁ tk₁, Fx b₀ h₁ L' (fun y => binds.reverse.lookup y) ((L, oL) :: led) →
      wpAny (model prog w) (A.deeper (envX qual scope L' f cdv [])) (execs body (envX qual scope L' f cdv []))
        (fun fl s' => Back b₀ L L' m oL gs dr os Q (match fl with | .ret v => v | _ => .none) s') (fun _ _ => False) ⟨h₁, gs, dr, tk₁, os⟩)
    (hco : scope.isCoroutine = false := by rfl) (hgen : scope.isGenerator = false := by rfl) (hk : scope.kind = .function := by rfl)
    (hcell : ∀ x ∈ scope.names, x.2 ≠ .cell := by decide) :
    wpAny (model prog w) A (call (.ref f) args.pos args.kw) Q E ⟨h, gs, dr, tk, os⟩ := by
  rw [hbl] at hbind
  obtain ⟨oL, C, back⟩ := W.out
  refine wpAny_call (codeAny_call_def (fd := fnOf name qual params body scope dV kV doc pm an cdv ct) (body := body) (binds := binds) hroom (C.stays _ _ (X _ _ ho)) rfl (hlim.keeps C.stays) (codeRec_of (X.keeps C.stays) hcd) rfl hbind hcell hloc (fun h₁ hns hk₁ => ?_) hco hgen hk)
  have C₁ : Cx b₀ h₁ ((L, oL) :: led) := C.grow hk₁
  have W₁ : Fx b₀ h₁ h.objs.size (fun y => binds.reverse.lookup y) ((L, oL) :: led) := ⟨⟨hns, C₁.stays, Nat.le_of_lt (Nat.lt_of_le_of_lt W.F.above W.ltL)⟩, C₁, fun p hp => Nat.ne_of_lt (C.lt hp)⟩
  refine wpAny_mono (hb oL _ h₁ _ W₁) (fun fl s' hB => ?_) fun _ _ e => e.elim
  obtain ⟨h₂, tk₂, led₂, m₂, rfl, W₂, k⟩ := hB
  exact k (back h₂ led₂ W₂.C)

theorem back_ {Q : Value → Shared → Prop} {v : Value} {oL : Obj} {L' : Addr} {m' : Str → Option Value} (W : Fx b₀ h L' m' ((L, oL) :: led)) (k : Fx b₀ h L m led → Q v ⟨h, gs, dr, tk, os⟩) :
    Back b₀ L L' m oL gs dr os Q v ⟨h, gs, dr, tk, os⟩ := ⟨h, tk, led, m', rfl, W, k⟩
/-- with new entries ahead, dropped -/
theorem backD {Q : Value → Shared → Prop} {v : Value} {oL : Obj} {L' : Addr} {m' : Str → Option Value} (new : List (Addr × Obj)) (W : Fx b₀ h L' m' (new ++ (L, oL) :: led)) (k : Fx b₀ h L m led → Q v ⟨h, gs, dr, tk, os⟩) :
    Back b₀ L L' m oL gs dr os Q v ⟨h, gs, dr, tk, os⟩ := ⟨h, tk, led, m', rfl, W.sub (List.sublist_append_right _ _), k⟩
end
end Mine
end

section
open PySem PySem.W PyProof.Rows PySem.Calls
set_option Elab.async false
set_option maxRecDepth 100000
namespace Mine

/-- what the walk needs of the top -/
structure Tp (mg mb : Str → Option Value) (h : Heap) : Prop where
  g : h.Ns mainGlobals mg
  b : h.Ns builtinsNs mb
  nolimit : h.NoLimit
  builtins : ∀ x : Str, x ≠ "__name__" → mb x = bootBuiltins x
/-- room for k more calls -/
structure Rm (A : Around) (k : Nat) : Prop where
  hh : A.handled = none
  dp : A.depth + k < 1000
  un : A.units + 8 * k < 9900
theorem Rm.deeper {A : Around} {k : Nat} {env : Env} (r : Rm A (k + 1)) : Rm (A.deeper env) k := ⟨r.hh, by have := r.dp; show A.depth + 1 + k < 1000; omega, by have := r.un; show A.units + 3 + 8 * k < 9900; omega⟩
theorem Rm.le {A : Around} {k j : Nat} (r : Rm A k) (h : j ≤ k) : Rm A j := ⟨r.hh, by have := r.dp; omega, by have := r.un; omega⟩
theorem Rm.room {A : Around} {k : Nat} (r : Rm A (k + 1)) : A.depth < recursionLimit := by have := r.dp; show A.depth < 1000; omega
theorem Rm.units {A : Around} {k : Nat} (r : Rm A (k + 1)) : A.units < cLine := by have := r.un; show A.units < 9900; omega
section
variable {prog : Program} {w : World} {M : Model} {A : Around} {E : Value → Shared → Prop} {K : Frag} {gs : Array GenState} {dr : Drawn} {os : OsState} {tk : Tok}
  {b₀ h : Heap} {L a : Addr} {m mg mb : Str → Option Value} {led pre post : List (Addr × Obj)} {cn : Str} {cs : Scope} {ccd : Value} {cl : List (Str × Addr)} {x : Str} {pos : Pos} {v : Value}
  {Q : Value → Shared → Prop}

theorem rLoc {env : Env} (W : Fx b₀ h L m led) (hv : m x = some v) (k : Q v ⟨h, gs, dr, tk, os⟩) (hL : env.locals = L)
    (hk : env.scope.kind = .function := by rfl) (hx : env.kindOf x = some .local := by rfl) (hd : (x == ("__debug__" : Str)) = false := by decide) :
    wpAny M A (eval (.Name x pos) env) Q E ⟨h, gs, dr, tk, os⟩ := wpAny_Name (wpAny_loadName_local hk hx (hL ▸ W.F.ns) hv k) hd
theorem rGlob {env : Env} (W : Fx b₀ h L m led) (X : K.In b₀) (T : Tp mg mb b₀) (e : nsIn K mainGlobals x = some (some v)) (k : Q v ⟨h, gs, dr, tk, os⟩) (hG : env.globals = mainGlobals)
    (hk : env.scope.kind = .function := by rfl) (hx : env.kindOf x = some .globalImplicit := by rfl) (hd : (x == ("__debug__" : Str)) = false := by decide) :
    wpAny M A (eval (.Name x pos) env) Q E ⟨h, gs, dr, tk, os⟩ := Name_function_global hk hx (loadGlobal_global (env := env) (by rw [hG]; exact T.g.keeps W.F.keep) (mg_of X T.g e) k) hd
theorem rBoot {env : Env} (W : Fx b₀ h L m led) (X : K.In b₀) (T : Tp mg mb b₀) (e : nsIn K mainGlobals x = some none) (hv : bootBuiltins x = some v) (hn : x ≠ "__name__") (k : Q v ⟨h, gs, dr, tk, os⟩) (hG : env.globals = mainGlobals) (hB : env.builtins = builtinsNs)
    (hk : env.scope.kind = .function := by rfl) (hx : env.kindOf x = some .globalImplicit := by rfl) (hd : (x == ("__debug__" : Str)) = false := by decide) :
    wpAny M A (eval (.Name x pos) env) Q E ⟨h, gs, dr, tk, os⟩ :=
  Name_function_global hk hx (loadGlobal_builtin (env := env) (by rw [hG]; exact T.g.keeps W.F.keep) (mg_none_of X T.g e) (by rw [hB]; exact T.b.keeps W.F.keep) ((T.builtins x hn).trans hv) k) hd
theorem rCell {env : Env} {c : Addr} {o : Obj} (W : Fx b₀ h L m led) (hc : env.cells.lookup x = some c) (hm : (c, o) ∈ led) (hd : o.data = .cell (some v)) (k : Q v ⟨h, gs, dr, tk, os⟩)
    (hk : env.scope.kind = .function := by rfl) (hx : env.kindOf x = some .cell := by rfl) (hb : (x == ("__debug__" : Str)) = false := by decide) :
    wpAny M A (eval (.Name x pos) env) Q E ⟨h, gs, dr, tk, os⟩ := wpAny_Name (wpAny_loadName_cell hk hx hc ⟨o, W.C.own _ hm, hd⟩ k) hb
theorem rInt {env : Env} {i : Int} {kk : Nat} (k : ∀ t tk', Q (.int i t) ⟨h, gs, dr, tk', os⟩) : wpAny M A (eval (.Constant (.int i) kk pos) env) Q E ⟨h, gs, dr, tk, os⟩ := wpAny_Constant_int (k _ _)
theorem rStr {env : Env} {y : Str} {kk : Nat} (k : ∀ t tk', Q (.str y t) ⟨h, gs, dr, tk', os⟩) : wpAny M A (eval (.Constant (.str y) kk pos) env) Q E ⟨h, gs, dr, tk, os⟩ := Calls.Constant_str (k _ _)

/-- storing a local -/
theorem rSt {env : Env} {Q : Unit → Shared → Prop} (W : Fx b₀ h L m led) (k : ∀ h' tk', Fx b₀ h' L (fun y => if y = x then some v else m y) led → Q () ⟨h', gs, dr, tk', os⟩) (hL : env.locals = L)
    (hx : env.kindOf x = some .local) (hp : (env.scope.kind == .class || (env.scope.kind == .module && env.locals != env.globals)) = false) : wpAny M A (storeName env x v) Q E ⟨h, gs, dr, tk, os⟩ := by
  subst hL
  exact wpAny_storeName_local hx W.F.ns (fun h' hn hs => k h' _ (W.names hn hs)) hp
end

section
variable {prog : Program} {w : World} {A : Around} {E : Value → Shared → Prop} {K : Frag} {gs : Array GenState} {dr : Drawn} {os : OsState} {tk : Tok}
  {b₀ h : Heap} {L x C dx : Addr} {m : Str → Option Value} {led pre post : List (Addr × Obj)} {v : Value} {name : Str} {Q : Value → Shared → Prop}
/-- an attribute of an object, from its dict -/
theorem rGet {es : List DictEntry} {n : Nat} {expr : Bool} {attr : Option Value} (W : Fx b₀ h L m led) (X : K.In b₀) (hi : (x, instObj C dx) ∈ led) (hd : (dx, dictOf es n) ∈ led)
    (hg : plainGet K C name = true) (hh : hasDictIn K C = true) (ha : findIn K (.ref C) name = some attr) (hn : noGet K attr = true) (hl : getL name es = some (some v)) (hv : handedIn v = true) (k : ∀ tk', Q v ⟨h, gs, dr, tk', os⟩) :
    wpAny (model prog w) A (getAttr (.ref x) name expr) Q E ⟨h, gs, dr, tk, os⟩ := get_own W.F X (_root_.PySem.W.InstAt.of_news W.N hi hd) hg hh ha hn hl hv (k _)
/-- a method of an object's class -/
theorem rMeth {es : List DictEntry} {n : Nat} {pl : Sem Bool} {f : Addr} {Q : Value × List Value → Shared → Prop} (W : Fx b₀ h L m led) (X : K.In b₀) (hi : (x, instObj C dx) ∈ led) (hd : (dx, dictOf es n) ∈ led)
    (hg : plainGet K C name = true) (hf : findIn K (.ref C) name = some (some (.ref f))) (ht : isFn K (.ref f) = true) (hl : getL name es = some none) (k : Q (.ref f, [.ref x]) ⟨h, gs, dr, tk, os⟩) :
    wpAny (model prog w) A (getMethod (.ref x) name pl) Q E ⟨h, gs, dr, tk, os⟩ := method_inst W.F X (_root_.PySem.W.InstAt.of_news W.N hi hd) hg hf ht hl k

theorem isList_of {l : Addr} {vs : Array Value} {n : Nat} (C : Cx b₀ h led) (hm : (l, listOf vs n) ∈ led) : h.IsList l vs := ⟨_, C.own _ hm, rfl, n, rfl⟩
abbrev tupO (vs : List Value) : Obj := { cls := .type "tuple", data := .seq vs.toArray }
theorem isTup_of {l : Addr} {vs : List Value} (C : Cx b₀ h led) (hm : (l, tupO vs) ∈ led) : IsTup h l vs.toArray := ⟨_, C.own _ hm, rfl, 0, rfl⟩

/-- an item of a list at an index in bounds -/
theorem rItemL {value slice : Expr} {l : Addr} {vs : Array Value} {n i : Nat} {u : Tok} (W : Fx b₀ h L m led) (hm : (l, listOf vs n) ∈ led) (hi : vs[i]? = some v) (hb : (i : Int) < 2 ^ 63) (k : Q v ⟨h, gs, dr, tk, os⟩)
    (hs : subscripted slice false (.ref l) (.int i u) = operate [.ref l, .int i u] (getItem (.ref l) (.int i u)) := by with_unfolding_all rfl) :
    wpAny (model prog w) A (subscriptTail value slice (.ref l) (.int i u)) Q E ⟨h, gs, dr, tk, os⟩ :=
  have hL := isList_of W.C hm
  tail_any hL.typeIs slot_list_getitem.lookup (wpAny_getItem_list hL (Int.natCast_nonneg i) hb (by simpa using hi) k) hs
/-- a new tuple -/
theorem rTup {vs : List Value} (W : Fx b₀ h L m led) (k : ∀ x h', Fx b₀ h' L m ((x, tupO vs) :: led) → Q (.ref x) ⟨h', gs, dr, tk, os⟩) (hsz : vs.length ≤ 16777216 := by simp) :
    wpAny (model prog w) A (newTuple vs) Q E ⟨h, gs, dr, tk, os⟩ :=
  wpAny_newObj_type (k _ _ (W.push _)) (by show vs.toArray.size ≤ sizeLine; rw [List.size_toArray]; exact hsz)
/-- a new list -/
theorem rList {vs : List Value} (W : Fx b₀ h L m led) (k : ∀ x h', Fx b₀ h' L m ((x, listOf vs.toArray 0) :: led) → Q (.ref x) ⟨h', gs, dr, tk, os⟩) (hsz : vs.length ≤ 16777216 := by simp) :
    wpAny (model prog w) A (newList vs) Q E ⟨h, gs, dr, tk, os⟩ :=
  wpAny_newObj_type (k _ _ (W.push _)) (by show vs.toArray.size ≤ sizeLine; rw [List.size_toArray]; exact hsz)
end
end Mine
end

section
open PySem PySem.W PyProof.Rows PySem.Calls
set_option Elab.async false
set_option maxRecDepth 100000
namespace Mine

/-- what a term's key holds -/
structure KT where
  op : Str
  args : List Int
  sort : Int
  data : Int
  deriving DecidableEq

section
variable {prog : Program} {w : World}

def IsKT (prog : Program) (w : World) (h : Heap) (k : KT) (a : Addr) : Prop :=
  ∃ o n t1 aa t2 t3, h.get? a = some o ∧ o.cls = .type "tuple" ∧ o.data = .seq #[.str k.op t1, .ref aa, .int k.sort t2, .int k.data t3] n ∧ IsTupleKey (PySem.intKind prog w) h k.args aa

theorem IsKT.inj {h : Heap} {a : Addr} {x y : KT} (hx : IsKT prog w h x a) (hy : IsKT prog w h y a) : x = y := by
  obtain ⟨o, n, t1, aa, t2, t3, ho, _, hd, hi⟩ := hx
  obtain ⟨o', n', t1', aa', t2', t3', ho', _, hd', hi'⟩ := hy
  obtain rfl : o = o' := Option.some.inj (ho.symm.trans ho')
  rw [hd] at hd'
  simp at hd'
  obtain ⟨⟨⟨e1, _⟩, e2, ⟨e3, _⟩, e4, _⟩, _⟩ := hd'
  subst e2
  have e5 := hi.inj hi'
  obtain ⟨a1, a2, a3, a4⟩ := x
  obtain ⟨b1, b2, b3, b4⟩ := y
  simp_all

theorem IsKT.keeps {h h' : Heap} {k : KT} {a d : Addr} {o : Obj} {es ep} (x : IsKT prog w h k a) (ho : h.get? d = some o) (hd : o.data = .dict es ep) (hs : Heap.SameBut d h h') : IsKT prog w h' k a := by
  obtain ⟨o', n, t1, aa, t2, t3, ho', hc, hd', hi⟩ := x
  have hne : a ≠ d := by
    rintro rfl
    obtain rfl : o' = o := Option.some.inj (ho'.symm.trans ho)
    rw [hd] at hd'; exact nomatch hd'
  exact ⟨o', n, t1, aa, t2, t3, (hs.2 a hne).trans ho', hc, hd', hi.keeps ho hd hs⟩
theorem IsKT.typeIs {s : Shared} {k : KT} {a : Addr} (x : IsKT prog w s.heap k a) : s.TypeIs (.ref a) "tuple" := let ⟨o, _, _, _, _, _, ho, hc, _⟩ := x; ⟨o, ho, hc⟩

def ktHash (prog : Program) (w : World) (k : KT) : Int := reduceHash (Builtin.Tuple.tupleHashOf [hashStr w k.op, tupleKeyHash (PySem.intKind prog w) k.args, hashInt k.sort, hashInt k.data])

variable {A : Around} {E : Value → Shared → Prop} {s : Shared}

theorem wpAny_pyHash_KT {k : KT} {a : Addr} {Q : Int → Shared → Prop} (hu : A.units < cLine ∧ A.in1.units < cLine) (hk : IsKT prog w s.heap k a) (h : Q (ktHash prog w k) { s with toks := s.toks + (k.args.length + 5) }) :
    wpAny (model prog w) A (pyHash (.ref a)) Q E s := by
  have hT := hk.typeIs
  obtain ⟨o, n, t1, aa, t2, t3, ho, _, hd, hi⟩ := hk
  unfold pyHash
  first | unfold pyHashByItsType | skip
  first | refine wpAny_bind (wpAny_cRoomFor_or (.inr hu.1) ?_) | skip
  refine wpAny_bind (wpAny_specialOf hT F.slot_tuple_hash.lookup ?_)
  show wpAny _ _ (if (some (Value.builtin "tuple.__hash__") == some Value.none) = true then _ else _) Q E s
  rw [if_neg (by rw [beq_builtin_none]; exact Bool.false_ne_true)]
  refine wpAny_bind (wpAny_specialOf hT F.slot_tuple_hash.lookup ?_)
  show wpAny _ _ (callSpecialIfBoundUnlessNone? (.ref a) "__hash__" _ >>= _) Q E s
  refine wpAny_bind (wpAny_callSpecialIfBoundUnlessNone?_slot hT F.slot_tuple_hash (wpAny_call_entry F.slot_tuple_hash hT F.entry_tuple_hash ?_ (F.args_tuple_hash_1 _)))
  show wpAny _ _ (Builtin.Tuple.tupleItemsOf (.ref a) >>= _) _ _ s
  refine wpAny_bind (wpAny_tupleItemsOf ho hd ?_)
  refine wpAny_bind ?_
  rw [← Array.forIn_toList]
  simp only [List.forIn_cons, List.forIn_nil]
  refine wpAny_bind (wpAny_bind (PySem.wpAny_pyHash_str ?_))
  refine wpAny_pure ?_
  dsimp only
  refine wpAny_bind (wpAny_bind (PySem.wpAny_pyHash_tuple hu.2 hi ?_))
  refine wpAny_pure ?_
  dsimp only
  refine wpAny_bind (wpAny_bind (wpAny_pyHash_int ?_))
  refine wpAny_pure ?_
  dsimp only
  refine wpAny_bind (wpAny_bind (wpAny_pyHash_int ?_))
  refine wpAny_pure ?_
  dsimp only
  refine wpAny_pure ?_
  show wpAny _ _ (retInt (Builtin.Tuple.tupleHashOf [hashStr w k.op, tupleKeyHash (PySem.intKind prog w) k.args, hashInt k.sort, hashInt k.data])) _ _ _
  refine wpAny_ret_mkInt ?_
  unfold ktHash reduceHash at h
  generalize Builtin.Tuple.tupleHashOf [hashStr w k.op, tupleKeyHash (PySem.intKind prog w) k.args, hashInt k.sort, hashInt k.data] = H at h ⊢
  show wpAny _ _ (if (decide (-(2 : Int) ^ 63 ≤ H) && decide (H < 2 ^ 63)) = true then _ else _) Q E _
  have et : s.toks + (k.args.length + 5) = s.toks + 1 + (k.args.length + 1) + 1 + 1 + 1 := by omega
  rw [et] at h
  by_cases hr : (decide (-(2 : Int) ^ 63 ≤ H) && decide (H < 2 ^ 63)) = true
  · rw [if_pos hr]
    rw [if_pos hr] at h
    exact wpAny_pure h
  · rw [if_neg hr]
    rw [if_neg hr] at h
    exact wpAny_bind (wpAny_rule (wpAny_pure h))

theorem kt_eq_tree {x y : KT} {a b : Addr} {P : Fin → Shared → Prop} (hu : A.units < cLine) (hx : IsKT prog w s.heap x a) (hy : IsKT prog w s.heap y b) (h : P (.done (.ret (.bool (decide (x = y))))) s) :
    wpAny (model prog w) A (Builtin.«tuple.__eq__» ⟨[.ref a, .ref b], []⟩) P E s := by
  have hTb := hy.typeIs
  obtain ⟨oa, na, t1, aa, t2, t3, hoa, _, hda, hia⟩ := hx
  obtain ⟨ob, nb, u1, ab, u2, u3, hob, _, hdb, hib⟩ := hy
  obtain ⟨o1, a1, s1, d1⟩ := x
  obtain ⟨o2, a2, s2, d2⟩ := y
  show wpAny _ _ (isInstance (.ref b) (.type "tuple") >>= _) _ _ s
  refine wpAny_bind (wpAny_isInstance hTb isSubtype_tuple_tuple ?_)
  simp only [Bool.not_true, Bool.false_eq_true, if_false]
  refine wpAny_bind (wpAny_tupleItemsOf hoa hda ?_)
  refine wpAny_bind (wpAny_tupleItemsOf hob hdb ?_)
  refine wpAny_bind ?_
  simp only [List.zip_cons_cons, List.zip_nil_right, List.forIn_cons, List.forIn_nil]
  refine wpAny_bind (wpAny_bind (PySem.wpAny_eqBool_str ?_))
  by_cases e1 : o1 = o2
  · rw [decide_eq_true e1]
    simp only [Bool.not_true, Bool.false_eq_true, if_false]
    refine wpAny_pure ?_
    dsimp only
    refine wpAny_bind (wpAny_bind (PySem.wpAny_eqBool_tuple hu hia hib ?_))
    by_cases e2 : a1 = a2
    · rw [decide_eq_true e2]
      simp only [Bool.not_true, Bool.false_eq_true, if_false]
      refine wpAny_pure ?_
      dsimp only
      refine wpAny_bind (wpAny_bind (wpAny_eqBool_int ?_))
      by_cases e3 : s1 = s2
      · rw [show (s1 == s2) = true from by simpa using e3]
        simp only [Bool.not_true, Bool.false_eq_true, if_false]
        refine wpAny_pure ?_
        dsimp only
        refine wpAny_bind (wpAny_bind (wpAny_eqBool_int ?_))
        by_cases e4 : d1 = d2
        · rw [show (d1 == d2) = true from by simpa using e4]
          simp only [Bool.not_true, Bool.false_eq_true, if_false]
          refine wpAny_pure ?_
          dsimp only
          refine wpAny_pure (wpAny_pure ?_)
          subst e1 e2 e3 e4
          have h' : P (.done (.ret (.bool true))) s := by simpa using h
          exact h'
        · rw [show (d1 == d2) = false from by simpa using e4]
          simp only [Bool.not_false, if_true]
          refine wpAny_bind (wpAny_pure (wpAny_pure (wpAny_pure (wpAny_pure ?_))))
          simpa [e4] using h
      · rw [show (s1 == s2) = false from by simpa using e3]
        simp only [Bool.not_false, if_true]
        refine wpAny_bind (wpAny_pure (wpAny_pure (wpAny_pure (wpAny_pure ?_))))
        simpa [e3] using h
    · rw [decide_eq_false e2]
      simp only [Bool.not_false, if_true]
      refine wpAny_bind (wpAny_pure (wpAny_pure (wpAny_pure (wpAny_pure ?_))))
      simpa [e2] using h
  · rw [decide_eq_false e1]
    simp only [Bool.not_false, if_true]
    refine wpAny_bind (wpAny_pure (wpAny_pure (wpAny_pure (wpAny_pure ?_))))
    simpa [e1] using h

theorem wpAny_eqBool_KT {x y : KT} {a b : Addr} {Q : Bool → Shared → Prop} (hu : A.units < cLine ∧ A.in1.units < cLine) (hx : IsKT prog w s.heap x a) (hy : IsKT prog w s.heap y b) (h : Q (decide (x = y)) s) :
    wpAny (model prog w) A (eqBool (.ref a) (.ref b)) Q E s := by
  unfold eqBool
  try with_reducible refine wpAny_holding ?_
  show wpAny _ _ (if (Value.ref a == Value.ref b) = true then _ else _) Q E s
  by_cases hab : (Value.ref a == Value.ref b) = true
  · rw [if_pos hab]
    have e : a = b := by have := eq_of_beq hab; injection this
    subst e
    obtain rfl := hx.inj hy
    exact wpAny_bind (wpAny_rule (wpAny_pure (by simpa using h)))
  · rw [if_neg hab]
    exact wpAny_bind (wpAny_richCompare_same_room (op := .Eq) hx.typeIs hy.typeIs F.slot_tuple_eq
      (wpAny_call_entry F.slot_tuple_eq hx.typeIs F.entry_tuple_eq (kt_eq_tree hu.2 hx hy ⟨_, rfl, (fun e => nomatch e), wpAny_truthy_bool h⟩) (F.args_tuple_eq_2 _ _)) hu.1)

theorem quiet_tup {ks : List Int} {a : Addr} {d : Nat} {Q : Bool → Shared → Prop} (hk : IsTupleKey (PySem.intKind prog w) s.heap ks a) (h : Q true s) : wpAny (model prog w) A (eqIsQuiet (d + 1) (.ref a)) Q E s := by
  have hT := hk.typeIs
  obtain ⟨o, items, n, ho, _, hd, hi⟩ := hk
  unfold eqIsQuiet
  refine wpAny_bind (wpAny_specialOf hT F.slot_tuple_eq.lookup ?_)
  show wpAny _ _ (isInstance (.ref a) (.type "tuple") >>= _) _ _ s
  refine wpAny_bind (wpAny_isInstance hT isSubtype_tuple_tuple ?_)
  simp only [Bool.not_true, Bool.false_eq_true, if_false]
  refine wpAny_bind (wpAny_seqItems ho hd ?_)
  refine wpAny_bind ?_
  show wpAny _ _ (forIn items _ _) _ _ s
  rw [← Array.forIn_toList]
  refine wpAny_forIn_list _ (fun rest r s' => r.1 = none ∧ s' = s ∧ ∀ v ∈ rest, carriedByValue v = true) _ ?_ ?_ _ _ ⟨rfl, rfl, hi.byValue⟩
  · rintro v rest r s' ⟨hr, rfl, hall⟩
    rw [eqIsQuiet_byValue _ (hall v List.mem_cons_self)]
    refine wpAny_bind (wpAny_pure ?_)
    simp only [Bool.not_true, Bool.false_eq_true, if_false]
    exact wpAny_pure ⟨rfl, rfl, fun u hu' => hall u (List.mem_cons_of_mem _ hu')⟩
  · rintro ⟨r1, r2⟩ s' ⟨hr, rfl, _⟩
    simp only at hr
    subst hr
    exact wpAny_pure h
theorem wpAny_quiet_KT {k : KT} {a : Addr} {Q : Bool → Shared → Prop} (hk : IsKT prog w s.heap k a) (h : Q true s) : wpAny (model prog w) A (eqIsQuiet 8 (.ref a)) Q E s := by
  have hT := hk.typeIs
  obtain ⟨o, n, t1, aa, t2, t3, ho, _, hd, hi⟩ := hk
  unfold eqIsQuiet
  refine wpAny_bind (wpAny_specialOf hT F.slot_tuple_eq.lookup ?_)
  show wpAny _ _ (isInstance (.ref a) (.type "tuple") >>= _) _ _ s
  refine wpAny_bind (wpAny_isInstance hT isSubtype_tuple_tuple ?_)
  simp only [Bool.not_true, Bool.false_eq_true, if_false]
  refine wpAny_bind (wpAny_seqItems ho hd ?_)
  refine wpAny_bind ?_
  show wpAny _ _ (forIn (#[_, _, _, _] : Array Value) _ _) _ _ s
  rw [← Array.forIn_toList]
  simp only [List.forIn_cons, List.forIn_nil]
  rw [eqIsQuiet_byValue 7 (v := .str k.op t1) rfl, eqIsQuiet_byValue 7 (v := .int k.sort t2) rfl, eqIsQuiet_byValue 7 (v := .int k.data t3) rfl]
  refine wpAny_bind (wpAny_bind (wpAny_pure ?_))
  simp only [Bool.not_true, Bool.false_eq_true, if_false]
  refine wpAny_pure ?_
  dsimp only
  refine wpAny_bind (wpAny_bind (quiet_tup hi ?_))
  simp only [Bool.not_true, Bool.false_eq_true, if_false]
  refine wpAny_pure ?_
  dsimp only
  refine wpAny_bind (wpAny_bind (wpAny_pure ?_))
  simp only [Bool.not_true, Bool.false_eq_true, if_false]
  refine wpAny_pure ?_
  dsimp only
  refine wpAny_bind (wpAny_bind (wpAny_pure ?_))
  simp only [Bool.not_true, Bool.false_eq_true, if_false]
  exact wpAny_pure (wpAny_pure (wpAny_pure h))
end

def ktKind (prog : Program) (w : World) : HeapKind prog w KT where
  is := IsKT prog w
  hash := ktHash prog w
  draws := fun k => k.args.length + 5
  room := fun A => A.units < cLine ∧ A.in1.units < cLine
  inj := fun hx hy => hx.inj hy
  keeps := fun x ho hd hs => x.keeps ho hd hs
  pyHash := fun hu hk h => wpAny_pyHash_KT hu hk h
  eqBool := fun hu hx hy h => wpAny_eqBool_KT hu hx hy h
  quiet := fun hk h => wpAny_quiet_KT hk h
end Mine
end

section
open PySem PySem.W PyProof.Rows PySem.Calls
set_option Elab.async false
set_option maxRecDepth 100000
namespace Mine

inductive Op | nil | tru | fls | app | neg | con | dis | xr | imp | eq | ite
  deriving DecidableEq
def Op.s : Op → String
  | nil => "" | tru => "true" | fls => "false" | app => "app" | neg => "not" | con => "and" | dis => "or" | xr => "xor" | imp => "=>" | eq => "=" | ite => "ite"
def Op.str (o : Op) : Str := Str.ofString o.s
theorem Op.str_inj : ∀ {a b : Op}, a.str = b.str → a = b := by
  intro a b
  cases a <;> cases b <;> first | (intro _; rfl) | (intro h; exact absurd h (by decide))

structure Tm where
  op : Op
  args : List Nat
  data : Nat
  deriving DecidableEq
theorem map_inj : ∀ {a b : List Nat}, (a.map fun n : Nat => (n : Int)) = b.map (fun n : Nat => (n : Int)) → a = b
  | [], [], _ => rfl
  | x :: r, y :: r', h => by
    simp only [List.map_cons, List.cons.injEq] at h
    rw [Int.ofNat.inj h.1, map_inj h.2]
def Tm.key (t : Tm) : KT := ⟨t.op.str, t.args.map fun n : Nat => (n : Int), 0, (t.data : Int)⟩
theorem Tm.key_inj {a b : Tm} (h : a.key = b.key) : a = b := by
  obtain ⟨o, as, d⟩ := a
  obtain ⟨o', as', d'⟩ := b
  simp only [Tm.key, KT.mk.injEq] at h
  obtain ⟨h1, h2, _, h3⟩ := h
  have e2 : as = as' := map_inj h2
  simp [Op.str_inj h1, e2, Int.ofNat.inj h3]

set_option genSizeOf false in
set_option genInjectivity false in
/-- the bank's addresses and the tokens of its dict -/
structure BA where
  self : Addr
  d : Addr
  fn : Addr
  fa : Addr
  fr : Addr
  op : Addr
  ar : Addr
  so : Addr
  da : Addr
  nu : Addr
  sn : Addr
  sw : Addr
  t : Nat → Tok
  n : Nat
set_option genSizeOf false in
set_option genInjectivity false in
/-- what the bank's lists hold -/
structure BC where
  fnV : Array Value
  faV : Array Value
  frV : Array Value
  opV : Array Value
  arV : Array Value
  soV : Array Value
  daV : Array Value
  nuV : List DictEntry
  k : Nat → Nat
  tups : List (Addr × Obj)

section
variable (P : Params) (C : Addr)
def ent (x : Str) (t : Tok) (v : Value) : DictEntry := ⟨PyData.keyHash P x, .str x t, v⟩
abbrev bankEs (α : BA) : List DictEntry := [
  ent P "sort_names" (α.t 0) (.ref α.sn), ent P "sort_widths" (α.t 1) (.ref α.sw), ent P "fun_names" (α.t 2) (.ref α.fn), ent P "fun_args" (α.t 3) (.ref α.fa), ent P "fun_results" (α.t 4) (.ref α.fr),
  ent P "fresh_count" (α.t 5) (.int 0 (α.t 6)), ent P "term_ops" (α.t 7) (.ref α.op), ent P "term_args" (α.t 8) (.ref α.ar), ent P "term_sorts" (α.t 9) (.ref α.so), ent P "term_datas" (α.t 10) (.ref α.da),
  ent P "numbers" (α.t 11) (.ref α.nu), ent P "true_number" (α.t 12) (.int 1 (α.t 13)), ent P "false_number" (α.t 14) (.int 2 (α.t 15))]
abbrev bankLed (α : BA) (σ : BC) : List (Addr × Obj) :=
  (α.self, instObj C α.d) :: (α.d, dictOf (bankEs P α) α.n) :: (α.fn, listOf σ.fnV (σ.k 0)) :: (α.fa, listOf σ.faV (σ.k 1)) :: (α.fr, listOf σ.frV (σ.k 2)) ::
  (α.op, listOf σ.opV (σ.k 3)) :: (α.ar, listOf σ.arV (σ.k 4)) :: (α.so, listOf σ.soV (σ.k 5)) :: (α.da, listOf σ.daV (σ.k 6)) :: (α.nu, dictOf σ.nuV (σ.k 7)) :: σ.tups
end

/-- the tuple at a holds these numbers -/
def IsArgs (tups : List (Addr × Obj)) (a : Addr) (l : List Nat) : Prop := ∃ vs, (a, tupO vs) ∈ tups ∧ IntsAre vs (l.map fun n : Nat => (n : Int))
def IsKey (tups : List (Addr × Obj)) (k : Tm) (a : Addr) : Prop := ∃ t1 aa t2 t3, (a, tupO [.str k.op.str t1, .ref aa, .int 0 t2, .int k.data t3]) ∈ tups ∧ IsArgs tups aa k.args
theorem IsArgs.mono {t t' : List (Addr × Obj)} {a : Addr} {l : List Nat} (x : IsArgs t a l) (h : ∀ p ∈ t, p ∈ t') : IsArgs t' a l := let ⟨vs, h1, h2⟩ := x; ⟨vs, h _ h1, h2⟩
theorem IsKey.mono {t t' : List (Addr × Obj)} {a : Addr} {k : Tm} (x : IsKey t k a) (h : ∀ p ∈ t, p ∈ t') : IsKey t' k a := let ⟨t1, aa, t2, t3, h1, h2⟩ := x; ⟨t1, aa, t2, t3, h _ h1, h2.mono h⟩

theorem itemsAre_ints {prog : Program} {w : World} {vs : List Value} {ns : List Int} (x : IntsAre vs ns) : ItemsAre (PySem.intKind prog w) ns vs := by
  induction x with
  | nil => exact .nil
  | cons n t _ ih => exact .cons (by simp [PySem.intKind, Value.isInt]) ih
section
variable {prog : Program} {w : World} {b₀ h : Heap} {led : List (Addr × Obj)}
theorem IsArgs.key {tups : List (Addr × Obj)} {a : Addr} {l : List Nat} (x : IsArgs tups a l) (C : Cx b₀ h led) (hs : ∀ p ∈ tups, p ∈ led) : IsTupleKey (PySem.intKind prog w) h (l.map fun n : Nat => (n : Int)) a := by
  obtain ⟨vs, h1, h2⟩ := x
  exact ⟨_, _, _, C.own _ (hs _ h1), rfl, rfl, by simpa using itemsAre_ints h2⟩
theorem IsKey.key {tups : List (Addr × Obj)} {a : Addr} {k : Tm} (x : IsKey tups k a) (C : Cx b₀ h led) (hs : ∀ p ∈ tups, p ∈ led) : IsKT prog w h k.key a := by
  obtain ⟨t1, aa, t2, t3, h1, h2⟩ := x
  exact ⟨_, _, t1, aa, t2, t3, C.own _ (hs _ h1), rfl, rfl, h2.key C hs⟩
end

/-- the bank's content says this list of terms -/
structure Ok (prog : Program) (w : World) (σ : BC) (B : List Tm) : Prop where
  nop : σ.opV.size = B.length
  nar : σ.arV.size = B.length
  nso : σ.soV.size = B.length
  nda : σ.daV.size = B.length
  op : ∀ (i : Nat) (t : Tm), B[i]? = some t → ∃ tk, σ.opV[i]? = some (.str t.op.str tk)
  ar : ∀ (i : Nat) (t : Tm), B[i]? = some t → ∃ a, σ.arV[i]? = some (.ref a) ∧ IsArgs σ.tups a t.args
  so : ∀ (i : Nat) (t : Tm), B[i]? = some t → ∃ tk, σ.soV[i]? = some (.int 0 tk)
  hd : B.head? = some ⟨.nil, [], 0⟩
  tl : ∀ t ∈ B.tail, t.op ≠ .nil
  nd : B.tail.Nodup
  nu : ∃ xs : List (KT × Addr × Value), σ.nuV = xs.map (entryOfKey (ktKind prog w)) ∧ xs.map (·.1) = B.tail.map Tm.key ∧
    (∀ (j : Nat) (x : KT × Addr × Value), xs[j]? = some x → ∃ tk, x.2.2 = .int ((j : Int) + 1) tk) ∧ ∀ x ∈ xs, ∃ t, x.1 = Tm.key t ∧ IsKey σ.tups t x.2.1

/-- a made term's number, and the terms then -/
def mk (B : List Tm) (t : Tm) : Nat × List Tm := if t ∈ B then (B.idxOf t, B) else (B.length, B ++ [t])
end Mine
end

section
open PySem PySem.W PyProof.Rows PySem.Calls
set_option Elab.async false
set_option maxRecDepth 100000
namespace Mine

/-- one entry of a ledger changed -/
inductive Pt (d : Addr) (o o' : Obj) : List (Addr × Obj) → List (Addr × Obj) → Prop
  | head {r} : Pt d o o' ((d, o) :: r) ((d, o') :: r)
  | tail {p r r'} : Pt d o o' r r' → Pt d o o' (p :: r) (p :: r')
theorem Pt.app {d : Addr} {o o' : Obj} {r r' : List (Addr × Obj)} : ∀ {l : List (Addr × Obj)}, Pt d o o' r r' → Pt d o o' (l ++ r) (l ++ r')
  | [], h => h
  | _ :: _, h => .tail (Pt.app h)
theorem Pt.split {d : Addr} {o o' : Obj} {l l' : List (Addr × Obj)} (x : Pt d o o' l l') : ∃ pre post, l = pre ++ (d, o) :: post ∧ l' = pre ++ (d, o') :: post := by
  induction x with
  | head => exact ⟨[], _, rfl, rfl⟩
  | tail _ ih => obtain ⟨pre, post, rfl, rfl⟩ := ih; exact ⟨_ :: pre, post, rfl, rfl⟩
theorem Pt.mem {d : Addr} {o o' : Obj} {l l' : List (Addr × Obj)} (x : Pt d o o' l l') : (d, o) ∈ l := by obtain ⟨pre, post, rfl, rfl⟩ := x.split; simp

section
variable {prog : Program} {w : World} {A : Around} {E : Value → Shared → Prop} {gs : Array GenState} {dr : Drawn} {os : OsState} {tk : Tok}
  {b₀ h h' : Heap} {L d l : Addr} {m : Str → Option Value} {led led' : List (Addr × Obj)} {v x : Value} {Q : Value → Shared → Prop} {o o' : Obj}

theorem Fx.put (W : Fx b₀ h L m led) (p : Pt d o o' led led') (hs : Heap.SameBut d h h') (ho : h'.get? d = some o') : Fx b₀ h' L m led' := by
  obtain ⟨pre, post, rfl, rfl⟩ := p.split
  exact W.set hs ho

theorem rAppend {vs : Array Value} {n : Nat} (W : Fx b₀ h L m led) (p : Pt l (listOf vs n) (listOf (vs.push x) (n + 1)) led led') (hsz : vs.size ≤ 16777216) (k : ∀ h', Fx b₀ h' L m led' → Q .none ⟨h', gs, dr, tk, os⟩) :
    wpAny (model prog w) A (call (.builtin "list.append") [.ref l, x]) Q E ⟨h, gs, dr, tk, os⟩ := by
  have ho := W.C.own _ p.mem
  have hl := isList_of W.C p.mem
  refine wpAny_call_entry slot_list_append hl.typeIs entry_list_append ?_ (args_list_append _ _)
  show wpAny _ _ (updateSeq l (·.push x) >>= fun _ => ret .none) _ _ _
  refine wpAny_bind (wpAny_updateSeq ho rfl (wpAny_pure ⟨.none, rfl, k _ (W.put p (Heap.SameBut.update ..) ?_)⟩))
  have e : Obj.mapSeq (·.push x) (listOf vs n) = listOf (vs.push x) (n + 1) := by
    simp [Obj.mapSeq]
  exact e ▸ Heap.get?_update_self _ ho (by rw [e]; rfl)

theorem rMethAppend {vs : Array Value} {n : Nat} {pl : Sem Bool} {Q : Value × List Value → Shared → Prop} (W : Fx b₀ h L m led) (hm : (l, listOf vs n) ∈ led) (k : Q (.builtin "list.append", [.ref l]) ⟨h, gs, dr, tk, os⟩) :
    wpAny (model prog w) A (getMethod (.ref l) "append" pl) Q E ⟨h, gs, dr, tk, os⟩ := Calls.getMethod_list_append (W.C.own _ hm) rfl rfl k
theorem rMethGet {es : List DictEntry} {n : Nat} {pl : Sem Bool} {Q : Value × List Value → Shared → Prop} (W : Fx b₀ h L m led) (hm : (l, dictOf es n) ∈ led) (k : Q (.builtin "dict.get", [.ref l]) ⟨h, gs, dr, tk, os⟩) :
    wpAny (model prog w) A (getMethod (.ref l) "get" pl) Q E ⟨h, gs, dr, tk, os⟩ :=
  getMethod_builtin ⟨_, W.C.own _ hm, rfl⟩ PySem.F.plainAttrs_dict PySem.F.slot_dict_get PySem.F.type_dict_get (fun a e => by cases e; exact ⟨_, W.C.own _ hm, rfl⟩) k
theorem rLenL {vs : Array Value} {n : Nat} (W : Fx b₀ h L m led) (hm : (l, listOf vs n) ∈ led) (hb : vs.size < 2 ^ 63) (k : ∀ t tk', Q (.int vs.size t) ⟨h, gs, dr, tk', os⟩) :
    wpAny (model prog w) A (call (.builtin "len") [.ref l]) Q E ⟨h, gs, dr, tk, os⟩ := Calls.call_len_list (isList_of W.C hm) (by omega) (k _ _)

theorem dictOfH {xs : List (KT × Addr × Value)} {n : Nat} (W : Fx b₀ h L m led) (hm : (d, dictOf (xs.map (entryOfKey (ktKind prog w))) n) ∈ led) (hk : ∀ x ∈ xs, IsKT prog w h x.1 x.2.1) (hn : (xs.map (·.1)).Nodup) : h.DictOfH (ktKind prog w) d xs :=
  ⟨_, _, n, W.C.own _ hm, ⟨rfl, rfl, rfl⟩, rfl, by simp, hk, hn⟩

theorem notMod (hlim : b₀.NoLimit) (C : Cx b₀ h led) {a : Addr} {o : Obj} (hm : (a, o) ∈ led) : (a == sysModules) = false := by
  have h1 := C.new _ hm
  have h2 := modules_low hlim
  exact beq_eq_false_iff_ne.mpr (Nat.ne_of_gt (Nat.lt_of_lt_of_le h2 h1))

theorem rGetKT {xs : List (KT × Addr × Value)} {n : Nat} {k : KT} {a : Addr} {dv : Value} (r : A.units + 2 < cLine) (hlim : b₀.NoLimit) (W : Fx b₀ h L m led) (hm : (d, dictOf (xs.map (entryOfKey (ktKind prog w))) n) ∈ led)
    (hk : ∀ x ∈ xs, IsKT prog w h x.1 x.2.1) (hn : (xs.map (·.1)).Nodup) (ha : IsKT prog w h k a) (kk : ∀ tk', Q (((atKey xs k).map (·.2)).getD dv) ⟨h, gs, dr, tk', os⟩) :
    wpAny (model prog w) A (call (.builtin "dict.get") [.ref d, .ref a, dv]) Q E ⟨h, gs, dr, tk, os⟩ :=
  have hD := dictOfH W hm hk hn
  call_meetsIn PySem.F.slot_dict_get hD.typeIs PySem.F.entry_dict_get (PySem.F.args_dict_get_3 _ _ _) (meetsH_dict_get_default (ktKind prog w) d a (notMod hlim W.C hm) dv)
    ⟨⟨by show A.units + 1 < cLine; omega, by show A.units + 1 + 1 < cLine; omega⟩, k, xs, ha, hD, kk _⟩

theorem rSetKT {Q : Unit → Shared → Prop} {xs : List (KT × Addr × Value)} {n : Nat} {k : KT} {a : Addr} {led' : Nat → List (Addr × Obj)} (r : A.units + 2 < cLine) (W : Fx b₀ h L m led) 
    (p : ∀ n', Pt d (dictOf (xs.map (entryOfKey (ktKind prog w))) n) (dictOf ((storedH xs k a v).map (entryOfKey (ktKind prog w))) n') led (led' n'))
    (hk : ∀ x ∈ xs, IsKT prog w h x.1 x.2.1) (hn : (xs.map (·.1)).Nodup) (ha : IsKT prog w h k a) (hsz : xs.length ≤ 16777216) (kk : ∀ h' n' tk', Fx b₀ h' L m (led' n') → Q () ⟨h', gs, dr, tk', os⟩) :
    wpAny (model prog w) A (setItem (.ref d) (.ref a) v) Q E ⟨h, gs, dr, tk, os⟩ := by
  have hD := dictOfH W (p 0).mem hk hn
  refine wpAny_setItem_heap (knd := ktKind prog w) ⟨by show A.units + 1 < cLine; omega, by show A.units + 1 + 1 < cLine; omega⟩ ha hD (fun h' hD' hs => ?_) (by show xs.length ≤ sizeLine; exact hsz)
  obtain ⟨⟨c, dd, dt, sl⟩, es, ep, ho, ⟨e1, e2, e3⟩, e4, e5, _⟩ := hD'
  simp only at e1 e2 e3 e4
  subst e1 e2 e3 e4
  have e6 : es = ((storedH xs k a v).map (entryOfKey (ktKind prog w))).toArray := by rw [← e5]
  subst e6
  exact kk h' ep _ (W.put (p ep) hs ho)
end
end Mine
end

section
open PySem PySem.W PyProof.Rows PySem.Calls
set_option Elab.async false
set_option maxRecDepth 100000
namespace Mine

section
variable {prog : Program} {w : World} {σ : BC} {B : List Tm}

theorem Ok.cons (O : Ok prog w σ B) : ∃ R, B = ⟨.nil, [], 0⟩ :: R := by
  cases B with
  | nil => have := O.hd; simp at this
  | cons x R => have := O.hd; simp at this; exact ⟨R, by rw [this]⟩
theorem Ok.pos (O : Ok prog w σ B) : 0 < B.length := by obtain ⟨R, rfl⟩ := O.cons; simp

theorem Ok.idx {t : Tm} (O : Ok prog w σ B) (ht : t ∈ B) (hn : t.op ≠ .nil) : ∃ j, B.tail[j]? = some t ∧ B.idxOf t = j + 1 ∧ B[j + 1]? = some t := by
  obtain ⟨R, rfl⟩ := O.cons
  have hne : (⟨.nil, [], 0⟩ : Tm) ≠ t := fun e => hn (by rw [← e])
  have hR : t ∈ R := by
    rcases List.mem_cons.mp ht with e | e
    · exact absurd e.symm hne
    · exact e
  refine ⟨R.idxOf t, ?_, ?_, ?_⟩
  · show R[R.idxOf t]? = some t
    rw [List.getElem?_eq_getElem (List.idxOf_lt_length_iff.mpr hR), List.getElem_idxOf]
  · rw [List.idxOf_cons, show ((⟨.nil, [], 0⟩ : Tm) == t) = false from beq_eq_false_iff_ne.mpr hne]; rfl
  · show R[R.idxOf t]? = some t
    rw [List.getElem?_eq_getElem (List.idxOf_lt_length_iff.mpr hR), List.getElem_idxOf]

theorem Ok.keys {led : List (Addr × Obj)} {b₀ h : Heap} (O : Ok prog w σ B) (C : Cx b₀ h led) (hs : ∀ p ∈ σ.tups, p ∈ led) :
    ∃ xs : List (KT × Addr × Value), σ.nuV = xs.map (entryOfKey (ktKind prog w)) ∧ (∀ x ∈ xs, IsKT prog w h x.1 x.2.1) ∧ (xs.map (·.1)).Nodup ∧ xs.length + 1 = B.length ∧
      xs.map (·.1) = B.tail.map Tm.key ∧ (∀ (j : Nat) (x : KT × Addr × Value), xs[j]? = some x → ∃ tk, x.2.2 = .int ((j : Int) + 1) tk) ∧ (∀ x ∈ xs, ∃ t, x.1 = Tm.key t ∧ IsKey σ.tups t x.2.1) := by
  obtain ⟨xs, h1, h2, h3, h4⟩ := O.nu
  refine ⟨xs, h1, fun x hx => ?_, ?_, ?_, h2, h3, h4⟩
  · obtain ⟨t, e, hk⟩ := h4 x hx
    rw [e]; exact hk.key C hs
  · rw [h2]
    have hnd := O.nd
    rw [List.nodup_iff_pairwise_ne] at hnd ⊢
    exact List.Pairwise.map _ (fun a b hab e => hab (Tm.key_inj e)) hnd
  · have := congrArg List.length h2
    simp only [List.length_map, List.length_tail] at this
    have := O.pos
    omega

theorem atKey_in {xs : List (KT × Addr × Value)} (h2 : xs.map (·.1) = B.tail.map Tm.key) (hn : (xs.map (·.1)).Nodup)
    (h3 : ∀ (j : Nat) (x : KT × Addr × Value), xs[j]? = some x → ∃ tk, x.2.2 = .int ((j : Int) + 1) tk) {t : Tm} {j : Nat} (hj : B.tail[j]? = some t) : ∃ tk, (atKey xs t.key).map (·.2) = some (.int ((j : Int) + 1) tk) := by
  have e1 : (xs.map (·.1))[j]? = some t.key := by rw [h2, List.getElem?_map, hj]; rfl
  rw [List.getElem?_map] at e1
  cases hx : xs[j]? with
  | none => rw [hx] at e1; simp at e1
  | some x =>
    rw [hx] at e1
    obtain ⟨tk, e⟩ := h3 j x hx
    obtain ⟨k, a, v⟩ := x
    simp only [Option.map_some, Option.some.injEq] at e1
    subst e1
    refine ⟨tk, ?_⟩
    rw [atKey_of_get hn hx]
    simp only at e
    rw [← e]; rfl
theorem atKey_out {xs : List (KT × Addr × Value)} (h2 : xs.map (·.1) = B.tail.map Tm.key) {t : Tm} (hj : t ∉ B.tail) : atKey xs t.key = none := by
  refine atKey_none_of_get fun j p e => hj ?_
  have e1 : (xs.map (·.1))[j]? = some t.key := by rw [List.getElem?_map, e]; rfl
  rw [h2, List.getElem?_map] at e1
  cases hx : B.tail[j]? with
  | none => rw [hx] at e1; simp at e1
  | some y =>
    rw [hx] at e1
    simp only [Option.map_some, Option.some.injEq] at e1
    rw [← Tm.key_inj e1]
    exact List.mem_of_getElem? hx

theorem getElem?_push_of {α : Type} {vs : Array α} {x : α} {n i : Nat} (hn : vs.size = n) : (vs.push x)[i]? = if i = n then some x else vs[i]? := by
  rw [Array.getElem?_push, hn]

theorem get_append_one {α : Type} {B : List α} {t u : α} {i : Nat} (h : (B ++ [t])[i]? = some u) : B[i]? = some u ∨ (i = B.length ∧ u = t) := by
  rcases Nat.lt_trichotomy i B.length with hi | hi | hi
  · left; rwa [List.getElem?_append_left hi] at h
  · right
    subst hi
    simp at h
    exact ⟨rfl, h.symm⟩
  · rw [List.getElem?_eq_none (by simp; omega)] at h; cases h

theorem Ok.push {t : Tm} {σ' : BC} {a ka : Addr} {to tn : Tok} {xs : List (KT × Addr × Value)} {x2 : Value} {tz : Tok} (O : Ok prog w σ B) (ht : t ∉ B) (hop : t.op ≠ .nil)
    (e1 : σ'.opV = σ.opV.push (.str t.op.str to)) (e2 : σ'.arV = σ.arV.push (.ref a)) (e3 : σ'.soV = σ.soV.push (.int 0 tz)) (e4 : σ'.daV = σ.daV.push x2) (e5 : ∀ p ∈ σ.tups, p ∈ σ'.tups)
    (ha : IsArgs σ'.tups a t.args) (hk : IsKey σ'.tups t ka) (h1 : σ.nuV = xs.map (entryOfKey (ktKind prog w))) (hl : xs.length + 1 = B.length) (h2 : xs.map (·.1) = B.tail.map Tm.key)
    (h3 : ∀ (j : Nat) (x : KT × Addr × Value), xs[j]? = some x → ∃ tk, x.2.2 = .int ((j : Int) + 1) tk) (h4 : ∀ x ∈ xs, ∃ t, x.1 = Tm.key t ∧ IsKey σ.tups t x.2.1)
    (e6 : σ'.nuV = (storedH xs t.key ka (.int (B.length : Int) tn)).map (entryOfKey (ktKind prog w))) : Ok prog w σ' (B ++ [t]) := by
  obtain ⟨R, rfl⟩ := O.cons
  have htl : t ∉ R := fun h => ht (.tail _ h)
  have hout : atKey xs t.key = none := atKey_out (B := ⟨.nil, [], 0⟩ :: R) h2 htl
  rw [storedH_new hout] at e6
  refine ⟨?_, ?_, ?_, ?_, fun i u hu => ?_, fun i u hu => ?_, fun i u hu => ?_, rfl, fun u hu => ?_, ?_, ?_⟩
  · rw [e1, Array.size_push, O.nop, List.length_append]; rfl
  · rw [e2, Array.size_push, O.nar, List.length_append]; rfl
  · rw [e3, Array.size_push, O.nso, List.length_append]; rfl
  · rw [e4, Array.size_push, O.nda, List.length_append]; rfl
  · rw [e1, getElem?_push_of O.nop]
    rcases get_append_one hu with h | ⟨rfl, rfl⟩
    · rw [if_neg (Nat.ne_of_lt (List.getElem?_eq_some_iff.mp h).1)]; exact O.op i u h
    · rw [if_pos rfl]; exact ⟨to, rfl⟩
  · rw [e2, getElem?_push_of O.nar]
    rcases get_append_one hu with h | ⟨rfl, rfl⟩
    · rw [if_neg (Nat.ne_of_lt (List.getElem?_eq_some_iff.mp h).1)]
      obtain ⟨a', ha', hx⟩ := O.ar i u h
      exact ⟨a', ha', hx.mono e5⟩
    · rw [if_pos rfl]; exact ⟨a, rfl, ha⟩
  · rw [e3, getElem?_push_of O.nso]
    rcases get_append_one hu with h | ⟨rfl, rfl⟩
    · rw [if_neg (Nat.ne_of_lt (List.getElem?_eq_some_iff.mp h).1)]; exact O.so i u h
    · rw [if_pos rfl]; exact ⟨tz, rfl⟩
  · rcases List.mem_append.mp (show u ∈ R ++ [t] from hu) with h | h
    · exact O.tl u h
    · rw [List.mem_singleton.mp h]; exact hop
  · show (R ++ [t]).Nodup
    rw [List.nodup_append]
    exact ⟨O.nd, by simp, fun x hx y hy e => htl (by rw [← List.mem_singleton.mp hy, ← e]; exact hx)⟩
  · refine ⟨xs ++ [(t.key, ka, .int ((⟨.nil, [], 0⟩ :: R : List Tm).length : Int) tn)], e6, ?_, fun j x hx => ?_, fun x hx => ?_⟩
    · rw [List.map_append, h2]
      show R.map Tm.key ++ [t.key] = (R ++ [t]).map Tm.key
      simp
    · rcases get_append_one hx with h | ⟨rfl, rfl⟩
      · exact h3 j x h
      · refine ⟨tn, ?_⟩
        show Value.int _ tn = _
        rw [← hl]; rfl
    · rcases List.mem_append.mp hx with h | h
      · obtain ⟨u, e, hu⟩ := h4 x h
        exact ⟨u, e, hu.mono e5⟩
      · rw [List.mem_singleton.mp h]; exact ⟨t, rfl, hk⟩
end
end Mine
end

section
open PySem PySem.W PyProof.Rows PySem.Calls
set_option Elab.async false
set_option maxRecDepth 100000
namespace Mine

section
variable {prog : Program} {w : World} {A : Around} {E : Value → Shared → Prop} {gs : Array GenState} {dr : Drawn} {os : OsState} {tk : Tok}
  {b₀ h : Heap} {L : Addr} {m : Str → Option Value} {led : List (Addr × Obj)} {env : Env} {target : Expr} {body : List Stmt}

/-- the iterator's own objects, as they stand -/
def itsOf (h : Heap) (wr : List Addr) : List (Addr × Obj) := wr.filterMap fun b => (h.get? b).map fun o => (b, o)
theorem itsOf_map {h : Heap} : ∀ {wr : List Addr}, (∀ b ∈ wr, ∃ o, h.get? b = some o) → (itsOf h wr).map (·.1) = wr
  | [], _ => rfl
  | b :: r, he => by
    obtain ⟨o, ho⟩ := he b (.head _)
    have ih := itsOf_map (h := h) (wr := r) fun b hb => he b (.tail _ hb)
    unfold itsOf at ih ⊢
    rw [List.filterMap_cons, ho]
    simp only [Option.map_some, List.map_cons, ih]
theorem itsOf_get {h : Heap} {wr : List Addr} {p : Addr × Obj} (hp : p ∈ itsOf h wr) : h.get? p.1 = some p.2 ∧ p.1 ∈ wr := by
  obtain ⟨b, hb, e⟩ := List.mem_filterMap.mp hp
  cases ho : h.get? b with
  | none => rw [ho] at e; cases e
  | some o => rw [ho] at e; cases e; exact ⟨ho, hb⟩
theorem mem_itsOf {h : Heap} {wr : List Addr} {b : Addr} {o : Obj} (hb : b ∈ wr) (ho : h.get? b = some o) : (b, o) ∈ itsOf h wr :=
  List.mem_filterMap.mpr ⟨b, hb, by rw [ho]; rfl⟩

theorem Cx.off {its : List (Addr × Obj)} {wr : List Addr} (C : Cx b₀ h (its ++ led)) (hm : its.map (·.1) = wr) : (∀ p ∈ led, p.1 ∉ wr) ∧ wr.Nodup ∧ ∀ b ∈ wr, b₀.objs.size ≤ b := by
  have hn := C.nd
  rw [List.map_append, hm, List.nodup_append] at hn
  refine ⟨fun p hp hb => hn.2.2 _ hb _ (List.mem_map_of_mem hp) rfl, hn.1, fun b hb => ?_⟩
  rw [← hm] at hb
  obtain ⟨p, hp, rfl⟩ := List.mem_map.mp hb
  exact C.new p (List.mem_append_left _ hp)

theorem Fx.its {its : List (Addr × Obj)} {wr : List Addr} {h' : Heap} (W : Fx b₀ h L m (its ++ led)) (hm : its.map (·.1) = wr) (hk : ∀ b o, b ∉ wr → h.get? b = some o → h'.get? b = some o)
    (he : ∀ b ∈ wr, ∃ o, h'.get? b = some o) : Fx b₀ h' L m (itsOf h' wr ++ led) := by
  obtain ⟨h1, h2, h3⟩ := W.C.off hm
  have hL : L ∉ wr := fun q => by
    rw [← hm] at q
    obtain ⟨p, hp, e⟩ := List.mem_map.mp q
    exact W.nL p (List.mem_append_left _ hp) e
  have hst : b₀.StaysIn h' := fun b o e => hk b o (fun q => by have := none_of_ge (h3 b q); rw [e] at this; cases this) (W.C.stays b o e)
  refine ⟨⟨W.F.ns.at' fun o e => hk _ o hL e, hst, W.F.above⟩, ⟨hst, fun p hp => ?_, fun p hp => ?_, ?_⟩, fun p hp => ?_⟩
  · rcases List.mem_append.mp hp with q | q
    · exact (itsOf_get q).1
    · exact hk _ _ (h1 p q) (W.C.own p (List.mem_append_right _ q))
  · rcases List.mem_append.mp hp with q | q
    · exact h3 _ (itsOf_get q).2
    · exact W.C.new p (List.mem_append_right _ q)
  · rw [List.map_append, itsOf_map he, ← hm, ← List.map_append]; exact W.C.nd
  · rcases List.mem_append.mp hp with q | q
    · exact fun e => hL (e ▸ (itsOf_get q).2)
    · exact W.nL p (List.mem_append_right _ q)

def LpEnd (b₀ : Heap) (L : Addr) (gs : Array GenState) (dr : Drawn) (os : OsState) (its : List (Addr × Obj)) (J : (Str → Option Value) → List (Addr × Obj) → Prop) (s : Shared) : Prop :=
  ∃ h tk m led, s = ⟨h, gs, dr, tk, os⟩ ∧ Fx b₀ h L m (its ++ led) ∧ J m led
theorem LpEnd.intro {its : List (Addr × Obj)} {J : (Str → Option Value) → List (Addr × Obj) → Prop} (W : Fx b₀ h L m (its ++ led)) (j : J m led) : LpEnd b₀ L gs dr os its J ⟨h, gs, dr, tk, os⟩ := ⟨h, tk, m, led, rfl, W, j⟩

theorem fx_loop {R : Result → Shared → Prop} {I : Addr} {fp wr : List Addr} {n : Nat} {P Md : Nat → Value → Heap → Prop} {St : Nat → Heap → Prop} (KT : KTurns prog w A target I fp wr n P Md St)
    (hex : ∀ i h, St i h → ∀ b ∈ wr, ∃ o, h.get? b = some o) (its src : List (Addr × Obj)) (hm : its.map (·.1) = wr) (hsrc : ∀ b ∈ fp, b ∉ wr → ∃ o, (b, o) ∈ src)
    (J : Nat → (Str → Option Value) → List (Addr × Obj) → Prop) (hJs : ∀ i m led, J i m led → ∀ p ∈ src, p ∈ led) (hL : env.locals = L)
    (W : Fx b₀ h L m (its ++ led)) (hst : St 0 h) (h0 : J 0 m led)
    (step : ∀ i v m₁ led₁ h₁ tk₁ its₁, i < n → P i v h₁ → J i m₁ led₁ → its₁.map (·.1) = wr → Fx b₀ h₁ L m₁ (its₁ ++ led₁) →
      wpAny (model prog w) A (assign target env v) (fun _ s₂ => wpAny (model prog w) A (execs body env) (fun f s₃ => match f with
          | .ret v => R (.ok (.ret v)) s₃
          | .brk => R (.ok .next) s₃
          | _ => LpEnd b₀ L gs dr os its₁ (J (i + 1)) s₃) (notedBy (model prog w) A env fun e s' => R (.error e) s') s₂) (notedBy (model prog w) A env fun e s' => R (.error e) s') ⟨h₁, gs, dr, tk₁, os⟩)
    (hR : ∀ h' tk' m' led', Fx b₀ h' L m' led' → J n m' led' → R (.ok .next) ⟨h', gs, dr, tk', os⟩) :
    codeAny (model prog w) A (.forLoop target (.ref I) body [] env) R ⟨h, gs, dr, tk, os⟩ := by
  refine codeAny_forLoop_any
    (fun k s' => ∃ h' tk' m' led' its' i, s' = ⟨h', gs, dr, tk', os⟩ ∧ St i h' ∧ its'.map (·.1) = wr ∧ Fx b₀ h' L m' (its' ++ led') ∧ J i m' led' ∧ i ≤ n ∧ k = n + 1 - i) ?_ (n + 1)
    ⟨h, tk, m, led, its, 0, rfl, hst, hm, W, h0, Nat.zero_le _, rfl⟩
  rintro k s' ⟨h', tk', m', led', its', i, rfl, hst', hm', W', hJ, hi, rfl⟩
  by_cases hlt : i < n
  · refine KT.item i _ _ _ hlt hst' fun v h₁ tk₁ hMd hk₁ => ?_
    refine KT.go i v _ _ _ hMd fun h₂ hP hst₂ hk₂ => ?_
    have W₂ := W'.its hm' (fun b o hb e => hk₂ b o hb (hk₁ b o hb e)) (hex _ _ hst₂)
    have hm₂ := itsOf_map (hex _ _ hst₂)
    refine wpAny_mono (step i v m' led' h₂ tk₁ _ hlt hP hJ hm₂ W₂) (fun _ s₂ x => wpAny_mono x (fun f s₃ y => ?_) fun _ _ e => e) fun _ _ e => e
    have fin : LpEnd b₀ L gs dr os (itsOf h₂ wr) (J (i + 1)) s₃ → ∃ k', k' < n + 1 - i ∧ ∃ h' tk' m' led' its' i, s₃ = ⟨h', gs, dr, tk', os⟩ ∧ St i h' ∧ its'.map (·.1) = wr ∧ Fx b₀ h' L m' (its' ++ led') ∧ J i m' led' ∧ i ≤ n ∧ k' = n + 1 - i := by
      rintro ⟨h₃, tk₃, m₃, led₃, rfl, W₃, hJ₃⟩
      refine ⟨n + 1 - (i + 1), by omega, h₃, tk₃, m₃, led₃, itsOf h₂ wr, i + 1, rfl, ?_, hm₂, W₃, hJ₃, hlt, rfl⟩
      refine KT.frame _ _ _ hst₂ fun b hb o e => ?_
      by_cases hbw : b ∈ wr
      · exact W₃.C.own _ (List.mem_append_left _ (mem_itsOf hbw e))
      · obtain ⟨o', ho'⟩ := hsrc b hb hbw
        have e2 := W₂.C.own _ (List.mem_append_right _ (hJs _ _ _ hJ _ ho'))
        rw [e] at e2
        cases e2
        exact W₃.C.own _ (List.mem_append_right _ (hJs _ _ _ hJ₃ _ ho'))
    cases f with
    | ret v => exact y
    | brk => exact y
    | cont => exact fin y
    | next => exact fin y
  · have hin : i = n := by omega
    subst hin
    refine KT.done _ _ _ hst' fun h₁ tk₁ hk₁ => wpAny_execs_nil ?_
    obtain ⟨h1, h2, h3⟩ := W'.C.off hm'
    have hLw : L ∉ wr := fun q => by
      rw [← hm'] at q
      obtain ⟨p, hp, e⟩ := List.mem_map.mp q
      exact W'.nL p (List.mem_append_left _ hp) e
    have hs : b₀.StaysIn h₁ := fun b o e => hk₁ b o (fun q => by have := none_of_ge (h3 b q); rw [e] at this; cases this) (W'.C.stays b o e)
    have hn := W'.C.nd
    rw [List.map_append, List.nodup_append] at hn
    exact hR h₁ tk₁ m' led' ⟨⟨W'.F.ns.at' fun o e => hk₁ _ o hLw e, hs, W'.F.above⟩, ⟨hs, fun p hp => hk₁ _ _ (h1 p hp) (W'.C.own p (List.mem_append_right _ hp)), fun p hp => W'.C.new p (List.mem_append_right _ hp), hn.2.1⟩, fun p hp => W'.nL p (List.mem_append_right _ hp)⟩ hJ

/-- an iterator at hand: n items, the i-th by P -/
structure Itr (prog : Program) (w : World) (A : Around) (target : Expr) (b₀ : Heap) (L : Addr) (src : List (Addr × Obj)) (P : Nat → Value → Heap → Prop) (n : Nat) (h : Heap) (m : Str → Option Value) (its led : List (Addr × Obj)) (it : Value) : Prop where
  ex : ∃ I fp wr Md St, it = .ref I ∧ KTurns prog w A target I fp wr n P Md St ∧ (∀ i h, St i h → ∀ b ∈ wr, ∃ o, h.get? b = some o) ∧ its.map (·.1) = wr ∧ (∀ b ∈ fp, b ∉ wr → ∃ o, (b, o) ∈ src) ∧ St 0 h ∧
    (∀ (s : Shared) (Q : Value → Shared → Prop) (E : Value → Shared → Prop), St 0 s.heap → Q (.ref I) s → wpAny (model prog w) A (pyIter (.ref I)) Q E s) ∧ ∀ h', (∀ b ∈ fp, ∀ o, h.get? b = some o → h'.get? b = some o) → St 0 h'
  W : Fx b₀ h L m (its ++ led)

theorem itr_for {R : Result → Shared → Prop} {src its : List (Addr × Obj)} {P : Nat → Value → Heap → Prop} {n : Nat} {it : Value} (T : Itr prog w A target b₀ env.locals src P n h m its led it)
    (J : Nat → (Str → Option Value) → List (Addr × Obj) → Prop) (h0 : J 0 m led) (hJs : ∀ i m led, J i m led → ∀ p ∈ src, p ∈ led)
    (step : ∀ i v m₁ led₁ h₁ tk₁ its₁ (E' : Value → Shared → Prop), i < n → P i v h₁ → J i m₁ led₁ → its₁.map (·.1) = its.map (·.1) → Fx b₀ h₁ env.locals m₁ (its₁ ++ led₁) →
      wpAny (model prog w) A (assign target env v) (fun _ s₂ => wpAny (model prog w) A (execs body env) (fun f s₃ => match f with
          | .ret v => R (.ok (.ret v)) s₃
          | .brk => R (.ok .next) s₃
          | _ => LpEnd b₀ env.locals gs dr os its₁ (J (i + 1)) s₃) E' s₂) E' ⟨h₁, gs, dr, tk₁, os⟩)
    (hR : ∀ h' tk' m' led', Fx b₀ h' env.locals m' led' → J n m' led' → R (.ok .next) ⟨h', gs, dr, tk', os⟩) :
    codeAny (model prog w) A (.forLoop target it body [] env) R ⟨h, gs, dr, tk, os⟩ := by
  obtain ⟨⟨I, fp, wr, Md, St, rfl, KT, hex, hm, hsrc, hst, _, _⟩, W⟩ := T
  exact fx_loop KT hex its src hm hsrc J hJs rfl W hst h0 (fun i v m₁ led₁ h₁ tk₁ its₁ a b c d e => step i v m₁ led₁ h₁ tk₁ its₁ _ a b c (d.trans hm.symm) e) hR

theorem goName {M : Model} {x : Str} {xp : Pos} {it v : Value} {s : Shared} {Q : Unit → Shared → Prop} (h : Q () s) : wpAny M A (letOwnedTupleGo (.Name x xp) it v) Q E s := wpAny_of_eq (a := ()) rfl h

theorem itr_tup {t : Addr} {vs : List Value} {x : Str} {xp : Pos} {Q : Value → Shared → Prop} (hh : A.handled = none) (W : Fx b₀ h L m led) (hm : (t, tupO vs) ∈ led)
    (k : ∀ h' i0 it, Itr prog w A (.Name x xp) b₀ L [(t, tupO vs)] (fun i v _ => vs[i]? = some v) vs.length h' m [i0] led it → Q it ⟨h', gs, dr, tk, os⟩) :
    wpAny (model prog w) A (pyIter (.ref t)) Q E ⟨h, gs, dr, tk, os⟩ := by
  have ht : h.IsTuple t vs.toArray := ⟨_, W.C.own _ hm, rfl, 0, rfl⟩
  refine wpAny_pyIter_tuple ht ?_
  refine k _ (h.objs.size, _) _ (Itr.mk ?_ (W.push _))
  have hne : t ≠ h.objs.size := Nat.ne_of_lt (W.C.lt hm)
  have Wk := Walks.tuple (prog := prog) (w := w) hh h.objs.size t hne vs.toArray
  have K := KTurns.ofWalks (target := .Name x xp) Wk fun i v s Q E _ q => goName q
  have hP : (fun (i : Nat) (v : Value) (_ : Heap) => vs.toArray[i]? = some v) = fun i v _ => vs[i]? = some v := by funext i v _; rw [List.getElem?_toArray]
  rw [List.size_toArray, hP] at K
  refine ⟨_, _, _, _, _, rfl, K, fun i h' st b hb => ?_, rfl, fun b hb hn => ?_, ⟨⟨_, Heap.get?_push_size _ rfl, rfl, rfl⟩, ht.at fun o e => Heap.get?_push_of_some _ e⟩, fun s Q E st q => Wk.self 0 s Q E st q, fun h' hk => Wk.frame 0 _ h' ⟨⟨_, Heap.get?_push_size _ rfl, rfl, rfl⟩, ht.at fun o e => Heap.get?_push_of_some _ e⟩ hk⟩
  · rw [List.mem_singleton.mp hb]
    obtain ⟨⟨o, ho, _⟩, _⟩ := st
    exact ⟨o, ho⟩
  · rcases List.mem_cons.mp hb with rfl | hb
    · exact absurd (List.mem_singleton.mpr rfl) hn
    · rw [List.mem_singleton.mp hb]; exact ⟨_, .head _⟩

theorem itr_list {t : Addr} {vs : Array Value} {e : Nat} {x : Str} {xp : Pos} {Q : Value → Shared → Prop} (hh : A.handled = none) (W : Fx b₀ h L m led) (hm : (t, listOf vs e) ∈ led)
    (k : ∀ h' i0 it, Itr prog w A (.Name x xp) b₀ L [(t, listOf vs e)] (fun i v _ => vs[i]? = some v) vs.size h' m [i0] led it → Q it ⟨h', gs, dr, tk, os⟩) :
    wpAny (model prog w) A (pyIter (.ref t)) Q E ⟨h, gs, dr, tk, os⟩ := by
  have ht : h.IsList t vs := isList_of W.C hm
  refine wpAny_pyIter_list ht ?_
  refine k _ (h.objs.size, _) _ (Itr.mk ?_ (W.push _))
  have hne : t ≠ h.objs.size := Nat.ne_of_lt (W.C.lt hm)
  have Wk := Walks.list (prog := prog) (w := w) hh h.objs.size t hne vs
  have K := KTurns.ofWalks (target := .Name x xp) Wk fun i v s Q E _ q => goName q
  refine ⟨_, _, _, _, _, rfl, K, fun i h' st b hb => ?_, rfl, fun b hb hn => ?_, ⟨⟨_, Heap.get?_push_size _ rfl, rfl, rfl⟩, ht.at fun o e => Heap.get?_push_of_some _ e⟩, fun s Q E st q => Wk.self 0 s Q E st q, fun h' hk => Wk.frame 0 _ h' ⟨⟨_, Heap.get?_push_size _ rfl, rfl, rfl⟩, ht.at fun o e => Heap.get?_push_of_some _ e⟩ hk⟩
  · rw [List.mem_singleton.mp hb]
    obtain ⟨⟨o, ho, _⟩, _⟩ := st
    exact ⟨o, ho⟩
  · rcases List.mem_cons.mp hb with rfl | hb
    · exact absurd (List.mem_singleton.mpr rfl) hn
    · rw [List.mem_singleton.mp hb]; exact ⟨_, .head _⟩
end

section
variable {prog : Program} {w : World} {A : Around} {E : Value → Shared → Prop} {gs : Array GenState} {dr : Drawn} {os : OsState} {tk : Tok}
  {b₀ h : Heap} {m : Str → Option Value} {led : List (Addr × Obj)} {env : Env} {body : List Stmt} {R : Result → Shared → Prop} {x : Str} {xp : Pos}
/-- a turn of a loop over one name, one iterator entry ahead -/
def Turn (prog : Program) (w : World) (A : Around) (b₀ : Heap) (env : Env) (x : Str) (body : List Stmt) (gs : Array GenState) (dr : Drawn) (os : OsState) (R : Result → Shared → Prop) (J : (Str → Option Value) → List (Addr × Obj) → Prop) (v : Value) (m₁ : Str → Option Value) (led₁ : List (Addr × Obj)) : Prop :=
  ∀ it h₁ tk₁ (E' : Value → Shared → Prop), Fx b₀ h₁ env.locals (fun y => if y = x then some v else m₁ y) (it :: led₁) →
    wpAny (model prog w) A (execs body env) (fun f s₃ => match f with
          | .ret v => R (.ok (.ret v)) s₃
          | .brk => R (.ok .next) s₃
          | _ => LpEnd b₀ env.locals gs dr os [it] J s₃) E' ⟨h₁, gs, dr, tk₁, os⟩

theorem turn_step {its : List (Addr × Obj)} {I : Addr} {J : (Str → Option Value) → List (Addr × Obj) → Prop} {v : Value} {m₁ : Str → Option Value} {led₁ : List (Addr × Obj)}
    (hx : env.kindOf x = some .local) (hp : (env.scope.kind == .class || (env.scope.kind == .module && env.locals != env.globals)) = false)
    (t : Turn prog w A b₀ env x body gs dr os R J v m₁ led₁) (hits : its.map (·.1) = [I]) (W : Fx b₀ h env.locals m₁ (its ++ led₁)) :
    wpAny (model prog w) A (assign (.Name x xp) env v) (fun _ s₂ => wpAny (model prog w) A (execs body env) (fun f s₃ => match f with
          | .ret v => R (.ok (.ret v)) s₃
          | .brk => R (.ok .next) s₃
          | _ => LpEnd b₀ env.locals gs dr os its J s₃) E s₂) E ⟨h, gs, dr, tk, os⟩ := by
  obtain ⟨it, rfl⟩ : ∃ it, its = [it] := by
    cases its with
    | nil => simp at hits
    | cons a r => cases r with
      | nil => exact ⟨a, rfl⟩
      | cons b r => simp at hits
  refine wpAny_assign_Name (wpAny_storeName_local hx W.F.ns (fun h' hn hs => ?_) hp)
  exact t it h' _ _ (W.names hn hs)

theorem for_tup {t : Addr} {vs : List Value} (hh : A.handled = none) (W : Fx b₀ h env.locals m led) (hm : (t, tupO vs) ∈ led)
    (J : Nat → (Str → Option Value) → List (Addr × Obj) → Prop) (h0 : J 0 m led) (hJs : ∀ i m led, J i m led → (t, tupO vs) ∈ led)
    (step : ∀ i v m₁ led₁, vs[i]? = some v → J i m₁ led₁ → Turn prog w A b₀ env x body gs dr os R (J (i + 1)) v m₁ led₁)
    (hR : ∀ h' tk' m' led', Fx b₀ h' env.locals m' led' → J vs.length m' led' → R (.ok .next) ⟨h', gs, dr, tk', os⟩)
    (hx : env.kindOf x = some .local := by rfl) (hp : (env.scope.kind == .class || (env.scope.kind == .module && env.locals != env.globals)) = false := by rfl) :
    wpAny (model prog w) A (pyIter (.ref t)) (fun it s₂ => codeAny (model prog w) A (.forLoop (.Name x xp) it body [] env) R s₂) E ⟨h, gs, dr, tk, os⟩ := by
  refine itr_tup (x := x) (xp := xp) hh W hm fun h₂ its it T => ?_
  exact itr_for T J h0 (fun i m led j p hp => by rw [List.mem_singleton.mp hp]; exact hJs i m led j) (fun i v m₁ led₁ h₁ tk₁ its₁ E' _ hv j e W' => turn_step hx hp (step i v m₁ led₁ hv j) e W') hR
end

theorem upd2 {m : Str → Option Value} {x : Str} {a b : Option Value} : (fun y => if y = x then a else (if y = x then b else m y)) = fun y => if y = x then a else m y := by
  funext y; split <;> rfl
theorem upd0 {m : Str → Option Value} {x : Str} (h : m x = none) : m = fun y => if y = x then none else m y := by
  funext y; split
  · rename_i e; rw [e, h]
  · rfl
theorem ints_get {vs : List Value} {ns : List Int} (h : IntsAre vs ns) : ∀ {i : Nat} {v : Value}, vs[i]? = some v → ∃ n t, v = .int n t ∧ ns[i]? = some n := by
  induction h with
  | nil => intro i v e; simp at e
  | cons n t _ ih =>
    intro i v e
    cases i with
    | zero => simp at e; exact ⟨n, t, e.symm, by simp⟩
    | succ j => simp at e; simpa using ih e
theorem ints_len {vs : List Value} {ns : List Int} (h : IntsAre vs ns) : vs.length = ns.length := by
  induction h with
  | nil => rfl
  | cons _ _ _ ih => simp [ih]
end Mine
end

section
open PySem PySem.W PyProof.Rows PySem.Calls
set_option Elab.async false
set_option maxRecDepth 100000
namespace Mine
section
variable {prog : Program} {w : World} {A : Around} {E : Value → Shared → Prop} {gs : Array GenState} {dr : Drawn} {os : OsState} {tk : Tok}
  {b₀ h h' : Heap} {L d l : Addr} {m : Str → Option Value} {led led' : List (Addr × Obj)} {v x : Value} {Q : Value → Shared → Prop} {o o' : Obj}

theorem rMin2 {a b : Int} {t u : Tok} (hh : A.handled = none) (W : Fx b₀ h L m led) (k : ∀ h' tk' t', Fx b₀ h' L m led → Q (.int (min a b) t') ⟨h', gs, dr, tk', os⟩) :
    wpAny (model prog w) A (call (.builtin "min") [.int a t, .int b u]) Q E ⟨h, gs, dr, tk, os⟩ := by
  refine min_two_ints hh fun h' tk' hk => ?_
  have := k h' tk'
  by_cases hc : b < a
  · rw [if_pos hc]; have e : min a b = b := by omega
    rw [e] at this; exact this u (W.grow hk)
  · rw [if_neg hc]; have e : min a b = a := by omega
    rw [e] at this; exact this t (W.grow hk)
theorem rMax2 {a b : Int} {t u : Tok} (hh : A.handled = none) (W : Fx b₀ h L m led) (k : ∀ h' tk' t', Fx b₀ h' L m led → Q (.int (max a b) t') ⟨h', gs, dr, tk', os⟩) :
    wpAny (model prog w) A (call (.builtin "max") [.int a t, .int b u]) Q E ⟨h, gs, dr, tk, os⟩ := by
  refine max_two_ints hh fun h' tk' hk => ?_
  have := k h' tk'
  by_cases hc : b > a
  · rw [if_pos hc]; have e : max a b = b := by omega
    rw [e] at this; exact this u (W.grow hk)
  · rw [if_neg hc]; have e : max a b = a := by omega
    rw [e] at this; exact this t (W.grow hk)
theorem rLenT {vs : List Value} (W : Fx b₀ h L m led) (hm : (l, tupO vs) ∈ led) (hb : vs.length < 2 ^ 63) (k : ∀ t tk', Q (.int vs.length t) ⟨h, gs, dr, tk', os⟩) :
    wpAny (model prog w) A (call (.builtin "len") [.ref l]) Q E ⟨h, gs, dr, tk, os⟩ := by
  refine len_tuple (isTup_of W.C hm) (by simp; omega) ?_
  have := k (tk + 1) (tk + 1 + 1)
  simpa using this
theorem rItemT {value slice : Expr} {vs : List Value} {i : Int} {j : Nat} {u : Tok} (W : Fx b₀ h L m led) (hm : (l, tupO vs) ∈ led) (hlo : -(2 ^ 63) ≤ i) (hb : i < 2 ^ 63) (hj : seqIndex? i vs.length = some j) (hi : vs[j]? = some v) (k : Q v ⟨h, gs, dr, tk, os⟩)
    (hs : subscripted slice false (.ref l) (.int i u) = operate [.ref l, .int i u] (getItem (.ref l) (.int i u)) := by with_unfolding_all rfl) :
    wpAny (model prog w) A (subscriptTail value slice (.ref l) (.int i u)) Q E ⟨h, gs, dr, tk, os⟩ := item_tupleT (isTup_of W.C hm) hlo hb hj hi k hs
end

theorem seqIdx {j n : Nat} (h : j < n) : seqIndex? (j : Int) n = some j := by
  unfold seqIndex?
  simp
  omega
theorem opq_neg (a : Op) : (a.str == Str.ofString "not") = decide (a = .neg) := by cases a <;> decide
theorem opq_eq (a : Op) : (a.str == Str.ofString "=") = decide (a = .eq) := by cases a <;> decide
theorem absorb_perm (pre H T : List (Addr × Obj)) (x : Addr × Obj) : (pre ++ (H ++ (x :: T))).Perm (x :: (pre ++ (H ++ T))) := by
  rw [← List.append_assoc, ← List.append_assoc]; exact List.perm_middle
def BC.add (σ : BC) (x : Addr × Obj) : BC := { σ with tups := x :: σ.tups }
theorem Fx.absorb {b₀ h : Heap} {L : Addr} {m : Str → Option Value} {pre : List (Addr × Obj)} {P : Params} {C : Addr} {α : BA} {σ : BC} {x : Addr × Obj} (W : Fx b₀ h L m (x :: (pre ++ bankLed P C α σ))) :
    Fx b₀ h L m (pre ++ bankLed P C α (σ.add x)) := W.perm (absorb_perm pre [_, _, _, _, _, _, _, _, _, _] σ.tups x)
theorem Ok.add {prog : Program} {w : World} {σ : BC} {B : List Tm} (O : Ok prog w σ B) (x : Addr × Obj) : Ok prog w (σ.add x) B where
  nop := O.nop
  nar := O.nar
  nso := O.nso
  nda := O.nda
  op := O.op
  ar := fun i t ht => let ⟨a, h1, h2⟩ := O.ar i t ht; ⟨a, h1, h2.mono fun _ hp => .tail _ hp⟩
  so := O.so
  hd := O.hd
  tl := O.tl
  nd := O.nd
  nu := let ⟨xs, h1, h2, h3, h4⟩ := O.nu; ⟨xs, h1, h2, h3, fun x hx => let ⟨t, e, hk⟩ := h4 x hx; ⟨t, e, hk.mono fun _ hp => .tail _ hp⟩⟩

/-- the bank's own words, told of plain lists -/
def opAt (B : List Tm) (t : Nat) : Op := match B[t]? with | some x => x.op | none => .nil
def argsAt (B : List Tm) (t : Nat) : List Nat := match B[t]? with | some x => x.args | none => []
theorem opAt_of {B : List Tm} {t : Nat} {x : Tm} (h : B[t]? = some x) : opAt B t = x.op := by unfold opAt; rw [h]
theorem argsAt_of {B : List Tm} {t : Nat} {x : Tm} (h : B[t]? = some x) : argsAt B t = x.args := by unfold argsAt; rw [h]
def notOf (B : List Tm) (t : Nat) : Nat × List Tm := if opAt B t = .neg then ((argsAt B t).headD 0, B) else if t = 1 then (2, B) else if t = 2 then (1, B) else mk B ⟨.neg, [t], 0⟩
def andOf (B : List Tm) (l : List Nat) : Nat × List Tm := match l with | [] => (1, B) | [x] => (x, B) | l => mk B ⟨.con, l, 0⟩
def orOf (B : List Tm) (l : List Nat) : Nat × List Tm := match l with | [] => (2, B) | [x] => (x, B) | l => mk B ⟨.dis, l, 0⟩
def eqOf (B : List Tm) (a b : Nat) : Nat × List Tm := if a = b then (1, B) else mk B ⟨.eq, [min a b, max a b], 0⟩
end Mine
end

section
open PySem PySem.W PyProof.Rows PySem.Calls
set_option Elab.async false
set_option maxRecDepth 100000
namespace Mine
section
variable {prog : Program} {w : World} {A : Around} {E : Value → Shared → Prop} {gs : Array GenState} {dr : Drawn} {os : OsState} {tk : Tok}
  {b₀ h h' : Heap} {L d l : Addr} {m : Str → Option Value} {led led' : List (Addr × Obj)} {v x : Value} {o o' : Obj} {env : Env}

theorem ext_grow {h h' : Heap} (he : Heap.ExtBut h.objs.size h h') : Grow h h' := fun b o e => he b o (Nat.ne_of_lt (Heap.lt_size e)) e

theorem assign_sw2 {M : Model} {s : Shared} {elts k tpos value pos} {n1 n2 : Str} {Q : Flow → Shared → Prop}
    (h : wpAny M A (eval value env) (fun v s₁ => wpAny M A (unpackItems v 2 none) (fun items s₂ =>
      wpAny M A (assignInOrder [bindName env n2, bindName env n1] items.reverse) (fun _ => Q .next) E s₂) E s₁) E s)
    (hs : swapsWithSole [.Tuple elts k tpos] value pos.line env = pure false := by rfl)
    (hw : swappedStores [.Tuple elts k tpos] value env = pure (some [n1, n2]) := by rfl) :
    wpAny M A (exec (.Assign [.Tuple elts k tpos] value pos) env) Q E s := Assign_Tuple_swapped (names := [n1, n2]) h hs hw
theorem assign_sw3 {M : Model} {s : Shared} {elts k tpos value pos} {n1 n2 n3 : Str} {Q : Flow → Shared → Prop}
    (h : wpAny M A (eval value env) (fun v s₁ => wpAny M A (unpackItems v 3 none) (fun items s₂ =>
      wpAny M A (assignInOrder [bindName env n3, bindName env n2, bindName env n1] items.reverse) (fun _ => Q .next) E s₂) E s₁) E s)
    (hs : swapsWithSole [.Tuple elts k tpos] value pos.line env = pure false := by rfl)
    (hw : swappedStores [.Tuple elts k tpos] value env = pure (some [n1, n2, n3]) := by rfl) :
    wpAny M A (exec (.Assign [.Tuple elts k tpos] value pos) env) Q E s := Assign_Tuple_swapped (names := [n1, n2, n3]) h hs hw

theorem rUnpT {vs : List Value} {n : Nat} {Q : List Value → Shared → Prop} (hh : A.handled = none) (W : Fx b₀ h L m led) (hm : (l, tupO vs) ∈ led) (k : ∀ h', Fx b₀ h' L m led → Q vs ⟨h', gs, dr, tk, os⟩) (hn : n = vs.length := by rfl) :
    wpAny (model prog w) A (unpackItems (.ref l) n none) Q E ⟨h, gs, dr, tk, os⟩ := by
  subst hn
  have := unpackItems_tuple (prog := prog) (w := w) (A := A) (E := E) (s := ⟨h, gs, dr, tk, os⟩) (items := vs.toArray) (Q := Q) hh (isTup_of W.C hm) fun h' he => k h' (W.grow (ext_grow he))
  simpa using this

theorem aio_cons {M : Model} {s : Shared} {t : Value → Sem Unit} {ts : List (Value → Sem Unit)} {y : Value} {ys : List Value} {Q : Unit → Shared → Prop} (h : wpAny M A (t y) (fun _ s' => wpAny M A (assignInOrder ts ys) Q E s') E s) :
    wpAny M A (assignInOrder (t :: ts) (y :: ys)) Q E s := by
  show wpAny M A (do holding ys (t y); assignInOrder ts ys) Q E s
  exact wpAny_bind (wpAny_holding h)
theorem aio_nil {M : Model} {s : Shared} {ys : List Value} {Q : Unit → Shared → Prop} (h : Q () s) : wpAny M A (assignInOrder [] ys) Q E s := wpAny_pure h
theorem aio_bind {M : Model} {s : Shared} {n : Str} {ts : List (Value → Sem Unit)} {y : Value} {ys : List Value} {Q : Unit → Shared → Prop} (h : wpAny M A (storeName env n y) (fun _ s' => wpAny M A (assignInOrder ts ys) Q E s') E s) :
    wpAny M A (assignInOrder (bindName env n :: ts) (y :: ys)) Q E s := aio_cons (bindName_ h)
theorem aio_name {M : Model} {s : Shared} {n : Str} {np : Pos} {ts : List (Value → Sem Unit)} {y : Value} {ys : List Value} {Q : Unit → Shared → Prop} (h : wpAny M A (storeName env n y) (fun _ s' => wpAny M A (assignInOrder ts ys) Q E s') E s) :
    wpAny M A (assignInOrder (assign (.Name n np) env :: ts) (y :: ys)) Q E s := aio_cons (assign_Name h)
end

theorem roomy {t n m k : Nat} (h : t < n) (hn : n ≤ m) (hk : 3 * m + 4 ≤ k) : 3 * t + 4 ≤ k := by omega
set_option genSizeOf false in
set_option genInjectivity false in
structure RA where
  self : Addr
  d : Addr
  kd : Addr
  t : Nat → Tok
  n : Nat
abbrev rwEs (P : Params) (α : BA) (ρ : RA) : List DictEntry := [ent P "bank" (ρ.t 0) (.ref α.self), ent P "yes" (ρ.t 1) (.int 1 (ρ.t 2)), ent P "no" (ρ.t 3) (.int 2 (ρ.t 4)), ent P "known" (ρ.t 5) (.ref ρ.kd)]
/-- the rewriter stands in the ledger -/
structure HR (P : Params) (C : Addr) (α : BA) (ρ : RA) (led : List (Addr × Obj)) : Prop where
  i : (ρ.self, instObj C ρ.d) ∈ led
  d : (ρ.d, dictOf (rwEs P α ρ) ρ.n) ∈ led


/-- a list of terms as the bank makes it -/
structure Wf (B : List Tm) : Prop where
  lt : ∀ (i : Nat) (t : Tm), B[i]? = some t → ∀ s ∈ t.args, s < i
  ng : ∀ (i : Nat) (t : Tm), B[i]? = some t → t.op = .neg → ∃ s, t.args = [s] ∧ opAt B s ≠ .neg ∧ s ≠ 1 ∧ s ≠ 2 ∧ t.data = 0
  t1 : B[1]? = some ⟨.tru, [], 0⟩
  t2 : B[2]? = some ⟨.fls, [], 0⟩
theorem Wf.len {B : List Tm} (w : Wf B) : 2 < B.length := (List.getElem?_eq_some_iff.mp w.t2).1

theorem opAt_append {B R : List Tm} {i : Nat} (h : i < B.length) : opAt (B ++ R) i = opAt B i := by
  unfold opAt; rw [List.getElem?_append_left h]
theorem argsAt_append {B R : List Tm} {i : Nat} (h : i < B.length) : argsAt (B ++ R) i = argsAt B i := by
  unfold argsAt; rw [List.getElem?_append_left h]
theorem opAt_out {B : List Tm} {i : Nat} (h : ¬ i < B.length) : opAt B i = .nil := by
  unfold opAt; rw [List.getElem?_eq_none (by omega)]
theorem opAt_lt {B : List Tm} {i : Nat} (h : opAt B i ≠ .nil) : i < B.length := by
  by_cases hi : i < B.length
  · exact hi
  · exact absurd (opAt_out hi) h

/-- the bank has only grown -/
def Ext (B B' : List Tm) : Prop := ∃ R, B' = B ++ R
theorem Ext.refl (B : List Tm) : Ext B B := ⟨[], by simp⟩
theorem Ext.trans {a b c : List Tm} (x : Ext a b) (y : Ext b c) : Ext a c := by
  obtain ⟨r, rfl⟩ := x; obtain ⟨r', rfl⟩ := y; exact ⟨r ++ r', by simp⟩
theorem Ext.len {B B' : List Tm} (x : Ext B B') : B.length ≤ B'.length := by obtain ⟨r, rfl⟩ := x; simp
theorem Ext.get {B B' : List Tm} (x : Ext B B') {i : Nat} {t : Tm} (h : B[i]? = some t) : B'[i]? = some t := by
  obtain ⟨r, rfl⟩ := x; rw [List.getElem?_append_left (List.getElem?_eq_some_iff.mp h).1]; exact h
theorem Ext.op {B B' : List Tm} (x : Ext B B') {i : Nat} (h : i < B.length) : opAt B' i = opAt B i := by obtain ⟨r, rfl⟩ := x; exact opAt_append h
theorem Ext.args {B B' : List Tm} (x : Ext B B') {i : Nat} (h : i < B.length) : argsAt B' i = argsAt B i := by obtain ⟨r, rfl⟩ := x; exact argsAt_append h

theorem mk_ext (B : List Tm) (t : Tm) : Ext B (mk B t).2 := by
  unfold mk; split
  · exact Ext.refl B
  · exact ⟨[t], rfl⟩
theorem mk_get (B : List Tm) (t : Tm) : (mk B t).2[(mk B t).1]? = some t := by
  unfold mk; split
  · rename_i h
    show B[B.idxOf t]? = some t
    rw [List.getElem?_eq_getElem (List.idxOf_lt_length_iff.mpr h), List.getElem_idxOf]
  · simp
theorem mk_lt (B : List Tm) (t : Tm) : (mk B t).1 < (mk B t).2.length := (List.getElem?_eq_some_iff.mp (mk_get B t)).1
theorem mk_len (B : List Tm) (t : Tm) : (mk B t).2.length ≤ B.length + 1 := by
  unfold mk; split <;> simp
theorem mk_wf {B : List Tm} {t : Tm} (w : Wf B) (ha : ∀ s ∈ t.args, s < B.length) (hn : t.op = .neg → ∃ s, t.args = [s] ∧ opAt B s ≠ .neg ∧ s ≠ 1 ∧ s ≠ 2 ∧ t.data = 0) : Wf (mk B t).2 := by
  unfold mk; split
  · exact w
  · show Wf (B ++ [t])
    have hl := w.len
    refine ⟨fun i u hu s hs => ?_, fun i u hu hop => ?_, ?_, ?_⟩
    · rcases get_append_one hu with h | ⟨rfl, rfl⟩
      · exact w.lt i u h s hs
      · exact ha s hs
    · rcases get_append_one hu with h | ⟨rfl, rfl⟩
      · obtain ⟨s, e1, e2, e3⟩ := w.ng i u h hop
        have hs : s < i := w.lt i u h s (by rw [e1]; exact .head _)
        have hi := (List.getElem?_eq_some_iff.mp h).1
        exact ⟨s, e1, by rw [opAt_append (by omega)]; exact e2, e3⟩
      · obtain ⟨s, e1, e2, e3⟩ := hn hop
        exact ⟨s, e1, by rw [opAt_append (ha s (by rw [e1]; exact .head _))]; exact e2, e3⟩
    · rw [List.getElem?_append_left (by omega)]; exact w.t1
    · rw [List.getElem?_append_left (by omega)]; exact w.t2

def bareOf (B : List Tm) (t : Nat) : Nat := if opAt B t = .neg then (argsAt B t).headD 0 else t
theorem neg_of {B : List Tm} {t : Nat} (w : Wf B) (h : opAt B t = .neg) : ∃ s, B[t]? = some ⟨.neg, [s], 0⟩ ∧ argsAt B t = [s] ∧ s < t ∧ opAt B s ≠ .neg ∧ s ≠ 1 ∧ s ≠ 2 := by
  have ht : t < B.length := opAt_lt (by rw [h]; exact fun e => nomatch e)
  have hg := List.getElem?_eq_getElem ht
  generalize B[t] = x at hg
  rw [opAt_of hg] at h
  obtain ⟨s, e1, e2, e3, e4, e5⟩ := w.ng t x hg h
  obtain ⟨o, as, d⟩ := x
  simp only at h e1 e5
  subst h e1 e5
  exact ⟨s, hg, argsAt_of hg, w.lt t _ hg s (.head _), e2, e3, e4⟩
theorem op1 {B : List Tm} (w : Wf B) : opAt B 1 = .tru := opAt_of w.t1
theorem op2 {B : List Tm} (w : Wf B) : opAt B 2 = .fls := opAt_of w.t2

theorem notOf_ext (B : List Tm) (t : Nat) : Ext B (notOf B t).2 := by
  unfold notOf; repeat' split
  all_goals first | exact Ext.refl B | exact mk_ext B _
theorem notOf_len (B : List Tm) (t : Nat) : (notOf B t).2.length ≤ B.length + 1 := by
  unfold notOf; repeat' split
  all_goals first | exact Nat.le_succ _ | exact mk_len B _
theorem notOf_wf {B : List Tm} {t : Nat} (w : Wf B) (ht : t < B.length) : Wf (notOf B t).2 ∧ (notOf B t).1 < (notOf B t).2.length := by
  have hl := w.len
  unfold notOf; split
  · rename_i h
    obtain ⟨s, _, e, hs, _⟩ := neg_of w h
    rw [e]; exact ⟨w, by show s < B.length; omega⟩
  · rename_i h; split
    · exact ⟨w, by show 2 < B.length; omega⟩
    · split
      · exact ⟨w, by show 1 < B.length; omega⟩
      · rename_i h1 h2
        exact ⟨mk_wf w (by simpa using ht) fun _ => ⟨t, rfl, h, h1, h2, rfl⟩, mk_lt B _⟩
theorem eqOf_ext (B : List Tm) (a b : Nat) : Ext B (eqOf B a b).2 := by
  unfold eqOf; split
  · exact Ext.refl B
  · exact mk_ext B _
theorem eqOf_len (B : List Tm) (a b : Nat) : (eqOf B a b).2.length ≤ B.length + 1 := by
  unfold eqOf; split
  · exact Nat.le_succ _
  · exact mk_len B _
theorem eqOf_wf {B : List Tm} {a b : Nat} (w : Wf B) (ha : a < B.length) (hb : b < B.length) : Wf (eqOf B a b).2 ∧ (eqOf B a b).1 < (eqOf B a b).2.length := by
  have hl := w.len
  unfold eqOf; split
  · exact ⟨w, by show 1 < B.length; omega⟩
  · exact ⟨mk_wf w (by intro s hs; simp at hs; omega) (fun e => nomatch e), mk_lt B _⟩
theorem bareOf_lt {B : List Tm} {t : Nat} (w : Wf B) (ht : t < B.length) : bareOf B t < B.length := by
  unfold bareOf; split
  · rename_i h
    obtain ⟨s, _, e, hs, _⟩ := neg_of w h
    rw [e]; show s < B.length; omega
  · exact ht
theorem notOf_neg {B : List Tm} {t : Nat} (h : opAt B t = .neg) : notOf B t = (bareOf B t, B) := by unfold notOf bareOf; rw [if_pos h, if_pos h]

def sameMid (B : List Tm) (a b : Nat) : Nat × List Tm :=
  if a = 1 ∨ a = 2 then (if a = 1 then (b, B) else notOf B b) else if b = 1 then (a, B) else if b = 2 then notOf B a else eqOf B a b
def sameOf (B : List Tm) (a b : Nat) : Nat × List Tm :=
  let p := sameMid B (bareOf B a) (bareOf B b)
  if decide (opAt B a = .neg) != decide (opAt B b = .neg) then notOf p.2 p.1 else p
theorem sameMid_wf {B : List Tm} {a b : Nat} (w : Wf B) (ha : a < B.length) (hb : b < B.length) : Wf (sameMid B a b).2 ∧ (sameMid B a b).1 < (sameMid B a b).2.length := by
  unfold sameMid; repeat' split
  all_goals first | exact ⟨w, ha⟩ | exact ⟨w, hb⟩ | exact notOf_wf w ha | exact notOf_wf w hb | exact eqOf_wf w ha hb
theorem sameMid_len (B : List Tm) (a b : Nat) : (sameMid B a b).2.length ≤ B.length + 1 := by
  unfold sameMid; repeat' split
  all_goals first | exact Nat.le_succ _ | exact notOf_len B _ | exact eqOf_len B _ _
theorem sameMid_ext (B : List Tm) (a b : Nat) : Ext B (sameMid B a b).2 := by
  unfold sameMid; repeat' split
  all_goals first | exact Ext.refl B | exact notOf_ext B _ | exact eqOf_ext B _ _
theorem sameOf_wf {B : List Tm} {a b : Nat} (w : Wf B) (ha : a < B.length) (hb : b < B.length) : Wf (sameOf B a b).2 ∧ (sameOf B a b).1 < (sameOf B a b).2.length := by
  have h := sameMid_wf w (bareOf_lt w ha) (bareOf_lt w hb)
  unfold sameOf; dsimp only; split
  · exact notOf_wf h.1 h.2
  · exact h
theorem sameOf_len (B : List Tm) (a b : Nat) : (sameOf B a b).2.length ≤ B.length + 2 := by
  have h := sameMid_len B (bareOf B a) (bareOf B b)
  unfold sameOf; dsimp only; split
  · exact Nat.le_trans (notOf_len _ _) (by omega)
  · omega
theorem sameOf_ext (B : List Tm) (a b : Nat) : Ext B (sameOf B a b).2 := by
  have h := sameMid_ext B (bareOf B a) (bareOf B b)
  unfold sameOf; dsimp only; split
  · exact h.trans (notOf_ext _ _)
  · exact h
end Mine
end

section
open PySem PySem.W PyProof.Rows PySem.Calls
set_option Elab.async false
set_option maxRecDepth 100000
namespace Mine

section
variable {prog : Program} {w : World} {A : Around} {E : Value → Shared → Prop} {gs : Array GenState} {dr : Drawn} {os : OsState} {tk : Tok}
  {b₀ h : Heap} {L : Addr} {m : Str → Option Value} {led : List (Addr × Obj)} {env : Env} {target elt iter : Expr} {ifs : List Expr} {scope : Scope} {pos : Pos} {cl : List (Str × Addr)}

abbrev cellO (v : Option Value) : Obj := { cls := .type "cell", data := .cell v }
def cellLed (n : Nat) : List (Str × NameKind) → List (Addr × Obj) → List (Addr × Obj)
  | [], acc => acc
  | (_, k) :: r, acc => if k == .cell then cellLed (n + 1) r ((n, cellO none) :: acc) else cellLed n r acc
theorem cellLed_app : ∀ (names : List (Str × NameKind)) (n : Nat) (acc : List (Addr × Obj)), cellLed n names acc = cellLed n names [] ++ acc
  | [], _, _ => rfl
  | (_, k) :: r, n, acc => by
    unfold cellLed
    split
    · rw [cellLed_app r, cellLed_app r (n + 1) [_]]; simp
    · exact cellLed_app r n acc
theorem Fx.cells : ∀ (names : List (Str × NameKind)) {h : Heap} {led : List (Addr × Obj)}, Fx b₀ h L m led → Fx b₀ (pushCells h names) L m (cellLed h.objs.size names led)
  | [], _, _, W => W
  | (_, k) :: r, h, led, W => by
    unfold cellLed pushCells
    split
    · have := Fx.cells r (W.push (cellO none))
      rw [Heap.size_push] at this
      exact this
    · exact Fx.cells r W

/-- a block's environment for a comprehension -/
def cEnv (scope : Scope) (cl : List (Str × Addr)) (C : Addr) (env : Env) : Env :=
  { scope := relabel scope env, locals := C, globals := env.globals, cells := cellsFrom (C + 1) scope.names cl, qual := env.qual, func := none, code := env.code, frame := env.frame, builtins := env.builtins }

theorem nfe {M : Model} {s : Shared} {globals : Addr} {qual : Str} {Q : Env → Shared → Prop}
    (hQ : Q (newEnv scope s.heap.objs.size globals (cellsFrom (s.heap.objs.size + 1) scope.names cl) qual none .none (some env) builtinsNs) { s with heap := pushCells (s.heap.push { cls := .type "dict", data := .dict #[] }) scope.names }) :
    wpAny M A (newFunctionEnv scope globals cl [] qual none .none (some env)) Q E s := by
  simp only [newFunctionEnv, Option.isSome_some, if_true]
  refine wpAny_bind (wpAny_alloc ?_)
  refine wpAny_bind (wpAny_layCells _ (fun name kind cells => by cases hkc : kind == NameKind.cell <;> simp [hkc]) _ _ _ _ ?_)
  rw [Heap.size_push]
  simp only [List.forIn_nil]
  exact wpAny_bind (wpAny_pure (wpAny_pure hQ))

theorem codeAny_compLoop_any {R : Result → Shared → Prop} {s : Shared} {it acc : Value} {env : Env} (I : Nat → Shared → Prop)
    (turn : ∀ n s, I n s → wpAny (model prog w) A (pyNext it) (fun r s₁ => match r with
      | none => R (.ok .next) s₁
      | some v => wpAny (model prog w) A (letOwnedTupleGo target it v) (fun _ s₁' => wpAny (model prog w) A (assign target env v) (fun _ s₂ =>
          wpAny (model prog w) A (forIn ifs true fun c r => if r = true then do let ok ← isTrue c env (eval c env); pure (ForInStep.yield ok) else pure (ForInStep.yield r)) (fun ok s₃ =>
            if ok = true then wpAny (model prog w) A (eval elt env) (fun x s₄ =>
              wpAny (model prog w) A (call (.builtin "list.append") [acc, x]) (fun _ s₅ => ∃ m, m < n ∧ I m s₅) (notedBy (model prog w) A env fun e s' => R (.error e) s') s₄) (notedBy (model prog w) A env fun e s' => R (.error e) s') s₃
            else ∃ m, m < n ∧ I m s₃) (notedBy (model prog w) A env fun e s' => R (.error e) s') s₂) (notedBy (model prog w) A env fun e s' => R (.error e) s') s₁') (notedBy (model prog w) A env fun e s' => R (.error e) s') s₁) (notedBy (model prog w) A env fun e s' => R (.error e) s') s)
    (n : Nat) (h : I n s) :
    codeAny (model prog w) A (.compLoop (.ListComp elt [⟨target, iter, ifs, 0⟩] scope pos) 0 it acc env) R s := by
  refine codeAny_loop rfl I (fun n s hI => ?_) n h
  show wpAny _ A ((compTurn (.ListComp elt [⟨target, iter, ifs, 0⟩] scope pos) 0 it acc env).onRaise (fun x => do noteFrame x env; theTreesLotGoes x)) _ _ s
  refine wpAny_noted ?_
  rw [compTurn_list]
  refine wpAny_bind (wpAny_standAt (wpAny_bind (wpAny_mono (turn n s hI) (fun r s₁ h₁ => ?_) fun _ _ h' => h')))
  cases r with
  | none => exact wpAny_pure h₁
  | some v =>
    refine wpAny_bind (wpAny_mono h₁ (fun _ s₁' h₁' => ?_) fun _ _ h' => h')
    refine wpAny_bind (wpAny_mono h₁' (fun _ s₂ h₂ => wpAny_bind (wpAny_mono h₂ (fun ok s₃ h₃ => ?_) fun _ _ h' => h')) fun _ _ h' => h')
    cases ok with
    | false => exact wpAny_pure ⟨rfl, h₃⟩
    | true =>
      exact wpAny_bind (wpAny_bind (wpAny_mono h₃ (fun x s₄ h₄ => wpAny_bind (wpAny_mono h₄ (fun _ s₅ h₅ => wpAny_pure (wpAny_pure ⟨rfl, h₅⟩)) fun _ _ h' => h')) fun _ _ h' => h'))

/-- how a turn of a comprehension ends -/
def CEnd (b₀ : Heap) (L C D : Addr) (oL : Obj) (e : Nat) (ys : Array Value) (cadr : List Addr) (gs : Array GenState) (dr : Drawn) (os : OsState) (its : List (Addr × Obj)) (J : List (Addr × Obj) → Prop) (s : Shared) : Prop :=
  ∃ h tk m led cells, s = ⟨h, gs, dr, tk, os⟩ ∧ Fx b₀ h C m (cells ++ (D, listOf ys e) :: (L, oL) :: (its ++ led)) ∧ cells.map (·.1) = cadr ∧ (∀ p ∈ cells, ∃ v, p.2.data = .cell v) ∧ J led
theorem CEnd.intro {C D : Addr} {oL : Obj} {e : Nat} {ys : Array Value} {cadr : List Addr} {its : List (Addr × Obj)} {J : List (Addr × Obj) → Prop} (cells : List (Addr × Obj)) (W : Fx b₀ h C m (cells ++ (D, listOf ys e) :: (L, oL) :: (its ++ led))) (hc : cells.map (·.1) = cadr) (hd : ∀ p ∈ cells, ∃ v, p.2.data = .cell v) (j : J led) :
    CEnd b₀ L C D oL e ys cadr gs dr os its J ⟨h, gs, dr, tk, os⟩ := ⟨h, tk, m, led, cells, rfl, W, hc, hd, j⟩

theorem cellLed_cells : ∀ (names : List (Str × NameKind)) (n : Nat), ∀ p ∈ cellLed n names [], ∃ v, p.2.data = .cell v
  | [], _, p, hp => nomatch hp
  | (_, k) :: r, n, p, hp => by
    unfold cellLed at hp
    split at hp
    · rw [cellLed_app] at hp
      rcases List.mem_append.mp hp with q | q
      · exact cellLed_cells r _ p q
      · rw [List.mem_singleton.mp q]; exact ⟨none, rfl⟩
    · exact cellLed_cells r n p hp

theorem Fx.drop {its : List (Addr × Obj)} {wr : List Addr} {h' : Heap} (W : Fx b₀ h L m (its ++ led)) (hm : its.map (·.1) = wr) (hk : ∀ b o, b ∉ wr → h.get? b = some o → h'.get? b = some o) : Fx b₀ h' L m led := by
  obtain ⟨h1, h2, h3⟩ := W.C.off hm
  have hLw : L ∉ wr := fun q => by
    rw [← hm] at q
    obtain ⟨p, hp, e⟩ := List.mem_map.mp q
    exact W.nL p (List.mem_append_left _ hp) e
  have hs : b₀.StaysIn h' := fun b o e => hk b o (fun q => by have := none_of_ge (h3 b q); rw [e] at this; cases this) (W.C.stays b o e)
  have hn := W.C.nd
  rw [List.map_append, List.nodup_append] at hn
  exact ⟨⟨W.F.ns.at' fun o e => hk _ o hLw e, hs, W.F.above⟩, ⟨hs, fun p hp => hk _ _ (h1 p hp) (W.C.own p (List.mem_append_right _ hp)), fun p hp => W.C.new p (List.mem_append_right _ hp), hn.2.1⟩, fun p hp => W.nL p (List.mem_append_right _ hp)⟩

theorem Fx.block {oL : Obj} (W : Fx b₀ h L m led) (hoL : h.get? L = some oL) : Fx b₀ (h.push { cls := .type "dict", data := .dict #[] }) h.objs.size (fun _ => none) ((L, oL) :: led) := by
  have C := (W.C.more hoL W.F.above W.nL).grow (Grow.push h { cls := .type "dict", data := .dict #[] })
  refine ⟨⟨⟨_, #[], 0, Heap.get?_push_size _ rfl, rfl, ⟨by simp [StrKeys], fun _ => rfl⟩⟩, C.stays, Nat.le_of_lt (Nat.lt_of_le_of_lt W.F.above W.ltL)⟩, C, fun p hp => ?_⟩
  rcases List.mem_cons.mp hp with rfl | hp
  · exact Nat.ne_of_lt W.ltL
  · exact Nat.ne_of_lt (W.C.lt hp)

theorem comp_core {RR : Value → Addr → Result → Shared → Prop} {src its : List (Addr × Obj)} {P : Nat → Value → Heap → Prop} {n : Nat} {it : Value} (T : Itr prog w A target b₀ L src P n h m its led it) {oL : Obj}
    (hoL : h.get? L = some oL) (hn : n ≤ 16000000)
    (J : Nat → Array Value → List (Addr × Obj) → Prop) (h0 : J 0 #[] led) (hJs : ∀ i ys led, J i ys led → ys.size ≤ i ∧ ∀ p ∈ src, p ∈ led)
    (turn : ∀ C i v ys e D m₁ led₁ its₁ cells₁ h₁ tk₁ (E' : Value → Shared → Prop), i < n → P i v h₁ → J i ys led₁ → its₁.map (·.1) = its.map (·.1) → cells₁.map (·.1) = (cellLed (C + 1) scope.names []).map (·.1) → (∀ p ∈ cells₁, ∃ v, p.2.data = .cell v) →
      Fx b₀ h₁ C m₁ (cells₁ ++ (D, listOf ys e) :: (L, oL) :: (its₁ ++ led₁)) →
      wpAny (model prog w) A (assign target (cEnv scope cl C env) v) (fun _ s₂ =>
          wpAny (model prog w) A (forIn ifs true fun c r => if r = true then do let ok ← isTrue c (cEnv scope cl C env) (eval c (cEnv scope cl C env)); pure (ForInStep.yield ok) else pure (ForInStep.yield r)) (fun ok s₃ =>
            if ok = true then wpAny (model prog w) A (eval elt (cEnv scope cl C env)) (fun x s₄ => CEnd b₀ L C D oL e ys (cells₁.map (·.1)) gs dr os its₁ (J (i + 1) (ys.push x)) s₄) E' s₃
            else CEnd b₀ L C D oL e ys (cells₁.map (·.1)) gs dr os its₁ (J (i + 1) ys) s₃) E' s₂) E' ⟨h₁, gs, dr, tk₁, os⟩)
    (fin : ∀ C D h' tk' ys e led' mC, Fx b₀ h' C mC ((D, listOf ys e) :: (L, oL) :: led') → J n ys led' → RR (.ref D) C (.ok .next) ⟨h', gs, dr, tk', os⟩) :
    wpAny (model prog w) A (newList []) (fun acc s₃ => wpAny (model prog w) A (newFunctionEnv scope env.globals cl [] env.qual none .none (some env)) (fun cenv s₄ =>
      codeAny (model prog w) A (.compStart (.ListComp elt [⟨target, iter, ifs, 0⟩] scope pos) 0 it acc { cenv with scope := relabel scope env }) (RR acc cenv.locals) s₄) E s₃) E ⟨h, gs, dr, tk, os⟩ := by
  obtain ⟨⟨I, fp, wr, Md, St, rfl, KT, hex, hm, hsrc, hst, hself, hst'⟩, W⟩ := T
  refine wpAny_newObj_type ?_ (by show ([] : List Value).toArray.size ≤ sizeLine; exact Nat.zero_le _)
  have W₁ := W.push (listOf ([] : List Value).toArray 0)
  have hoL₁ : (h.push (listOf ([] : List Value).toArray 0)).get? L = some oL := Heap.get?_push_of_some _ hoL
  have g₁ : Grow h (h.push (listOf ([] : List Value).toArray 0)) := Grow.push _ _
  have hst₁ : St 0 (h.push (listOf ([] : List Value).toArray 0)) := hst' _ fun b _ o e => g₁ b o e
  dsimp only
  have hD : (Value.ref h.objs.size) = .ref h.objs.size := rfl
  generalize h.objs.size = D at W₁ ⊢
  generalize hH : h.push { cls := .type "list", data := .seq ([] : List Value).toArray } = h₁ at W₁ hoL₁ g₁ hst₁ ⊢
  have W₂ := W₁.block hoL₁
  refine nfe ?_
  dsimp only
  have W₃ := Fx.cells scope.names (W₂.perm (List.Perm.swap (L, oL) (D, listOf ([] : List Value).toArray 0) (its ++ led)))
  rw [Heap.size_push, cellLed_app] at W₃
  have hst₃ : St 0 (pushCells (h₁.push { cls := .type "dict", data := .dict #[] }) scope.names) :=
    KT.frame _ _ _ hst₁ fun b _ o e => pushCells_keeps scope.names _ b o (Heap.get?_push_of_some _ e)
  generalize hH2 : pushCells (h₁.push { cls := .type "dict", data := .dict #[] }) scope.names = h₃ at W₃ hst₃ ⊢
  generalize hC : h₁.objs.size = C at W₃ ⊢
  clear hH hH2 hC W₂ W₁ hst₁ g₁ hoL₁
  have loop : ∀ s : Shared, s = ⟨h₃, gs, dr, tk, os⟩ → codeAny (model prog w) A (.compLoop (.ListComp elt [⟨target, iter, ifs, 0⟩] scope pos) 0 (.ref I) (.ref D) (cEnv scope cl C env)) (RR (.ref D) C) s := by
    rintro s rfl
    refine codeAny_compLoop_any
      (fun k s' => ∃ h' tk' mC led' its' cells' ys e i, s' = ⟨h', gs, dr, tk', os⟩ ∧ St i h' ∧ its'.map (·.1) = wr ∧ cells'.map (·.1) = (cellLed (C + 1) scope.names []).map (·.1) ∧ (∀ p ∈ cells', ∃ v, p.2.data = .cell v) ∧
        Fx b₀ h' C mC (cells' ++ (D, listOf ys e) :: (L, oL) :: (its' ++ led')) ∧ J i ys led' ∧ i ≤ n ∧ k = n + 1 - i) ?_ (n + 1)
      ⟨h₃, tk, _, led, its, _, #[], 0, 0, rfl, hst₃, hm, rfl, cellLed_cells _ _, W₃, h0, Nat.zero_le _, rfl⟩
    rintro k s' ⟨h', tk', mC, led', its', cells', ys, e, i, rfl, hst', hm', hc', hd', W', hJ, hi, rfl⟩
    have reorder : ∀ (a b : List (Addr × Obj)), (a ++ (cells' ++ (D, listOf ys e) :: (L, oL) :: b)).Perm (cells' ++ (D, listOf ys e) :: (L, oL) :: (a ++ b)) := by
      intro a b
      have := List.perm_append_comm_assoc a (cells' ++ [(D, listOf ys e), (L, oL)]) b
      simpa using this
    by_cases hlt : i < n
    · refine KT.item i _ _ _ hlt hst' fun v h₁ tk₁ hMd hk₁ => ?_
      refine KT.go i v _ _ _ hMd fun h₂ hP hst₂ hk₂ => ?_
      have W₂ := (W'.perm (reorder its' led')).its hm' (fun b o hb e => hk₂ b o hb (hk₁ b o hb e)) (hex _ _ hst₂)
      have hm₂ := itsOf_map (hex _ _ hst₂)
      have W₂' := W₂.perm (reorder (itsOf h₂ wr) led').symm
      have endst : ∀ (h₃ : Heap) (tk₃ : Nat) (m₃ : Str → Option Value) (led₃ cells₃ : List (Addr × Obj)) (ys₃ : Array Value) (e₃ : Nat), Fx b₀ h₃ C m₃ (cells₃ ++ (D, listOf ys₃ e₃) :: (L, oL) :: (itsOf h₂ wr ++ led₃)) →
          cells₃.map (·.1) = cells'.map (·.1) → (∀ p ∈ cells₃, ∃ v, p.2.data = .cell v) → J (i + 1) ys₃ led₃ →
          ∃ k', k' < n + 1 - i ∧ ∃ h' tk' mC led' its' cells' ys e i, (⟨h₃, gs, dr, tk₃, os⟩ : Shared) = ⟨h', gs, dr, tk', os⟩ ∧ St i h' ∧ its'.map (·.1) = wr ∧ cells'.map (·.1) = (cellLed (C + 1) scope.names []).map (·.1) ∧ (∀ p ∈ cells', ∃ v, p.2.data = .cell v) ∧
            Fx b₀ h' C mC (cells' ++ (D, listOf ys e) :: (L, oL) :: (its' ++ led')) ∧ J i ys led' ∧ i ≤ n ∧ k' = n + 1 - i := by
        intro h₃ tk₃ m₃ led₃ cells₃ ys₃ e₃ W₃ hc₃ hd₃ hJ₃
        refine ⟨n + 1 - (i + 1), by omega, h₃, tk₃, m₃, led₃, itsOf h₂ wr, cells₃, ys₃, e₃, i + 1, rfl, ?_, hm₂, hc₃.trans hc', hd₃, W₃, hJ₃, hlt, rfl⟩
        refine KT.frame _ _ _ hst₂ fun b hb o eo => ?_
        by_cases hbw : b ∈ wr
        · exact W₃.C.own _ (List.mem_append_right _ (.tail _ (.tail _ (List.mem_append_left _ (mem_itsOf hbw eo)))))
        · obtain ⟨o', ho'⟩ := hsrc b hb hbw
          have e2 := W₂'.C.own _ (List.mem_append_right _ (.tail _ (.tail _ (List.mem_append_right _ ((hJs _ _ _ hJ).2 _ ho')))))
          rw [eo] at e2
          cases e2
          exact W₃.C.own _ (List.mem_append_right _ (.tail _ (.tail _ (List.mem_append_right _ ((hJs _ _ _ hJ₃).2 _ ho')))))
      refine wpAny_mono (turn C i v ys e D mC led' (itsOf h₂ wr) cells' h₂ tk₁ _ hlt hP hJ (hm₂.trans hm.symm) hc' hd' W₂') (fun _ s₂ x => wpAny_mono x (fun ok s₃ y => ?_) fun _ _ e => e) fun _ _ e => e
      cases ok with
      | false =>
        simp only [Bool.false_eq_true, if_false] at y ⊢
        obtain ⟨h₃, tk₃, m₃, led₃, cells₃, rfl, W₃, hc₃, hd₃, hJ₃⟩ := y
        exact endst h₃ tk₃ m₃ led₃ cells₃ ys e W₃ hc₃ hd₃ hJ₃
      | true =>
        simp only [if_true] at y ⊢
        refine wpAny_mono y (fun x s₄ z => ?_) fun _ _ e => e
        obtain ⟨h₃, tk₃, m₃, led₃, cells₃, rfl, W₃, hc₃, hd₃, hJ₃⟩ := z
        refine rAppend W₃ (Pt.app .head) (by have := (hJs _ _ _ hJ).1; omega) fun h₄ W₄ => ?_
        exact endst h₄ tk₃ m₃ led₃ cells₃ (ys.push x) (e + 1) W₄ hc₃ hd₃ hJ₃
    · have hin : i = n := by omega
      subst hin
      refine KT.done _ _ _ hst' fun h₁ tk₁ hk₁ => ?_
      have W₂ := (W'.perm (reorder its' led')).drop hm' hk₁
      exact fin C D h₁ tk₁ ys e led' mC (W₂.sub (List.sublist_append_right _ _)) hJ
  exact codeAny_compStart_list (loop _ rfl) (hself _ _ _ hst₃ (loop _ rfl))

/-- the frame's own map, told of its object -/
def ObjMap (o : Obj) (m : Str → Option Value) : Prop := ∃ es ep, o.data = .dict es ep ∧ StrKeys es ∧ ∀ name, nsFind es name = m name
theorem Fx.objMap (W : Fx b₀ h L m led) : ∃ oL, h.get? L = some oL ∧ ObjMap oL m := let ⟨o, es, ep, ho, hd, hk, hf⟩ := W.F.ns; ⟨o, ho, es, ep, hd, hk, hf⟩
theorem Fx.unblock {C : Addr} {mC : Str → Option Value} {oL : Obj} {h' : Heap} {x : Addr × Obj} (W : Fx b₀ h C mC (x :: (L, oL) :: led)) (hL : b₀.objs.size ≤ L) (ho : ObjMap oL m) (hs : Heap.SameBut C h h') : Fx b₀ h' L m (x :: led) := by
  obtain ⟨es, ep, hd, hk, hf⟩ := ho
  have hCn : b₀.get? C = none := none_of_ge W.F.above
  have keep : ∀ p ∈ x :: (L, oL) :: led, h'.get? p.1 = some p.2 := fun p hp => (hs.2 _ (W.nL p hp)).trans (W.C.own p hp)
  have st : b₀.StaysIn h' := fun b o e => (hs.2 b fun q => by rw [q, hCn] at e; cases e).trans (W.C.stays b o e)
  have nd := W.C.nd
  have hsub : List.Sublist (x :: led) (x :: (L, oL) :: led) := .cons_cons _ (.cons _ (List.Sublist.refl _))
  refine ⟨⟨⟨oL, es, ep, keep (L, oL) (.tail _ (.head _)), hd, hk, hf⟩, st, hL⟩, ⟨st, fun p hp => keep p (hsub.subset hp), fun p hp => W.C.new p (hsub.subset hp), (hsub.map _).nodup nd⟩, fun p hp e => ?_⟩
  simp only [List.map_cons, List.nodup_cons, List.mem_cons, List.mem_map, not_or] at nd
  rcases List.mem_cons.mp hp with rfl | hp
  · exact nd.1.1 e
  · exact nd.2.1 ⟨p, hp, e⟩

/-- a comprehension at its iterator -/
def CAt (prog : Program) (w : World) (A : Around) (E : Value → Shared → Prop) (env : Env) (scope : Scope) (cl : List (Str × Addr)) (elt target iter : Expr) (ifs : List Expr) (pos : Pos) (use : Option (Value → Sem Unit)) (Q : Value → Shared → Prop) (it : Value) (s : Shared) : Prop :=
  wpAny (model prog w) A (newList []) (fun acc s₃ => wpAny (model prog w) A (newFunctionEnv scope env.globals cl [] env.qual none .none (some env)) (fun cenv s₄ =>
      codeAny (model prog w) A (.compStart (.ListComp elt [⟨target, iter, ifs, 0⟩] scope pos) 0 it acc { cenv with scope := relabel scope env }) (compPost (model prog w) A E use Q acc cenv.locals) s₄) E s₃) E s

theorem rComp {Q : Value → Shared → Prop} {s : Shared} (h : wpAny (model prog w) A (eval iter env) (fun x s₁ => wpAny (model prog w) A (pyIter x) (CAt prog w A E env scope cl elt target iter ifs pos none Q) E s₁) E s)
    (hclos : closureFor scope env = pure cl) (hkind : scope.kind = .function) (hnames : ∀ x ∈ scope.names, x.2 = .local → scope.names.lookup x.1 = some .local)
    (hs : ∀ x, foldedSetIterable iter env x = pure x) :
    wpAny (model prog w) A (eval (.ListComp elt [⟨target, iter, ifs, 0⟩] scope pos) env) Q E s := by
  rw [eval_ListComp]
  exact wpAny_comprehension_free (use := none) rfl hs hclos hkind hnames h

theorem comp_at {src its : List (Addr × Obj)} {P : Nat → Value → Heap → Prop} {n : Nat} {it : Value} {Q : Value → Shared → Prop} (T : Itr prog w A target b₀ L src P n h m its led it) (hn : n ≤ 16000000)
    (J : Nat → Array Value → List (Addr × Obj) → Prop) (h0 : J 0 #[] led) (hJs : ∀ i ys led, J i ys led → ys.size ≤ i ∧ ∀ p ∈ src, p ∈ led)
    (turn : ∀ C i v ys e D oL m₁ led₁ its₁ cells₁ h₁ tk₁ (E' : Value → Shared → Prop), i < n → P i v h₁ → J i ys led₁ → its₁.map (·.1) = its.map (·.1) → cells₁.map (·.1) = (cellLed (C + 1) scope.names []).map (·.1) → (∀ p ∈ cells₁, ∃ v, p.2.data = .cell v) →
      Fx b₀ h₁ C m₁ (cells₁ ++ (D, listOf ys e) :: (L, oL) :: (its₁ ++ led₁)) →
      wpAny (model prog w) A (assign target (cEnv scope cl C env) v) (fun _ s₂ =>
          wpAny (model prog w) A (forIn ifs true fun c r => if r = true then do let ok ← isTrue c (cEnv scope cl C env) (eval c (cEnv scope cl C env)); pure (ForInStep.yield ok) else pure (ForInStep.yield r)) (fun ok s₃ =>
            if ok = true then wpAny (model prog w) A (eval elt (cEnv scope cl C env)) (fun x s₄ => CEnd b₀ L C D oL e ys (cells₁.map (·.1)) gs dr os its₁ (J (i + 1) (ys.push x)) s₄) E' s₃
            else CEnd b₀ L C D oL e ys (cells₁.map (·.1)) gs dr os its₁ (J (i + 1) ys) s₃) E' s₂) E' ⟨h₁, gs, dr, tk₁, os⟩)
    (fin : ∀ D h' tk' ys e led', Fx b₀ h' L m ((D, listOf ys e) :: led') → J n ys led' → Q (.ref D) ⟨h', gs, dr, tk', os⟩) :
    CAt prog w A E env scope cl elt target iter ifs pos none Q it ⟨h, gs, dr, tk, os⟩ := by
  obtain ⟨oL, hoL, hom⟩ := T.W.objMap
  refine comp_core (RR := fun acc C => compPost (model prog w) A E none Q acc C) T hoL hn J h0 hJs (fun C i v ys e D => turn C i v ys e D oL) ?_
  intro C D h' tk' ys e led' mC W' hJ
  exact ⟨mC, W'.F.ns, fun h'' hs'' => fin D h'' tk' ys e led' (W'.unblock T.W.F.above hom hs'') hJ⟩

theorem rCompAssign {y : Str} {py spos : Pos} {Q : Flow → Shared → Prop} {s : Shared}
    (h : wpAny (model prog w) A (eval iter env) (fun x s₁ => wpAny (model prog w) A (pyIter x) (CAt prog w A E env scope cl elt target iter ifs pos (some (assign (.Name y py) env)) (fun _ s' => Q .next s')) E s₁) E s)
    (hsw : swapsWith (.ListComp elt [⟨target, iter, ifs, 0⟩] scope pos) (some (.Name y py)) spos.line env = pure true)
    (hclos : closureFor scope env = pure cl) (hkind : scope.kind = .function) (hnames : ∀ x ∈ scope.names, x.2 = .local → scope.names.lookup x.1 = some .local)
    (hs : ∀ x, foldedSetIterable iter env x = pure x) :
    wpAny (model prog w) A (exec (.Assign [.Name y py] (.ListComp elt [⟨target, iter, ifs, 0⟩] scope pos) spos) env) Q E s := by
  rw [exec_Assign_Name_used _ _ _ _ hsw]
  refine wpAny_bind (wpAny_standAt (wpAny_bind ?_))
  show wpAny _ A (do let _ ← comprehension (.ListComp elt [⟨target, iter, ifs, 0⟩] scope pos) scope env _ (newList []) false (eval iter env) (some (assign (.Name y py) env))) _ _ s
  exact wpAny_bind (wpAny_mono (wpAny_comprehension_free (use := some (assign (.Name y py) env)) (Q := fun _ s' => Q .next s') rfl hs hclos hkind hnames h) (fun _ s' hq => wpAny_pure (wpAny_pure hq)) fun _ _ e => e)

theorem comp_use_at {src its : List (Addr × Obj)} {P : Nat → Value → Heap → Prop} {n : Nat} {it : Value} {Q : Flow → Shared → Prop} {y : Str} {py : Pos} (T : Itr prog w A target b₀ L src P n h m its led it) (hn : n ≤ 16000000)
    (hL : env.locals = L) (hy : env.kindOf y = some .local) (hp : (env.scope.kind == .class || (env.scope.kind == .module && env.locals != env.globals)) = false)
    (J : Nat → Array Value → List (Addr × Obj) → Prop) (h0 : J 0 #[] led) (hJs : ∀ i ys led, J i ys led → ys.size ≤ i ∧ ∀ p ∈ src, p ∈ led)
    (turn : ∀ C i v ys e D oL m₁ led₁ its₁ cells₁ h₁ tk₁ (E' : Value → Shared → Prop), i < n → P i v h₁ → J i ys led₁ → its₁.map (·.1) = its.map (·.1) → cells₁.map (·.1) = (cellLed (C + 1) scope.names []).map (·.1) → (∀ p ∈ cells₁, ∃ v, p.2.data = .cell v) →
      Fx b₀ h₁ C m₁ (cells₁ ++ (D, listOf ys e) :: (L, oL) :: (its₁ ++ led₁)) →
      wpAny (model prog w) A (assign target (cEnv scope cl C env) v) (fun _ s₂ =>
          wpAny (model prog w) A (forIn ifs true fun c r => if r = true then do let ok ← isTrue c (cEnv scope cl C env) (eval c (cEnv scope cl C env)); pure (ForInStep.yield ok) else pure (ForInStep.yield r)) (fun ok s₃ =>
            if ok = true then wpAny (model prog w) A (eval elt (cEnv scope cl C env)) (fun x s₄ => CEnd b₀ L C D oL e ys (cells₁.map (·.1)) gs dr os its₁ (J (i + 1) (ys.push x)) s₄) E' s₃
            else CEnd b₀ L C D oL e ys (cells₁.map (·.1)) gs dr os its₁ (J (i + 1) ys) s₃) E' s₂) E' ⟨h₁, gs, dr, tk₁, os⟩)
    (fin : ∀ D h' tk' ys e led', Fx b₀ h' L (fun z => if z = y then some (.ref D) else m z) ((D, listOf ys e) :: led') → J n ys led' → Q .next ⟨h', gs, dr, tk', os⟩) :
    CAt prog w A E env scope cl elt target iter ifs pos (some (assign (.Name y py) env)) (fun _ s' => Q .next s') it ⟨h, gs, dr, tk, os⟩ := by
  obtain ⟨oL, hoL, hom⟩ := T.W.objMap
  refine comp_core (RR := fun acc C => compPost (model prog w) A E (some (assign (.Name y py) env)) (fun _ s' => Q .next s') acc C) T hoL hn J h0 hJs (fun C i v ys e D => turn C i v ys e D oL) ?_
  intro C D h' tk' ys e led' mC W' hJ
  show wpAny _ A (assign (.Name y py) env (.ref D)) _ _ _
  obtain ⟨oC, hoC, hmC⟩ := W'.objMap
  obtain ⟨oC', CxC, _⟩ := W'.out
  have : oC' = oC := by have := CxC.own _ (.head _); rw [hoC] at this; exact (Option.some.inj this).symm
  subst this
  -- the frame L again, the block's names an entry
  have nd := CxC.nd
  simp only [List.map_cons, List.nodup_cons, List.mem_cons, List.mem_map, not_or] at nd
  have hsub : List.Sublist ((C, oC') :: (D, listOf ys e) :: led') ((C, oC') :: (D, listOf ys e) :: (L, oL) :: led') := .cons_cons _ (.cons_cons _ (.cons _ (List.Sublist.refl _)))
  obtain ⟨es, ep, hd, hk, hf⟩ := hom
  have WL : Fx b₀ h' L m ((C, oC') :: (D, listOf ys e) :: led') := by
    refine ⟨⟨⟨oL, es, ep, CxC.own (L, oL) (.tail _ (.tail _ (.head _))), hd, hk, hf⟩, CxC.stays, T.W.F.above⟩, CxC.sub (fun _ hp => hsub.subset hp) ((hsub.map _).nodup CxC.nd), fun p hp q => ?_⟩
    rcases List.mem_cons.mp hp with rfl | hp
    · exact nd.1.2.1 q
    · rcases List.mem_cons.mp hp with rfl | hp
      · exact nd.2.1.1 q
      · exact nd.2.2.1 ⟨p, hp, q⟩
  subst hL
  refine wpAny_assign_Name (wpAny_storeName_local hy WL.F.ns (fun h₂ hn₂ hs₂ => ?_) hp)
  have W₂ := WL.names hn₂ hs₂
  obtain ⟨es2, ep2, hd2, hk2, hf2⟩ := hmC
  have hCL : C ≠ env.locals := nd.1.2.1
  refine ⟨mC, ⟨oC', es2, ep2, W₂.C.own _ (.head _), hd2, hk2, hf2⟩, fun h₃ hs₃ => ?_⟩
  refine fin D h₃ _ ys e led' ?_ hJ
  have hCn : b₀.get? C = none := W₂.C.fresh (.head _)
  have hCnot : ∀ p ∈ (D, listOf ys e) :: led', p.1 ≠ C := fun p hp q => by
    rcases List.mem_cons.mp hp with rfl | hp
    · exact nd.1.1 q.symm
    · exact nd.1.2.2 ⟨p, hp, q⟩
  have st : b₀.StaysIn h₃ := fun b o x => (hs₃.2 b fun q => by rw [q, hCn] at x; cases x).trans (W₂.C.stays b o x)
  have nd2 := (List.nodup_cons.mp W₂.C.nd).2
  exact ⟨⟨W₂.F.ns.at' fun o x => (hs₃.2 _ hCL.symm).trans x, st, W₂.F.above⟩, ⟨st, fun p hp => (hs₃.2 _ (hCnot p hp)).trans (W₂.C.own p (.tail _ hp)), fun p hp => W₂.C.new p (.tail _ hp), nd2⟩, fun p hp => W₂.nL p (.tail _ hp)⟩
end
end Mine
end

section
open PySem PySem.W PyProof.Rows PySem.Calls
set_option Elab.async false
set_option maxRecDepth 100000
namespace Mine
section
variable {prog : Program} {w : World} {A : Around} {E : Value → Shared → Prop} {K : Frag} {gs : Array GenState} {dr : Drawn} {os : OsState} {tk : Tok}
  {b₀ h : Heap} {L : Addr} {m : Str → Option Value} {led : List (Addr × Obj)}

theorem cellsAre_map {cm : Str → Option Value} {cs : List (Str × Addr)} {cells : List (Addr × Obj)} (Y : CellsAre cm cs cells) : cells.map (·.1) = cs.map (·.2) := by
  induction Y with
  | nil => rfl
  | cons _ _ ih => simp [ih]

theorem enterC {Q : Value → Shared → Prop} {f : Addr} {args : Args} {binds : List (Str × Value)} {name qual : Str} {params : Arguments} {body : List Stmt} {scope : Scope} {dV kV doc pm cdv ct oc : Value} {an od : Option Addr} {osl : Array (Option Value)}
    (X : K.In b₀) (hlim : b₀.NoLimit) (W : Fx b₀ h L m led)
    (ho : K.lookup f = some ⟨oc, od, .func (fnOf name qual params body scope dV kV doc pm an cdv ct), osl⟩) (hcd : codeIn K cdv qual = true) (hroom : A.depth < recursionLimit)
    (hbind : BindsTo ⟨h, gs, dr, tk, os⟩ (fnOf name qual params body scope dV kV doc pm an cdv ct) args ((params.args.map (·.arg)).zip args.pos)) (hbl : (params.args.map (·.arg)).zip args.pos = binds)
    (hkind : (binds.all fun y => scope.names.lookup y.1 == some .local || scope.names.lookup y.1 == some .cell) = true)
    (hnd : ((cellsFrom 0 scope.names []).map (·.1)).Nodup)
    (hb : ∀ oL L' h₁ tk₁ cells, Fx b₀ h₁ L' (bindL (envOfC qual scope L' f cdv).kindOf binds fun _ => none) (cells ++ (L, oL) :: led) →
      CellsAre (bindC (envOfC qual scope L' f cdv).kindOf binds fun _ => none) (cellsFrom (L' + 1) scope.names []) cells →
      wpAny (model prog w) (A.deeper (envX qual scope L' f cdv (cellsFrom (L' + 1) scope.names []))) (execs body (envX qual scope L' f cdv (cellsFrom (L' + 1) scope.names [])))
        (fun fl s' => Back b₀ L L' m oL gs dr os Q (match fl with | .ret v => v | _ => .none) s') (fun _ _ => False) ⟨h₁, gs, dr, tk₁, os⟩)
    (hco : scope.isCoroutine = false := by rfl) (hgen : scope.isGenerator = false := by rfl) (hk : scope.kind = .function := by rfl) :
    wpAny (model prog w) A (call (.ref f) args.pos args.kw) Q E ⟨h, gs, dr, tk, os⟩ := by
  rw [hbl] at hbind
  obtain ⟨oL, C, back⟩ := W.out
  refine wpAny_call (codeAny_call_function (fd := fnOf name qual params body scope dV kV doc pm an cdv ct) hroom (C.stays _ _ (X _ _ ho)) rfl hco hgen rfl (codeRec_of (X.keeps C.stays) hcd) (hbind _ _ _ _ ?_))
  refine wpAny_newFunctionEnv_cells hk (kindsX hkind _) fun env' he s' x => ?_
  subst he
  refine ⟨(hlim.keeps C.stays).keeps x.toInCall.keep, codeAny_func ?_⟩
  obtain ⟨h₁, tk₁, rfl, _⟩ := x.done
  have hk₁ := x.toInCall.keep
  obtain ⟨cells, NC, Y⟩ := Cl.news (h₀ := h) (Nat.le_refl _) fun n c hm => ⟨x.cell n c (lookup_of_mem_nodup (cellsFrom_names scope.names 0 (h.objs.size + 1) [] [] rfl ▸ hnd) hm), x.above n c hm⟩
  have C₁ : Cx b₀ h₁ ((L, oL) :: led) := C.grow hk₁
  have hbs : b₀.objs.size ≤ h.objs.size := Nat.le_of_lt (Nat.lt_of_le_of_lt W.F.above W.ltL)
  have hmap := cellsAre_map Y
  have hab : ∀ p ∈ cells, h.objs.size < p.1 := fun p hp => by
    have : p.1 ∈ cells.map (·.1) := List.mem_map_of_mem hp
    rw [hmap] at this
    obtain ⟨q, hq, e⟩ := List.mem_map.mp this
    rw [← e]; exact x.above q.1 q.2 hq
  have hndc : (cells.map (·.1)).Nodup := by
    rw [hmap, List.nodup_iff_pairwise_ne]
    exact List.Pairwise.map _ (fun _ _ e => e) x.apart
  have W₁ : Fx b₀ h₁ h.objs.size (bindL (envOfC qual scope h.objs.size f cdv).kindOf binds fun _ => none) (cells ++ (L, oL) :: led) := by
    refine ⟨⟨x.toInCall.ns, C₁.stays, hbs⟩, ⟨C₁.stays, fun p hp => ?_, fun p hp => ?_, ?_⟩, fun p hp => ?_⟩
    · rcases List.mem_append.mp hp with q | q
      · exact (NC p q).1
      · exact C₁.own p q
    · rcases List.mem_append.mp hp with q | q
      · exact Nat.le_of_lt (Nat.lt_of_le_of_lt hbs (hab p q))
      · exact C₁.new p q
    · rw [List.map_append, List.nodup_append]
      refine ⟨hndc, C.nd, fun a ha b hb e => ?_⟩
      obtain ⟨p, hp, rfl⟩ := List.mem_map.mp ha
      obtain ⟨q, hq, rfl⟩ := List.mem_map.mp hb
      exact Nat.lt_irrefl _ (Nat.lt_trans (e ▸ hab p hp) (C.lt hq))
    · rcases List.mem_append.mp hp with q | q
      · exact Nat.ne_of_gt (hab p q)
      · exact Nat.ne_of_lt (C.lt q)
  refine wpAny_mono (hb oL _ h₁ _ cells W₁ Y) (fun fl s' hB => ?_) fun _ _ e => e.elim
  obtain ⟨h₂, tk₂, led₂, m₂, rfl, W₂, k⟩ := hB
  exact k (back h₂ led₂ W₂.C)

theorem rCellSt {env : Env} {x : Str} {c : Addr} {o : Obj} {v₀ : Option Value} {v : Value} {led' : Obj → List (Addr × Obj)} {Q : Unit → Shared → Prop} (W : Fx b₀ h L m led) (hc : env.cells.lookup x = some c) (hm : (c, o) ∈ led) (hd : o.data = .cell v₀) (p : ∀ o', Pt c o o' led (led' o'))
    (k : ∀ h' o', Fx b₀ h' L m (led' o') → o'.data = .cell (some v) → Q () ⟨h', gs, dr, tk, os⟩) (hk : env.scope.kind = .function := by rfl) (hx : env.kindOf x = some .cell := by rfl) :
    wpAny (model prog w) A (storeName env x v) Q E ⟨h, gs, dr, tk, os⟩ := by
  refine wpAny_storeName_cell hk hx hc ⟨o, W.C.own _ hm, hd⟩ fun h' hv hs => ?_
  obtain ⟨o', ho', hd'⟩ := hv
  exact k h' o' (W.put (p o') hs ho') hd'
end
end Mine
end

section
open PySem PySem.W PyProof.Rows PySem.Calls PySem.SeqAt
set_option Elab.async false
set_option maxRecDepth 100000
namespace Mine

section
variable {prog : Program} {w : World} {A : Around} {E : Value → Shared → Prop} {gs : Array GenState} {dr : Drawn} {os : OsState} {tk : Tok}
  {b₀ h h' : Heap} {L d l : Addr} {m : Str → Option Value} {led : List (Addr × Obj)} {v x key : Value} {Q : Value → Shared → Prop} {o o' : Obj}
  {K : Type} [DecidableEq K] {knd : KeyKind prog w K} {kvs : List (K × Value)} {k : K}

theorem dictAt (C : Cx b₀ h led) (hm : (d, o) ∈ led) (hd : o.IsDictOf knd kvs) : h.DictOf knd d kvs := Heap.dictOf_iff.mpr ⟨o, C.own _ hm, hd⟩

theorem rItemD {value slice : Expr} (W : Fx b₀ h L m led) (hm : (d, o) ∈ led) (hd : o.IsDictOf knd kvs) (hkey : knd.is k key = true) (hv : valueAt kvs k = some v) (kk : ∀ tk', Q v ⟨h, gs, dr, tk', os⟩)
    (hs : subscripted slice false (.ref d) key = operate [.ref d, key] (getItem (.ref d) key) := by with_unfolding_all rfl) :
    wpAny (model prog w) A (subscriptTail value slice (.ref d) key) Q E ⟨h, gs, dr, tk, os⟩ :=
  have hD := dictAt W.C hm hd
  tail_any (Heap.DictOf.typeIs (s := ⟨h, gs, dr, tk, os⟩) hD) slot_dict_getitem.lookup (wpAny_getItem_of (s := ⟨h, gs, dr, tk, os⟩) hkey hD.mapOf hv (kk _)) hs
theorem rNotInD (hlim : b₀.NoLimit) (W : Fx b₀ h L m led) (hm : (d, o) ∈ led) (hd : o.IsDictOf knd kvs) (hkey : knd.is k key = true) (kk : ∀ tk', Q (.bool (!(valueAt kvs k).isSome)) ⟨h, gs, dr, tk', os⟩) :
    wpAny (model prog w) A (compareOp .NotIn key (.ref d)) Q E ⟨h, gs, dr, tk, os⟩ :=
  wpAny_notIn_of (s := ⟨h, gs, dr, tk, os⟩) hkey (notMod hlim W.C hm) (dictAt W.C hm hd).mapOf (kk _)
theorem rSetD {Q : Unit → Shared → Prop} {led' : Obj → List (Addr × Obj)} (W : Fx b₀ h L m led) (p : ∀ o', Pt d o o' led (led' o')) (hd : o.IsDictOf knd kvs) (hkey : knd.is k key = true) (hsz : kvs.length ≤ 16777216)
    (kk : ∀ h' o' tk', Fx b₀ h' L m (led' o') → o'.IsDictOf knd (stored kvs k v) → Q () ⟨h', gs, dr, tk', os⟩) :
    wpAny (model prog w) A (setItem (.ref d) key v) Q E ⟨h, gs, dr, tk, os⟩ := by
  refine wpAny_setItem_pairs (s := ⟨h, gs, dr, tk, os⟩) hkey (dictAt W.C (p o).mem hd) (fun h' hD hs => ?_) hsz
  obtain ⟨o', ho', hd'⟩ := Heap.dictOf_iff.mp hD
  exact kk h' o' _ (W.put (p o') hs ho') hd'
theorem isDict0 (knd : KeyKind prog w K) : (dictOf [] 0).IsDictOf knd [] := ⟨#[], 0, ⟨rfl, rfl, rfl⟩, rfl, by intro e he; simp at he, .nil, .nil⟩
/-- the display {} -/
theorem rDict0 {env : Env} {pos : Pos} (W : Fx b₀ h L m led) (k : ∀ x h', Fx b₀ h' L m ((x, dictOf [] 0) :: led) → Q (.ref x) ⟨h', gs, dr, tk, os⟩) :
    wpAny (model prog w) A (eval (.Dict [] [] pos) env) Q E ⟨h, gs, dr, tk, os⟩ := wpAny_Dict_empty (k _ _ (W.push _))
theorem valueAt_stored (kvs : List (K × Value)) (k j : K) (v : Value) : valueAt (stored kvs k v) j = if j = k then some v else valueAt kvs j := by
  unfold stored valueAt
  by_cases ha : kvs.any (fun kv => kv.1 = k) = true
  · rw [if_pos ha]
    by_cases hj : j = k
    · subst hj
      rw [if_pos rfl]
      induction kvs with
      | nil => simp at ha
      | cons p r ih =>
        simp only [List.map_cons, List.find?_cons]
        by_cases hp : p.1 = j
        · simp [hp]
        · simp only [hp, if_false, decide_false]
          exact ih (by simpa [hp] using ha)
    · rw [if_neg hj]
      clear ha
      induction kvs with
      | nil => rfl
      | cons p r ih =>
        simp only [List.map_cons, List.find?_cons]
        by_cases hp : p.1 = k
        · have : ¬ k = j := fun e => hj e.symm
          simp only [hp, if_true, this, decide_false]; exact ih
        · simp only [hp, if_false]
          by_cases hpj : p.1 = j
          · simp [hpj]
          · simp only [hpj, decide_false]; exact ih
  · rw [if_neg ha]
    have hn : kvs.find? (fun kv => kv.1 = k) = none := by
      rw [List.find?_eq_none]; intro p hp hq; exact ha (List.any_eq_true.mpr ⟨p, hp, hq⟩)
    rw [List.find?_append]
    by_cases hj : j = k
    · subst hj; simp [hn]
    · rw [if_neg hj]
      have : ¬ k = j := fun e => hj e.symm
      simp [this]
end

section
variable {prog : Program} {w : World} {A : Around} {E : Value → Shared → Prop} {gs : Array GenState} {dr : Drawn} {os : OsState} {tk : Tok}
  {b₀ h h' : Heap} {L d l : Addr} {m : Str → Option Value} {led : List (Addr × Obj)} {v x key : Value} {Q : Value → Shared → Prop} {o o' : Obj}

theorem Fx.more (W : Fx b₀ h L m led) {a : Addr} {o : Obj} (g : Grow h h') (ha : h'.get? a = some o) (hs : h.objs.size ≤ a) : Fx b₀ h' L m ((a, o) :: led) := by
  have W' := W.grow g
  refine ⟨W'.F, W'.C.more ha (Nat.le_trans (Nat.le_of_lt (Nat.lt_of_le_of_lt W.F.above W.ltL)) hs) fun p hp => Nat.ne_of_lt (Nat.lt_of_lt_of_le (W.C.lt hp) hs), fun p hp => ?_⟩
  rcases List.mem_cons.mp hp with rfl | hp
  · exact Nat.ne_of_gt (Nat.lt_of_lt_of_le W.ltL hs)
  · exact W.nL p hp

theorem rSorted {vs : List Value} {ns : List Int} {n : Nat} (W : Fx b₀ h L m led) (hm : (l, listOf vs.toArray n) ∈ led) (hI : IntsAre vs ns) (h64 : vs.length < 64)
    (k : ∀ x h' vs' ns' e, Fx b₀ h' L m ((x, listOf vs'.toArray e) :: led) → IntsAre vs' ns' → ns'.Perm ns → ns'.Pairwise (· ≤ ·) → Q (.ref x) ⟨h', gs, dr, tk, os⟩) :
    wpAny (model prog w) A (call (.builtin "sorted") [.ref l]) Q E ⟨h, gs, dr, tk, os⟩ := by
  refine sorted_ints (isList_of W.C hm) hI h64 fun out ns' a1 a2 a3 => ?_
  obtain ⟨e, he⟩ := sortedAll_at h vs out
  exact k _ _ out.toList ns' e (W.more (fun _ _ => sortedAll_old) he (Nat.le_succ _)) a1 a2 a3

theorem rListOfTup {vs : List Value} (W : Fx b₀ h L m led) (hm : (l, tupO vs) ∈ led) (hsz : vs.length ≤ 16777216) (k : ∀ x h' c, Fx b₀ h' L m ((x, listOf vs.toArray c) :: led) → Q (.ref x) ⟨h', gs, dr, tk, os⟩) :
    wpAny (model prog w) A (call (.type "list") [.ref l]) Q E ⟨h, gs, dr, tk, os⟩ :=
  call_list_seq l (.inr rfl) (W.C.own _ hm) rfl rfl (fun h' c hk ho => k _ h' c (W.more hk ho (Nat.le_refl _))) (by rw [List.size_toArray]; exact hsz)

theorem rAddL {vs ws : List Value} {a b : Addr} {n1 n2 : Nat} (W : Fx b₀ h L m led) (ha : (a, listOf vs.toArray n1) ∈ led) (hb : (b, listOf ws.toArray n2) ∈ led) (hsz : vs.length + ws.length ≤ 16777216)
    (k : ∀ x h', Fx b₀ h' L m ((x, listOf (vs ++ ws).toArray 0) :: led) → Q (.ref x) ⟨h', gs, dr, tk, os⟩) : wpAny (model prog w) A (binaryOp .Add (.ref a) (.ref b)) Q E ⟨h, gs, dr, tk, os⟩ :=
  add_lists W.F W.N (isList_of W.C ha) (isList_of W.C hb) (fun h' F' N' => k _ h' ⟨F', ⟨F'.keep, fun p hp => (N' p hp).1, fun p hp => by
      rcases List.mem_cons.mp hp with rfl | hp
      · exact Nat.le_of_lt (Nat.lt_of_le_of_lt W.F.above W.ltL)
      · exact W.C.new p hp, by
      rw [List.map_cons, List.nodup_cons]
      refine ⟨fun q => ?_, W.C.nd⟩
      obtain ⟨p, hp, e⟩ := List.mem_map.mp q
      exact Nat.ne_of_lt (W.C.lt hp) e⟩, fun p hp => (N' p hp).2.1⟩) hsz

theorem rCount {vs : List Value} {n : Nat} (e : Value → Bool) (W : Fx b₀ h L m led) (hm : (l, listOf vs.toArray n) ∈ led) (he : ∀ y ∈ vs, ∀ A s, EqAt A s y x (e y)) (k : ∀ t tk', Q (.int (vs.countP e : Nat) t) ⟨h, gs, dr, tk', os⟩) :
    wpAny (model prog w) A (call (.builtin "list.count") [.ref l, x]) Q E ⟨h, gs, dr, tk, os⟩ := by
  refine call_meets PySem.F.slot_list_count ⟨_, W.C.own _ hm, rfl⟩ PySem.F.entry_list_count (PySem.F.args_list_count_2 _ _) (list_countAt l vs.toArray n none #[] x e) ⟨W.C.own _ hm, fun y hy => he y (by simpa using hy) _ _, ?_⟩
  exact k _ _
theorem rMethCount {vs : Array Value} {n : Nat} {pl : Sem Bool} {Q : Value × List Value → Shared → Prop} (W : Fx b₀ h L m led) (hm : (l, listOf vs n) ∈ led) (k : Q (.builtin "list.count", [.ref l]) ⟨h, gs, dr, tk, os⟩) :
    wpAny (model prog w) A (getMethod (.ref l) "count" pl) Q E ⟨h, gs, dr, tk, os⟩ :=
  getMethod_builtin ⟨_, W.C.own _ hm, rfl⟩ PySem.F.plainAttrs_list PySem.F.slot_list_count PySem.F.type_list_count (fun a e => by cases e; exact ⟨_, W.C.own _ hm, rfl⟩) k
theorem rInL {vs : List Value} {n : Nat} (e : Value → Bool) (W : Fx b₀ h L m led) (hm : (l, listOf vs.toArray n) ∈ led) (he : ∀ y ∈ vs, ∀ A s, EqAt A s y x (e y)) (k : Q (.bool (vs.any e)) ⟨h, gs, dr, tk, os⟩) :
    wpAny (model prog w) A (compareOp .In x (.ref l)) Q E ⟨h, gs, dr, tk, os⟩ :=
  in_listAt e (isList_of W.C hm) (fun y hy => he y (by simpa using hy) _ _) (by simpa using k)
theorem rNotInL {vs : List Value} {n : Nat} (e : Value → Bool) (W : Fx b₀ h L m led) (hm : (l, listOf vs.toArray n) ∈ led) (he : ∀ y ∈ vs, ∀ A s, EqAt A s y x (e y)) (k : Q (.bool (!vs.any e)) ⟨h, gs, dr, tk, os⟩) :
    wpAny (model prog w) A (compareOp .NotIn x (.ref l)) Q E ⟨h, gs, dr, tk, os⟩ :=
  notIn_listAt e (isList_of W.C hm) (fun y hy => he y (by simpa using hy) _ _) (by simpa using k)
theorem rInT {vs : List Value} (e : Value → Bool) (W : Fx b₀ h L m led) (hm : (l, tupO vs) ∈ led) (he : ∀ y ∈ vs, ∀ A s, EqAt A s y x (e y)) (k : Q (.bool (vs.any e)) ⟨h, gs, dr, tk, os⟩) :
    wpAny (model prog w) A (compareOp .In x (.ref l)) Q E ⟨h, gs, dr, tk, os⟩ :=
  in_tupleAt e (isTup_of W.C hm) (fun y hy => he y (by simpa using hy) _ _) (by simpa using k)
end
end Mine
end

section
open PySem PySem.W PyProof.Rows PySem.Calls PySem.SeqAt
set_option Elab.async false
set_option maxRecDepth 100000
namespace Mine

section
variable {prog : Program} {w : World} {A : Around} {E : Value → Shared → Prop} {gs : Array GenState} {dr : Drawn} {os : OsState} {tk : Tok}
  {b₀ h h' : Heap} {L d l : Addr} {m : Str → Option Value} {led : List (Addr × Obj)} {v x key : Value} {Q : Value → Shared → Prop} {o o' : Obj}

abbrev rangeO (n : Int) (t u v : Tok) : Obj := { cls := .type "range", data := .fields #[.int 0 u, .int n t, .int 1 v] }
theorem rRange {n : Int} {t : Tok} (W : Fx b₀ h L m led) (k : ∀ x h' u v tk', Fx b₀ h' L m ((x, rangeO n t u v) :: led) → Q (.ref x) ⟨h', gs, dr, tk', os⟩) :
    wpAny (model prog w) A (call (.type "range") [.int n t]) Q E ⟨h, gs, dr, tk, os⟩ := call_range_1 (k _ _ _ _ _ (W.push _))

theorem itr_range {r : Addr} {n : Nat} {t u v : Tok} {x : Str} {xp : Pos} (hh : A.handled = none) (W : Fx b₀ h L m led) (hm : (r, rangeO n t u v) ∈ led) (hn : (n : Int) < 2 ^ 62)
    (k : ∀ h' i0 it, Itr prog w A (.Name x xp) b₀ L [] (fun i v _ => i < n ∧ ∃ t, v = .int i t) n h' m [i0] led it → Q it ⟨h', gs, dr, tk, os⟩) :
    wpAny (model prog w) A (pyIter (.ref r)) Q E ⟨h, gs, dr, tk, os⟩ := by
  have hr : IsRange h r 0 n 1 u t v := W.C.own _ hm
  refine wpAny_pyIter_range (s := ⟨h, gs, dr, tk, os⟩) hr (small_one (by decide) (by decide) (by omega) hn) ?_
  have e : Builtin.Range.rangeSize 0 (n : Int) 1 = n := by rw [rangeSize_one]; split <;> omega
  rw [e]
  refine k _ (h.objs.size, _) _ (Itr.mk ?_ (W.push _))
  have Wk := (Walks.range (prog := prog) (w := w) hh h.objs.size 0 1 n)
  have Kt0 := KTurns.ofWalks (target := .Name x xp) Wk fun i v s Q E _ q => goName q
  have Kt : KTurns prog w A (.Name x xp) h.objs.size [h.objs.size] [h.objs.size] n (fun i v _ => i < n ∧ ∃ t, v = .int i t) (fun i v hp => i < n ∧ (∃ t, v = .int (0 + i * 1) t) ∧ IsRangeIter hp h.objs.size (0 + ((i + 1 : Nat) : Int) * 1) ((n : Int) - ((i + 1 : Nat) : Int)) 1)
      (fun i h' => IsRangeIter h' h.objs.size (0 + (i : Nat) * 1) ((n : Int) - (i : Nat)) 1) :=
    ⟨Kt0.sub, Kt0.frame, fun i s Q E hi st hQ => Kt0.item i s Q E hi st fun v h' tk md hk => hQ v h' tk ⟨hi, md⟩ hk,
      fun i v s Q E md hQ => Kt0.go i v s Q E md.2 fun h' p st hk => hQ h' ⟨md.1, by obtain ⟨t, e⟩ := p; exact ⟨t, by rw [e]; congr 1; omega⟩⟩ st hk, Kt0.done⟩
  have st0 : IsRangeIter (h.push { cls := .type "range_iterator", data := .fields #[rawInt 0, rawInt (n : Int), rawInt 1] }) h.objs.size (0 + ((0 : Nat) : Int) * 1) ((n : Int) - ((0 : Nat) : Int)) 1 := by
    have e1 : (0 + ((0 : Nat) : Int) * 1) = 0 := by omega
    have e2 : ((n : Int) - ((0 : Nat) : Int)) = n := by omega
    rw [e1, e2]
    exact Heap.get?_push_size _ rfl
  refine ⟨_, _, _, _, _, rfl, Kt, fun i h' st b hb => ?_, rfl, fun b hb hn => absurd hb hn, st0, fun s Q E st q => Wk.self 0 s Q E st q, fun h' hk => Wk.frame 0 _ h' st0 hk⟩
  rw [List.mem_singleton.mp hb]
  exact ⟨_, st⟩

/-- an iterator is its own -/
theorem Itr.self {src its : List (Addr × Obj)} {P : Nat → Value → Heap → Prop} {n : Nat} {it : Value} {target : Expr} (T : Itr prog w A target b₀ L src P n h m its led it) (k : Q it ⟨h, gs, dr, tk, os⟩) : wpAny (model prog w) A (pyIter it) Q E ⟨h, gs, dr, tk, os⟩ := by
  obtain ⟨⟨I, fp, wr, Md, St, rfl, KT, hex, hm, hsrc, hst, hself, _⟩, W⟩ := T
  exact hself ⟨h, gs, dr, tk, os⟩ Q E hst k
theorem ite_cut {M : Model} {E : Value → Shared → Prop} {α : Type} {c : Prop} [Decidable c] {Q : α → Shared → Prop} {e1 e2 : Sem α} {s : Shared} (R : α → Shared → Prop) (h1 : c → wpAny M A e1 R E s) (h2 : ¬c → wpAny M A e2 R E s) (h3 : ∀ v s', R v s' → Q v s') :
    if c then wpAny M A e1 Q E s else wpAny M A e2 Q E s := by
  split
  · exact wpAny_mono (h1 (by assumption)) h3 fun _ _ e => e
  · exact wpAny_mono (h2 (by assumption)) h3 fun _ _ e => e
theorem rAsg {M : Model} {env : Env} {x : Str} {pos : Pos} {Q : Unit → Shared → Prop} (W : Fx b₀ h L m led) (k : ∀ h' tk', Fx b₀ h' L (fun y => if y = x then some v else m y) led → Q () ⟨h', gs, dr, tk', os⟩) (hL : env.locals = L)
    (hx : env.kindOf x = some .local) (hp : (env.scope.kind == .class || (env.scope.kind == .module && env.locals != env.globals)) = false) : wpAny M A (assign (.Name x pos) env v) Q E ⟨h, gs, dr, tk, os⟩ := wpAny_assign_Name (rSt W k hL hx hp)
theorem no_ifs {M : Model} {s : Shared} {f : Expr → Bool → Sem (ForInStep Bool)} {Q : Bool → Shared → Prop} (h : Q true s) : wpAny M A (forIn ([] : List Expr) true f) Q E s := wpAny_pure h
/-- enumerate of a list -/
theorem itr_enum {vs : Array Value} {n0 : Nat} {elts : List Expr} {kk : Nat} {pos : Pos} (hh : A.handled = none) (W : Fx b₀ h L m led) (hm : (l, listOf vs n0) ∈ led)
    (k : ∀ h' i0 i1 it, Itr prog w A (.Tuple elts kk pos) b₀ L [(l, listOf vs n0)] (fun i v h => ∃ T t x, v = .ref T ∧ vs[i]? = some x ∧ h.IsTuple T #[.int i t, x]) vs.size h' m [i0, i1] led it → Q it ⟨h', gs, dr, tk, os⟩) :
    wpAny (model prog w) A (call (.type "enumerate") [.ref l]) Q E ⟨h, gs, dr, tk, os⟩ := by
  refine call_enumerate_list (isList_of W.C hm) fun h' he hi hsz hk => ?_
  obtain ⟨oi, hoi, hoi2⟩ := id hi
  have Wi := W.more hk hoi (Nat.le_refl _)
  have hle : l < h.objs.size := W.C.lt hm
  obtain ⟨oe, hoe⟩ : ∃ o, h'.get? (h.objs.size + 1) = some o := ⟨_, he⟩
  have We : Fx b₀ h' L m ((h.objs.size + 1, oe) :: (h.objs.size, oi) :: led) := by
    refine ⟨Wi.F, Wi.C.more hoe (Nat.le_succ_of_le (Wi.C.new (_, oi) (.head _))) fun p hp => ?_, fun p hp => ?_⟩
    · rcases List.mem_cons.mp hp with rfl | hp
      · exact Nat.ne_of_lt (Nat.lt_succ_self _)
      · exact Nat.ne_of_lt (Nat.lt_succ_of_lt (W.C.lt hp))
    · rcases List.mem_cons.mp hp with rfl | hp
      · exact Nat.ne_of_gt (Nat.lt_succ_of_lt W.ltL)
      · exact Wi.nL p hp
  have WT := (WalksT.enumerate (prog := prog) (w := w) hh (h.objs.size + 1) h.objs.size l (Nat.succ_ne_self _) (Nat.ne_of_lt (Nat.lt_succ_of_lt hle)) (Nat.ne_of_lt hle) vs).toU
  have K0 := KTurns.ofWalksU (elts := elts) (k := kk) (pos := pos) WT
  have st0 : (∃ old, IsEnum h' (h.objs.size + 1) h.objs.size ((0 : Nat) : Int) old) ∧ h'.IsListIter h.objs.size l 0 ∧ h'.IsList l vs := ⟨⟨_, he⟩, hi, isList_of Wi.C (.tail _ hm)⟩
  have K1 : KTurns prog w A (.Tuple elts kk pos) (h.objs.size + 1) [h.objs.size + 1, h.objs.size, l] [h.objs.size + 1, h.objs.size] vs.size
      (fun i v h => ∃ T t x, v = .ref T ∧ vs[i]? = some x ∧ h.IsTuple T #[.int i t, x]) _ _ :=
    ⟨K0.sub, K0.frame, K0.item, fun i v s Q E md hQ => K0.go i v s Q E md fun h' p st hk => hQ h' (by obtain ⟨T, vals, e, ⟨t, x, e1, e2⟩, hT⟩ := p; exact ⟨T, t, x, e, e1, e2 ▸ hT⟩) st hk, K0.done⟩
  refine k h' _ _ _ (Itr.mk ⟨_, _, _, _, _, rfl, K1, fun i h' st b hb => ?_, rfl, fun b hb hn => ?_, st0, fun s Q E st q => WT.self 0 s Q E st q, fun h'' hk' => WT.frame 0 _ h'' st0 hk'⟩ We)
  · obtain ⟨⟨old, he⟩, ⟨oi, ho, _⟩, _⟩ := st
    rcases List.mem_cons.mp hb with rfl | hb
    · exact ⟨_, he⟩
    · rw [List.mem_singleton.mp hb]; exact ⟨_, ho⟩
  · rcases List.mem_cons.mp hb with rfl | hb
    · exact absurd (.head _) hn
    · rcases List.mem_cons.mp hb with rfl | hb
      · exact absurd (.tail _ (.head _)) hn
      · rw [List.mem_singleton.mp hb]; exact ⟨_, .head _⟩
/-- zip of two lists -/
theorem neA {n i j : Nat} (h : i ≠ j) : n + i ≠ n + j := fun e => h (Nat.add_left_cancel e)
theorem neB {n j : Nat} (h : 0 < j) : n ≠ n + j := Nat.ne_of_lt (Nat.lt_add_of_pos_right h)
theorem neC {n j : Nat} (h : 0 < j) : n + j ≠ n := Nat.ne_of_gt (Nat.lt_add_of_pos_right h)
theorem neD {p n j : Nat} (h : p < n) : p ≠ n + j := Nat.ne_of_lt (Nat.lt_of_lt_of_le h (Nat.le_add_right _ _))
theorem itr_zip {a b : Addr} {vs ws : Array Value} {n1 n2 : Nat} {elts : List Expr} {kk : Nat} {pos : Pos} (hh : A.handled = none) (W : Fx b₀ h L m led) (ha : (a, listOf vs n1) ∈ led) (hb : (b, listOf ws n2) ∈ led)
    (k : ∀ h' e its it, Itr prog w A (.Tuple elts kk pos) b₀ L [e, (a, listOf vs n1), (b, listOf ws n2)] (fun i v h => ∃ T x y, v = .ref T ∧ vs[i]? = some x ∧ ws[i]? = some y ∧ h.IsTuple T #[x, y]) (min vs.size ws.size) h' m its (e :: led) it → Q it ⟨h', gs, dr, tk, os⟩) :
    wpAny (model prog w) A (call (.type "zip") [.ref a, .ref b]) Q E ⟨h, gs, dr, tk, os⟩ := by
  refine call_zip_2 (isList_of W.C ha) (isList_of W.C hb) fun h' hz hTI hTO hi1 hi2 hsz hk => ?_
  dsimp only at hz hTI hTO hi1 hi2 hsz hk ⊢
  obtain ⟨oz, hoz⟩ : ∃ o, h'.get? (h.objs.size + 4) = some o := ⟨_, hz⟩
  obtain ⟨oTI, hoTI⟩ : ∃ o, h'.get? (h.objs.size + 2) = some o := ⟨_, hTI⟩
  obtain ⟨oTO, hoTO⟩ : ∃ o, h'.get? (h.objs.size + 3) = some o := ⟨_, hTO⟩
  obtain ⟨o1, ho1, _⟩ := id hi1
  obtain ⟨o2, ho2, _⟩ := id hi2
  have la : @LT.lt Nat instLTNat a h.objs.size := W.C.lt ha
  have lb : @LT.lt Nat instLTNat b h.objs.size := W.C.lt hb
  have hnL := W.ltL
  have hb0 : b₀.objs.size ≤ h.objs.size := Nat.le_of_lt (Nat.lt_of_le_of_lt W.F.above W.ltL)
  have more : ∀ {led' : List (Addr × Obj)} {a' : Addr} {o' : Obj}, Fx b₀ h' L m led' → h'.get? a' = some o' → h.objs.size ≤ a' → (∀ p ∈ led', p.1 ≠ a') → Fx b₀ h' L m ((a', o') :: led') := fun W' ho hs hne =>
    ⟨W'.F, W'.C.more ho (Nat.le_trans hb0 hs) hne, fun p hp => by
      rcases List.mem_cons.mp hp with rfl | hp
      · exact Nat.ne_of_gt (Nat.lt_of_lt_of_le hnL hs)
      · exact W'.nL p hp⟩
  have lt : ∀ p ∈ led, @LT.lt Nat instLTNat p.1 h.objs.size := fun p hp => W.C.lt hp
  have W1 := more (W.grow hk) hoTI (Nat.le_add_right _ _) fun p hp => by
    have := lt p hp; first | exact neD this | exact Nat.ne_of_lt this | exact Nat.ne_of_lt (by omega)
  have W2 := more W1 ho2 (Nat.le_add_right _ _) fun p hp => by
    rcases List.mem_cons.mp hp with rfl | hp
    · first | exact neA (by decide) | exact neB (by decide) | exact neC (by decide) | exact Nat.ne_of_lt (by omega) | exact Nat.ne_of_gt (by omega)
    have := lt p hp; first | exact neD this | exact Nat.ne_of_lt this | exact Nat.ne_of_lt (by omega)
  have W3 := more W2 ho1 (Nat.le_refl _) fun p hp => by
    rcases List.mem_cons.mp hp with rfl | hp
    · first | exact neA (by decide) | exact neB (by decide) | exact neC (by decide) | exact Nat.ne_of_lt (by omega) | exact Nat.ne_of_gt (by omega)
    rcases List.mem_cons.mp hp with rfl | hp
    · first | exact neA (by decide) | exact neB (by decide) | exact neC (by decide) | exact Nat.ne_of_lt (by omega) | exact Nat.ne_of_gt (by omega)
    have := lt p hp; first | exact neD this | exact Nat.ne_of_lt this | exact Nat.ne_of_lt (by omega)
  have W4 := more W3 hoTO (Nat.le_add_right _ _) fun p hp => by
    rcases List.mem_cons.mp hp with rfl | hp
    · first | exact neA (by decide) | exact neB (by decide) | exact neC (by decide) | exact Nat.ne_of_lt (by omega) | exact Nat.ne_of_gt (by omega)
    rcases List.mem_cons.mp hp with rfl | hp
    · first | exact neA (by decide) | exact neB (by decide) | exact neC (by decide) | exact Nat.ne_of_lt (by omega) | exact Nat.ne_of_gt (by omega)
    rcases List.mem_cons.mp hp with rfl | hp
    · first | exact neA (by decide) | exact neB (by decide) | exact neC (by decide) | exact Nat.ne_of_lt (by omega) | exact Nat.ne_of_gt (by omega)
    have := lt p hp; first | exact neD this | exact Nat.ne_of_lt this | exact Nat.ne_of_lt (by omega)
  have W5 := more W4 hoz (Nat.le_add_right _ _) fun p hp => by
    rcases List.mem_cons.mp hp with rfl | hp
    · first | exact neA (by decide) | exact neB (by decide) | exact neC (by decide) | exact Nat.ne_of_lt (by omega) | exact Nat.ne_of_gt (by omega)
    rcases List.mem_cons.mp hp with rfl | hp
    · first | exact neA (by decide) | exact neB (by decide) | exact neC (by decide) | exact Nat.ne_of_lt (by omega) | exact Nat.ne_of_gt (by omega)
    rcases List.mem_cons.mp hp with rfl | hp
    · first | exact neA (by decide) | exact neB (by decide) | exact neC (by decide) | exact Nat.ne_of_lt (by omega) | exact Nat.ne_of_gt (by omega)
    rcases List.mem_cons.mp hp with rfl | hp
    · first | exact neA (by decide) | exact neB (by decide) | exact neC (by decide) | exact Nat.ne_of_lt (by omega) | exact Nat.ne_of_gt (by omega)
    have := lt p hp; first | exact neD this | exact Nat.ne_of_lt this | exact Nat.ne_of_lt (by omega)
  have D : ZipApart (h.objs.size + 4) (h.objs.size + 2) (h.objs.size + 3) h.objs.size (h.objs.size + 1) a b := by
    constructor <;> first | exact neA (by decide) | exact neB (by decide) | exact neC (by decide) | exact Nat.ne_of_lt (by omega) | exact Nat.ne_of_gt (by omega)
  have WT := (WalksT.zip2 (prog := prog) (w := w) hh _ _ _ _ _ _ _ D vs ws).toU
  have K0 := KTurns.ofWalksU (elts := elts) (k := kk) (pos := pos) WT
  have st0 := show IsZip h' (h.objs.size + 4) (h.objs.size + 2) (h.objs.size + 3) .none ∧ IsPair h' (h.objs.size + 2) (.ref h.objs.size) (.ref (h.objs.size + 1)) ∧ (∃ a b, IsPair h' (h.objs.size + 3) a b) ∧ h'.IsListIter h.objs.size a 0 ∧ h'.IsListIter (h.objs.size + 1) b 0 ∧ h'.IsList a vs ∧ h'.IsList b ws from
    ⟨hz, hTI, ⟨_, _, hTO⟩, hi1, hi2, isList_of (W.grow hk).C ha, isList_of (W.grow hk).C hb⟩
  have K1 : KTurns prog w A (.Tuple elts kk pos) (h.objs.size + 4) [h.objs.size + 4, h.objs.size + 2, h.objs.size + 3, h.objs.size, h.objs.size + 1, a, b] [h.objs.size + 4, h.objs.size + 3, h.objs.size, h.objs.size + 1] (min vs.size ws.size)
      (fun i v h => ∃ T x y, v = .ref T ∧ vs[i]? = some x ∧ ws[i]? = some y ∧ h.IsTuple T #[x, y]) _ _ :=
    ⟨K0.sub, K0.frame, K0.item, fun i v s Q E md hQ => K0.go i v s Q E md fun h' p st hk => hQ h' (by obtain ⟨T, vals, e, ⟨x, y, e1, e2, e3⟩, hT⟩ := p; exact ⟨T, x, y, e, e1, e2, e3 ▸ hT⟩) st hk, K0.done⟩
  refine k h' (h.objs.size + 2, oTI) _ _ (Itr.mk ⟨_, _, _, _, _, rfl, K1, fun i h' st c hc => ?_, ?_, fun c hc hn => ?_, st0, fun s Q E st q => WT.self 0 s Q E st q, fun h'' hk' => WT.frame 0 _ h'' st0 hk'⟩ (its := [_, _, _, _]) W5)
  · obtain ⟨sz, _, ⟨_, _, sTO⟩, ⟨_, s1, _⟩, ⟨_, s2, _⟩, _⟩ := st
    simp only [List.mem_cons, List.not_mem_nil, or_false] at hc
    rcases hc with rfl | rfl | rfl | rfl
    · exact ⟨_, sz⟩
    · exact ⟨_, sTO⟩
    · exact ⟨_, s1⟩
    · exact ⟨_, s2⟩
  · rfl
  · simp only [List.mem_cons, List.not_mem_nil, or_false, not_or] at hc hn
    rcases hc with rfl | rfl | rfl | rfl | rfl | rfl | rfl
    · exact absurd rfl hn.1
    · exact ⟨_, .head _⟩
    · exact absurd rfl hn.2.1
    · exact absurd rfl hn.2.2.1
    · exact absurd rfl hn.2.2.2
    · exact ⟨_, .tail _ (.head _)⟩
    · exact ⟨_, .tail _ (.tail _ (.head _))⟩
end
theorem nodup_bound : ∀ (n : Nat) {l : List Int}, l.Nodup → (∀ x ∈ l, ∃ i : Nat, x = (i : Int) ∧ i < n) → l.length ≤ n
  | 0, l, _, h => by
    cases l with
    | nil => exact Nat.le_refl _
    | cons a r => obtain ⟨i, _, hi⟩ := h a (.head _); omega
  | n + 1, l, hn, h => by
    have h1 : (l.erase (n : Int)).length ≤ n := nodup_bound n (hn.erase _) fun x hx => by
      have ⟨ne, hm⟩ := (hn.mem_erase_iff).mp hx
      obtain ⟨i, rfl, hi⟩ := h x hm
      refine ⟨i, rfl, ?_⟩
      have : i ≠ n := fun e => ne (by rw [e])
      omega
    by_cases hm : (n : Int) ∈ l
    · rw [List.length_erase_of_mem hm] at h1; omega
    · rw [List.erase_of_not_mem hm] at h1; omega
theorem valueAt_of_mem {K : Type} [DecidableEq K] {kvs : List (K × Value)} {k : K} (h : k ∈ kvs.map (·.1)) : ∃ v, valueAt kvs k = some v := by
  obtain ⟨p, hp, rfl⟩ := List.mem_map.mp h
  unfold valueAt
  cases e : kvs.find? (fun kv => kv.1 = p.1) with
  | some q => exact ⟨_, rfl⟩
  | none => exact absurd (decide_eq_true rfl) (List.find?_eq_none.mp e p hp)
theorem range_getD {α : Type} (f : Nat → α) (l : List Nat) : (List.range l.length).map (fun j => f (l.getD j 0)) = l.map f := by
  apply List.ext_getElem?
  intro j
  rw [List.getElem?_map, List.getElem?_map]
  by_cases hj : j < l.length
  · rw [List.getElem?_range hj, List.getElem?_eq_getElem hj]
    simp [hj]
  · rw [List.getElem?_eq_none (by simp; omega), List.getElem?_eq_none (by omega)]; rfl
end Mine
end

section
open PySem PySem.W PyProof.Rows PySem.Calls PySem.SeqAt
set_option Elab.async false
set_option maxRecDepth 100000
namespace Mine

section
variable {prog : Program} {w : World} {A : Around} {E : Value → Shared → Prop} {gs : Array GenState} {dr : Drawn} {os : OsState} {tk : Tok}
  {b₀ h : Heap} {L : Addr} {m : Str → Option Value} {led : List (Addr × Obj)} {env : Env} {elt iter : Expr} {scope : Scope} {pos : Pos} {cl : List (Str × Addr)} {x : Str} {xp : Pos}

/-- a turn of a comprehension without conditions, over one name, one iterator entry -/
def CTurn (prog : Program) (w : World) (A : Around) (b₀ : Heap) (L : Addr) (env : Env) (scope : Scope) (cl : List (Str × Addr)) (x : Str) (xp : Pos) (elt : Expr) (gs : Array GenState) (dr : Drawn) (os : OsState) (P : Nat → Value → Prop) (n : Nat) (J : Nat → Array Value → List (Addr × Obj) → Prop) : Prop :=
  ∀ C i v ys e D oL m₁ led₁ it₁ cells₁ h₁ tk₁ (E' : Value → Shared → Prop), i < n → P i v → J i ys led₁ → cells₁.map (·.1) = (cellLed (C + 1) scope.names []).map (·.1) → (∀ p ∈ cells₁, ∃ v, p.2.data = .cell v) →
      Fx b₀ h₁ C m₁ (cells₁ ++ (D, listOf ys e) :: (L, oL) :: it₁ :: led₁) →
      wpAny (model prog w) A (assign (.Name x xp) (cEnv scope cl C env) v) (fun _ s₂ =>
          wpAny (model prog w) A (eval elt (cEnv scope cl C env)) (fun x s₄ => CEnd b₀ L C D oL e ys (cells₁.map (·.1)) gs dr os [it₁] (J (i + 1) (ys.push x)) s₄) E' s₂) E' ⟨h₁, gs, dr, tk₁, os⟩

theorem one_of_map {its : List (Addr × Obj)} {a : Addr × Obj} (e : its.map (·.1) = [a].map (·.1)) : ∃ i, its = [i] := by
  cases its with
  | nil => simp at e
  | cons b r => cases r with
    | nil => exact ⟨b, rfl⟩
    | cons c r => simp at e

theorem comp1 {src : List (Addr × Obj)} {i0 : Addr × Obj} {P : Nat → Value → Prop} {n : Nat} {it : Value} {Q : Value → Shared → Prop} (T : Itr prog w A (.Name x xp) b₀ L src (fun i v _ => P i v) n h m [i0] led it) (hn : n ≤ 16000000)
    (J : Nat → Array Value → List (Addr × Obj) → Prop) (h0 : J 0 #[] led) (hJs : ∀ i ys led, J i ys led → ys.size ≤ i ∧ ∀ p ∈ src, p ∈ led)
    (turn : CTurn prog w A b₀ L env scope cl x xp elt gs dr os P n J)
    (fin : ∀ D h' tk' ys e led', Fx b₀ h' L m ((D, listOf ys e) :: led') → J n ys led' → Q (.ref D) ⟨h', gs, dr, tk', os⟩) :
    CAt prog w A E env scope cl elt (.Name x xp) iter [] pos none Q it ⟨h, gs, dr, tk, os⟩ := by
  refine comp_at T hn J h0 hJs (fun C i v ys e D oL m₁ led₁ its₁ cells₁ h₁ tk₁ E' hi hP hJ hits hc hd W => ?_) fin
  obtain ⟨i1, rfl⟩ := one_of_map hits
  refine wpAny_mono (turn C i v ys e D oL m₁ led₁ i1 cells₁ h₁ tk₁ E' hi hP hJ hc hd (by simpa using W)) (fun _ s₂ y => ?_) fun _ _ e => e
  refine no_ifs ?_
  rw [if_pos rfl]
  exact y
theorem comp1_use {src : List (Addr × Obj)} {i0 : Addr × Obj} {P : Nat → Value → Prop} {n : Nat} {it : Value} {Q : Flow → Shared → Prop} {y : Str} {py : Pos} (T : Itr prog w A (.Name x xp) b₀ L src (fun i v _ => P i v) n h m [i0] led it) (hn : n ≤ 16000000)
    (hL : env.locals = L) (hy : env.kindOf y = some .local) (hp : (env.scope.kind == .class || (env.scope.kind == .module && env.locals != env.globals)) = false)
    (J : Nat → Array Value → List (Addr × Obj) → Prop) (h0 : J 0 #[] led) (hJs : ∀ i ys led, J i ys led → ys.size ≤ i ∧ ∀ p ∈ src, p ∈ led)
    (turn : CTurn prog w A b₀ L env scope cl x xp elt gs dr os P n J)
    (fin : ∀ D h' tk' ys e led', Fx b₀ h' L (fun z => if z = y then some (.ref D) else m z) ((D, listOf ys e) :: led') → J n ys led' → Q .next ⟨h', gs, dr, tk', os⟩) :
    CAt prog w A E env scope cl elt (.Name x xp) iter [] pos (some (assign (.Name y py) env)) (fun _ s' => Q .next s') it ⟨h, gs, dr, tk, os⟩ := by
  refine comp_use_at T hn hL hy hp J h0 hJs (fun C i v ys e D oL m₁ led₁ its₁ cells₁ h₁ tk₁ E' hi hP hJ hits hc hd W => ?_) fin
  obtain ⟨i1, rfl⟩ := one_of_map hits
  refine wpAny_mono (turn C i v ys e D oL m₁ led₁ i1 cells₁ h₁ tk₁ E' hi hP hJ hc hd (by simpa using W)) (fun _ s₂ y => ?_) fun _ _ e => e
  refine no_ifs ?_
  rw [if_pos rfl]
  exact y

theorem comp_tup {t : Addr} {vs : List Value} {Q : Value → Shared → Prop} (hh : A.handled = none) (W : Fx b₀ h L m led) (hm : (t, tupO vs) ∈ led) (hn : vs.length ≤ 16000000)
    (J : Nat → Array Value → List (Addr × Obj) → Prop) (h0 : J 0 #[] led) (hJs : ∀ i ys led, J i ys led → ys.size ≤ i ∧ (t, tupO vs) ∈ led)
    (turn : CTurn prog w A b₀ L env scope cl x xp elt gs dr os (fun i v => vs[i]? = some v) vs.length J)
    (fin : ∀ D h' tk' ys e led', Fx b₀ h' L m ((D, listOf ys e) :: led') → J vs.length ys led' → Q (.ref D) ⟨h', gs, dr, tk', os⟩) :
    wpAny (model prog w) A (pyIter (.ref t)) (CAt prog w A E env scope cl elt (.Name x xp) iter [] pos none Q) E ⟨h, gs, dr, tk, os⟩ :=
  itr_tup (x := x) (xp := xp) hh W hm fun _ _ _ T => comp1 T hn J h0 (fun i ys led j => ⟨(hJs i ys led j).1, fun p hp => by rw [List.mem_singleton.mp hp]; exact (hJs i ys led j).2⟩) turn fin
theorem comp_list {t : Addr} {vs : Array Value} {e : Nat} {Q : Value → Shared → Prop} (hh : A.handled = none) (W : Fx b₀ h L m led) (hm : (t, listOf vs e) ∈ led) (hn : vs.size ≤ 16000000)
    (J : Nat → Array Value → List (Addr × Obj) → Prop) (h0 : J 0 #[] led) (hJs : ∀ i ys led, J i ys led → ys.size ≤ i ∧ (t, listOf vs e) ∈ led)
    (turn : CTurn prog w A b₀ L env scope cl x xp elt gs dr os (fun i v => vs[i]? = some v) vs.size J)
    (fin : ∀ D h' tk' ys e led', Fx b₀ h' L m ((D, listOf ys e) :: led') → J vs.size ys led' → Q (.ref D) ⟨h', gs, dr, tk', os⟩) :
    wpAny (model prog w) A (pyIter (.ref t)) (CAt prog w A E env scope cl elt (.Name x xp) iter [] pos none Q) E ⟨h, gs, dr, tk, os⟩ :=
  itr_list (x := x) (xp := xp) hh W hm fun _ _ _ T => comp1 T hn J h0 (fun i ys led j => ⟨(hJs i ys led j).1, fun p hp => by rw [List.mem_singleton.mp hp]; exact (hJs i ys led j).2⟩) turn fin
theorem comp_tup_use {t : Addr} {vs : List Value} {Q : Flow → Shared → Prop} {y : Str} {py : Pos} (hh : A.handled = none) (W : Fx b₀ h L m led) (hm : (t, tupO vs) ∈ led) (hn : vs.length ≤ 16000000)
    (hL : env.locals = L) (hy : env.kindOf y = some .local) (hp : (env.scope.kind == .class || (env.scope.kind == .module && env.locals != env.globals)) = false)
    (J : Nat → Array Value → List (Addr × Obj) → Prop) (h0 : J 0 #[] led) (hJs : ∀ i ys led, J i ys led → ys.size ≤ i ∧ (t, tupO vs) ∈ led)
    (turn : CTurn prog w A b₀ L env scope cl x xp elt gs dr os (fun i v => vs[i]? = some v) vs.length J)
    (fin : ∀ D h' tk' ys e led', Fx b₀ h' L (fun z => if z = y then some (.ref D) else m z) ((D, listOf ys e) :: led') → J vs.length ys led' → Q .next ⟨h', gs, dr, tk', os⟩) :
    wpAny (model prog w) A (pyIter (.ref t)) (CAt prog w A E env scope cl elt (.Name x xp) iter [] pos (some (assign (.Name y py) env)) (fun _ s' => Q .next s')) E ⟨h, gs, dr, tk, os⟩ :=
  itr_tup (x := x) (xp := xp) hh W hm fun _ _ _ T => comp1_use T hn hL hy hp J h0 (fun i ys led j => ⟨(hJs i ys led j).1, fun p hp => by rw [List.mem_singleton.mp hp]; exact (hJs i ys led j).2⟩) turn fin
theorem comp_range {r : Addr} {n : Nat} {t u v : Tok} {Q : Value → Shared → Prop} (hh : A.handled = none) (W : Fx b₀ h L m led) (hm : (r, rangeO n t u v) ∈ led) (hn : n ≤ 16000000)
    (J : Nat → Array Value → List (Addr × Obj) → Prop) (h0 : J 0 #[] led) (hJs : ∀ i ys led, J i ys led → ys.size ≤ i)
    (turn : CTurn prog w A b₀ L env scope cl x xp elt gs dr os (fun i v => i < n ∧ ∃ t, v = .int i t) n J)
    (fin : ∀ D h' tk' ys e led', Fx b₀ h' L m ((D, listOf ys e) :: led') → J n ys led' → Q (.ref D) ⟨h', gs, dr, tk', os⟩) :
    wpAny (model prog w) A (pyIter (.ref r)) (CAt prog w A E env scope cl elt (.Name x xp) iter [] pos none Q) E ⟨h, gs, dr, tk, os⟩ :=
  itr_range (x := x) (xp := xp) hh W hm (by omega) fun _ _ _ T => comp1 T hn J h0 (fun i ys led j => ⟨hJs i ys led j, fun p hp => nomatch hp⟩) turn fin
theorem one_cell {cells : List (Addr × Obj)} {a : Addr} (e : cells.map (·.1) = [a]) : ∃ o, cells = [(a, o)] := by
  cases cells with
  | nil => simp at e
  | cons b r => cases r with
    | nil => obtain ⟨x, y⟩ := b; simp at e; subst e; exact ⟨y, rfl⟩
    | cons c r => simp at e
/-- nothing but the new list: each item by R -/
def FixJ (led : List (Addr × Obj)) (R : Nat → Value → Prop) (i : Nat) (ys : Array Value) (led' : List (Addr × Obj)) : Prop := led' = led ∧ ys.size = i ∧ ∀ j, j < i → ∃ y, ys[j]? = some y ∧ R j y
theorem FixJ.push {R : Nat → Value → Prop} {i : Nat} {ys : Array Value} {led' : List (Addr × Obj)} {y : Value} (x : FixJ led R i ys led') (h : R i y) : FixJ led R (i + 1) (ys.push y) led' := by
  refine ⟨x.1, by simp [x.2.1], fun j hj => ?_⟩
  by_cases e : j = i
  · subst e; exact ⟨y, by rw [Array.getElem?_push, if_pos x.2.1.symm], h⟩
  · obtain ⟨z, h1, h2⟩ := x.2.2 j (by omega)
    exact ⟨z, by rw [Array.getElem?_push, if_neg (by rw [x.2.1]; exact e)]; exact h1, h2⟩
theorem FixJ.zero {R : Nat → Value → Prop} : FixJ led R 0 #[] led := ⟨rfl, rfl, fun j hj => absurd hj (Nat.not_lt_zero _)⟩
theorem FixJ.eq {f : Nat → Value} {i : Nat} {ys : Array Value} {led' : List (Addr × Obj)} (x : FixJ led (fun j y => y = f j) i ys led') : ys = ((List.range i).map f).toArray := by
  have e : ys.toList = (List.range i).map f := by
    apply List.ext_getElem?
    intro j
    rw [List.getElem?_map, Array.getElem?_toList]
    by_cases hj : j < i
    · obtain ⟨y, h1, rfl⟩ := x.2.2 j hj
      rw [h1, List.getElem?_range hj]; rfl
    · rw [Array.getElem?_eq_none (by rw [x.2.1]; omega), List.getElem?_eq_none (by simp; omega)]; rfl
  rw [← e, Array.toArray_toList]

theorem comp_range_fix {r : Addr} {n : Nat} {t u v : Tok} {Q : Value → Shared → Prop} (R : Nat → Value → Prop) (hh : A.handled = none) (W : Fx b₀ h L m led) (hm : (r, rangeO n t u v) ∈ led) (hn : n ≤ 16000000)
    (turn : CTurn prog w A b₀ L env scope cl x xp elt gs dr os (fun i v => i < n ∧ ∃ t, v = .int i t) n (FixJ led R))
    (fin : ∀ D h' tk' ys e, Fx b₀ h' L m ((D, listOf ys e) :: led) → FixJ led R n ys led → Q (.ref D) ⟨h', gs, dr, tk', os⟩) :
    wpAny (model prog w) A (pyIter (.ref r)) (CAt prog w A E env scope cl elt (.Name x xp) iter [] pos none Q) E ⟨h, gs, dr, tk, os⟩ :=
  comp_range hh W hm hn (FixJ led R) .zero (fun i ys led' j => Nat.le_of_eq j.2.1) turn fun D h' tk' ys e led' W' j => by
    have := j.1; subst this; exact fin D h' tk' ys e W' j
theorem comp_list_fix {t : Addr} {vs : Array Value} {e : Nat} {Q : Value → Shared → Prop} (R : Nat → Value → Prop) (hh : A.handled = none) (W : Fx b₀ h L m led) (hm : (t, listOf vs e) ∈ led) (hn : vs.size ≤ 16000000)
    (turn : CTurn prog w A b₀ L env scope cl x xp elt gs dr os (fun i v => vs[i]? = some v) vs.size (FixJ led R))
    (fin : ∀ D h' tk' ys e, Fx b₀ h' L m ((D, listOf ys e) :: led) → FixJ led R vs.size ys led → Q (.ref D) ⟨h', gs, dr, tk', os⟩) :
    wpAny (model prog w) A (pyIter (.ref t)) (CAt prog w A E env scope cl elt (.Name x xp) iter [] pos none Q) E ⟨h, gs, dr, tk, os⟩ :=
  comp_list hh W hm hn (FixJ led R) .zero (fun i ys led' j => ⟨Nat.le_of_eq j.2.1, j.1 ▸ hm⟩) turn fun D h' tk' ys e led' W' j => by
    have := j.1; subst this; exact fin D h' tk' ys e W' j
end
end Mine
end

section
open PySem PySem.W PyProof.Rows PySem.Calls PySem.SeqAt
set_option Elab.async false
set_option maxRecDepth 100000
namespace Mine

theorem typeCall_zip3 (a b c : Value) : checkTypeCall "zip" ⟨[a, b, c], []⟩ = pure () := by kernel_rfl
theorem newCall_zip3 (a b c : Value) : checkBuiltinCall "zip.__new__" ⟨[.type "zip", a, b, c], []⟩ = pure () := by kernel_rfl
theorem args_init4 (a b c d : Value) : argsOk "object.__init__" ⟨[a, b, c, d], []⟩ := by
  unfold argsOk; rw [PySem.signature?_of (id := "object.__init__") (n := ['_', '_', 't', 'i', 'n', 'i', '_', '_']) (o := ['t', 'c', 'e', 'j', 'b', 'o']) (by kernel_rfl) PySem.F.owner_object]; kernel_rfl

abbrev tripO (a b c : Value) : Obj := { cls := .type "tuple", data := .seq #[a, b, c] }
abbrev zipO (TI TO : Addr) (f0 : Value) : Obj := { cls := .type "zip", dict := none, data := .fields #[f0, .bool false, .bool false, .ref TI, .ref TO], slots := #[] }
/-- the objects that a zip of three writes -/
abbrev z3Led (z TI TO i1 i2 i3 : Addr) (f0 : Value) (to o1 o2 o3 : Obj) : List (Addr × Obj) := [(z, zipO TI TO f0), (TO, to), (i1, o1), (i2, o2), (i3, o3)]
def IterO (l : Addr) (i : Nat) (o : Obj) : Prop := o.cls = .type "list_iterator" ∧ o.data = .fields #[.ref l, .int i 0]

section
variable {prog : Program} {w : World} {A : Around} {E : Value → Shared → Prop} {s : Shared} {h₀ : Heap} {gs : Array GenState} {dr : Drawn} {os : OsState} {tk : Tok} {h : Heap}

/-- what was not written stands -/
def Kp (h₀ h : Heap) (wr : List Addr) : Prop := ∀ c o, c ∉ wr → h₀.get? c = some o → h.get? c = some o
theorem Kp.step {h' : Heap} {a : Addr} {wr : List Addr} (k : Kp h₀ h wr) (hs : Heap.SameBut a h h') (ha : a ∈ wr) : Kp h₀ h' wr := fun c o hc e => hs.extBut _ _ (fun x => hc (x ▸ ha)) (k c o hc e)
theorem Kp.ext {h' : Heap} {a : Addr} {wr : List Addr} (k : Kp h₀ h wr) (hs : Heap.ExtBut a h h') (ha : a ∈ wr) : Kp h₀ h' wr := fun c o hc e => hs _ _ (fun x => hc (x ▸ ha)) (k c o hc e)

theorem set_to {T : Addr} {a b c x : Value} {k : Nat} {Q : Unit → Shared → Prop} (hT : h.get? T = some (tripO a b c))
    (q : ∀ h', h'.get? T = some { cls := .type "tuple", data := .seq ((#[a, b, c] : Array Value).setIfInBounds k x) } → Heap.SameBut T h h' → Q () ⟨h', gs, dr, tk, os⟩) :
    wpAny (model prog w) A (updateSeq T (·.setIfInBounds k x)) Q E ⟨h, gs, dr, tk, os⟩ := by
  refine wpAny_updateSeq (s := ⟨h, gs, dr, tk, os⟩) hT rfl (q _ ?_ (Heap.SameBut.update ..))
  show (h.update T _).get? T = _
  rw [Heap.get?_update_self _ hT rfl]
  simp [Obj.mapSeq]

theorem zip3_item {z TI TO i1 i2 i3 l1 l2 l3 : Addr} {k : Nat} {xs ys zs : Array Value} {x y u a b c : Value} {o1 o2 o3 : Obj} {Q : Value → Shared → Prop}
    (C : Cx {} h (z3Led z TI TO i1 i2 i3 .none (tripO a b c) o1 o2 o3)) (q1 : IterO l1 k o1) (q2 : IterO l2 k o2) (q3 : IterO l3 k o3)
    (hTI : h.get? TI = some (tripO (.ref i1) (.ref i2) (.ref i3))) (nTI : TI ∉ [z, TO, i1, i2, i3]) (n1 : l1 ∉ [z, TO, i1, i2, i3]) (n2 : l2 ∉ [z, TO, i1, i2, i3]) (n3 : l3 ∉ [z, TO, i1, i2, i3])
    (hl1 : h.IsList l1 xs) (hl2 : h.IsList l2 ys) (hl3 : h.IsList l3 zs) (hx : xs[k]? = some x) (hy : ys[k]? = some y) (hu : zs[k]? = some u)
    (hQ : ∀ h' o1' o2' o3', Cx {} h' ((h.objs.size, tripO x y u) :: z3Led z TI TO i1 i2 i3 (rawInt h.objs.size) (tripO x y u) o1' o2' o3') → IterO l1 (k + 1) o1' → IterO l2 (k + 1) o2' → IterO l3 (k + 1) o3' → Kp h h' [z, TO, i1, i2, i3] → Q (.ref h.objs.size) ⟨h', gs, dr, tk, os⟩) :
    wpAny (model prog w) A (Builtin.«zip.__next__» ⟨[.ref z], []⟩) (fun fin s' => ∃ v, fin = .done (.ret v) ∧ Q v s') E ⟨h, gs, dr, tk, os⟩ := by
  have hz := C.own _ (.head _)
  show wpAny _ _ (field (.ref z) 2 >>= _) _ _ _
  refine wpAny_bind (wpAny_field hz rfl (x := .bool false) rfl ?_)
  show wpAny _ _ (field (.ref z) 3 >>= _) _ _ _
  refine wpAny_bind (wpAny_field hz rfl (x := .ref TI) rfl ?_)
  refine wpAny_bind (wpAny_seqItems hTI rfl ?_)
  show wpAny _ _ (Builtin.SmallTypes.ownedTupleIsFree (.ref z) >>= _) _ _ _
  refine wpAny_bind ?_
  unfold Builtin.SmallTypes.ownedTupleIsFree
  refine wpAny_bind (wpAny_field hz rfl (x := .none) rfl (wpAny_pure ?_))
  simp only [if_true]
  refine wpAny_bind (wpAny_rule ?_)
  refine wpAny_bind (wpAny_field hz rfl (x := .ref TO) rfl ?_)
  refine wpAny_bind (wpAny_setField_rec hz (by simp) fun h₁ hz₁ hs₁ => ?_)
  have K₁ : Kp h h₁ [z, TO, i1, i2, i3] := Kp.step (fun _ _ _ e => e) hs₁ (by simp)
  have C₁ : Cx {} h₁ (z3Led z TI TO i1 i2 i3 .ellipsis (tripO a b c) o1 o2 o3) := Cx.set (pre := []) C hs₁ hz₁
  refine wpAny_bind ?_
  simp only [List.zipIdx_cons, List.zipIdx_nil, List.forIn_cons, List.forIn_nil]
  refine wpAny_bind (wpAny_bind (wpAny_onRaise ?_))
  show wpAny _ _ (Builtin.SmallTypes.nextOf (.ref i1) >>= _) _ _ _
  refine wpAny_bind (wpAny_nextOf_list_item (it := i1) (l := l1) ⟨o1, C₁.own (i1, o1) (.tail _ (.tail _ (.head _))), q1.1, q1.2⟩ (hl1.at fun o e => K₁ _ _ n1 e) hx fun h₂ j₂ hs₂ => wpAny_pure ?_)
  obtain ⟨o1', e1, q1', q1''⟩ := j₂
  have K₂ := K₁.step hs₂ (by simp)
  have C₂ : Cx {} h₂ (z3Led z TI TO i1 i2 i3 .ellipsis (tripO a b c) o1' o2 o3) := Cx.set (pre := [_, _]) C₁ hs₂ e1
  refine wpAny_bind (wpAny_seqItems (C₂.own (TO, _) (.tail _ (.head _))) rfl ?_)
  refine wpAny_bind (set_to (C₂.own (TO, _) (.tail _ (.head _))) fun h₃ e3 hs₃ => ?_)
  have K₃ := K₂.step hs₃ (by simp)
  have C₃ : Cx {} h₃ (z3Led z TI TO i1 i2 i3 .ellipsis (tripO x b c) o1' o2 o3) := Cx.set (pre := [_]) C₂ hs₃ e3
  refine wpAny_bind (wpAny_letGo (wpAny_pure ?_))
  refine wpAny_bind (wpAny_bind (wpAny_onRaise ?_))
  show wpAny _ _ (Builtin.SmallTypes.nextOf (.ref i2) >>= _) _ _ _
  refine wpAny_bind (wpAny_nextOf_list_item (it := i2) (l := l2) ⟨o2, C₃.own (i2, o2) (.tail _ (.tail _ (.tail _ (.head _)))), q2.1, q2.2⟩ (hl2.at fun o e => K₃ _ _ n2 e) hy fun h₄ j₄ hs₄ => wpAny_pure ?_)
  obtain ⟨o2', e4, q2', q2''⟩ := j₄
  have K₄ := K₃.step hs₄ (by simp)
  have C₄ : Cx {} h₄ (z3Led z TI TO i1 i2 i3 .ellipsis (tripO x b c) o1' o2' o3) := Cx.set (pre := [_, _, _]) C₃ hs₄ e4
  refine wpAny_bind (wpAny_seqItems (C₄.own (TO, _) (.tail _ (.head _))) rfl ?_)
  refine wpAny_bind (set_to (C₄.own (TO, _) (.tail _ (.head _))) fun h₅ e5 hs₅ => ?_)
  have K₅ := K₄.step hs₅ (by simp)
  have C₅ : Cx {} h₅ (z3Led z TI TO i1 i2 i3 .ellipsis (tripO x y c) o1' o2' o3) := Cx.set (pre := [_]) C₄ hs₅ e5
  refine wpAny_bind (wpAny_letGo (wpAny_pure ?_))
  refine wpAny_bind (wpAny_bind (wpAny_onRaise ?_))
  show wpAny _ _ (Builtin.SmallTypes.nextOf (.ref i3) >>= _) _ _ _
  refine wpAny_bind (wpAny_nextOf_list_item (it := i3) (l := l3) ⟨o3, C₅.own (i3, o3) (.tail _ (.tail _ (.tail _ (.tail _ (.head _))))), q3.1, q3.2⟩ (hl3.at fun o e => K₅ _ _ n3 e) hu fun h₆ j₆ hs₆ => wpAny_pure ?_)
  obtain ⟨o3', e6, q3', q3''⟩ := j₆
  have K₆ := K₅.step hs₆ (by simp)
  have C₆ : Cx {} h₆ (z3Led z TI TO i1 i2 i3 .ellipsis (tripO x y c) o1' o2' o3') := Cx.set (pre := [_, _, _, _]) C₅ hs₆ e6
  refine wpAny_bind (wpAny_seqItems (C₆.own (TO, _) (.tail _ (.head _))) rfl ?_)
  refine wpAny_bind (set_to (C₆.own (TO, _) (.tail _ (.head _))) fun h₇ e7 hs₇ => ?_)
  have K₇ := K₆.step hs₇ (by simp)
  have C₇ : Cx {} h₇ (z3Led z TI TO i1 i2 i3 .ellipsis (tripO x y u) o1' o2' o3') := Cx.set (pre := [_]) C₆ hs₇ e7
  refine wpAny_bind (wpAny_letGo (wpAny_pure (wpAny_pure ?_)))
  have hsz : h₇.objs.size = h.objs.size := by rw [hs₇.1, hs₆.1, hs₅.1, hs₄.1, hs₃.1, hs₂.1, hs₁.1]
  refine wpAny_bind (wpAny_seqItems (C₇.own (TO, _) (.tail _ (.head _))) rfl ?_)
  refine wpAny_bind (wpAny_newTuple ?_)
  show wpAny _ _ (Builtin.SmallTypes.ownedTupleHandOut (.ref z) (.ref h₇.objs.size) >>= _) _ _ _
  refine wpAny_bind ?_
  unfold Builtin.SmallTypes.ownedTupleHandOut
  have C₈ : Cx {} (h₇.push (tripO x y u)) ((h₇.objs.size, tripO x y u) :: z3Led z TI TO i1 i2 i3 .ellipsis (tripO x y u) o1' o2' o3') :=
    (C₇.grow (Grow.push _ _)).more (Heap.get?_push_size _ rfl) (Nat.zero_le _) fun p hp => Nat.ne_of_lt (C₇.lt hp)
  have K₈ : Kp h (h₇.push (tripO x y u)) [z, TO, i1, i2, i3] := fun c o hc e => Heap.get?_push_of_some _ (K₇ c o hc e)
  refine wpAny_bind (wpAny_setField_rec (C₈.own (z, _) (.tail _ (.head _))) (by simp) fun h₉ e9 hs₉ => ?_)
  have K₉ := K₈.step hs₉ (by simp)
  have C₉ : Cx {} h₉ ((h₇.objs.size, tripO x y u) :: z3Led z TI TO i1 i2 i3 (rawInt h₇.objs.size) (tripO x y u) o1' o2' o3') := Cx.set (pre := [_]) C₈ hs₉ e9
  refine wpAny_setField_rec (C₉.own (z, _) (.tail _ (.head _))) (by simp) fun h10 e10 hs10 => ?_
  have K10 := K₉.step hs10 (by simp)
  have C10 : Cx {} h10 ((h₇.objs.size, tripO x y u) :: z3Led z TI TO i1 i2 i3 (rawInt h₇.objs.size) (tripO x y u) o1' o2' o3') := Cx.set (pre := [_]) C₉ hs10 e10
  refine wpAny_pure ⟨_, rfl, ?_⟩
  rw [hsz] at C10
  show Q (.ref h₇.objs.size) _
  rw [hsz]
  exact hQ h10 o1' o2' o3' C10 ⟨q1', q1''⟩ ⟨q2', q2''⟩ ⟨q3', q3''⟩ K10

theorem zip3_end {z TI TO i1 i2 i3 l1 : Addr} {k : Nat} {xs : Array Value} {o1 o2 o3 to : Obj} {Q : Fin → Shared → Prop} (hh : A.handled = none)
    (C : Cx {} h (z3Led z TI TO i1 i2 i3 .none to o1 o2 o3)) (q1 : IterO l1 k o1)
    (hTI : h.get? TI = some (tripO (.ref i1) (.ref i2) (.ref i3))) (n1 : l1 ∉ [z, TO, i1, i2, i3]) (hl1 : h.IsList l1 xs) (hx : xs[k]? = none)
    (hE : ∀ h' e, Kp h h' [z, TO, i1, i2, i3] → (∃ o, h'.get? e = some o ∧ o.cls = .type "StopIteration") → E (.ref e) ⟨h', gs, dr, tk, os⟩) :
    wpAny (model prog w) A (Builtin.«zip.__next__» ⟨[.ref z], []⟩) Q E ⟨h, gs, dr, tk, os⟩ := by
  have hz := C.own _ (.head _)
  show wpAny _ _ (field (.ref z) 2 >>= _) _ _ _
  refine wpAny_bind (wpAny_field hz rfl (x := .bool false) rfl ?_)
  show wpAny _ _ (field (.ref z) 3 >>= _) _ _ _
  refine wpAny_bind (wpAny_field hz rfl (x := .ref TI) rfl ?_)
  refine wpAny_bind (wpAny_seqItems hTI rfl ?_)
  show wpAny _ _ (Builtin.SmallTypes.ownedTupleIsFree (.ref z) >>= _) _ _ _
  refine wpAny_bind ?_
  unfold Builtin.SmallTypes.ownedTupleIsFree
  refine wpAny_bind (wpAny_field hz rfl (x := .none) rfl (wpAny_pure ?_))
  simp only [if_true]
  refine wpAny_bind (wpAny_rule ?_)
  refine wpAny_bind (wpAny_field hz rfl (x := .ref TO) rfl ?_)
  refine wpAny_bind (wpAny_setField_rec hz (by simp) fun h₁ hz₁ hs₁ => ?_)
  have K₁ : Kp h h₁ [z, TO, i1, i2, i3] := Kp.step (fun _ _ _ e => e) hs₁ (by simp)
  have C₁ : Cx {} h₁ (z3Led z TI TO i1 i2 i3 .ellipsis to o1 o2 o3) := Cx.set (pre := []) C hs₁ hz₁
  refine wpAny_bind ?_
  simp only [List.zipIdx_cons, List.zipIdx_nil, List.forIn_cons, List.forIn_nil]
  refine wpAny_bind (wpAny_bind (wpAny_onRaise ?_))
  show wpAny _ _ (Builtin.SmallTypes.nextOf (.ref i1) >>= _) _ _ _
  refine wpAny_bind (wpAny_nextOf_list_end hh (it := i1) (l := l1) ⟨o1, C₁.own (i1, o1) (.tail _ (.tail _ (.head _))), q1.1, q1.2⟩ (hl1.at fun o e => K₁ _ _ n1 e) hx fun h₂ e hs₂ he => ?_)
  obtain ⟨oe, hoe, hce⟩ := he
  have nd := C₁.nd
  simp only [List.map_cons, List.map_nil, List.nodup_cons, List.mem_cons, List.not_mem_nil, or_false, not_or] at nd
  have hz₂ : h₂.get? z = some (zipO TI TO .ellipsis) := hs₂ _ _ nd.1.2.1 (C₁.own (z, _) (.head _))
  have hez : e ≠ z := fun x => by subst x; rw [hz₂] at hoe; cases hoe; simp at hce
  have K₂ : Kp h h₂ [z, TO, i1, i2, i3] := K₁.ext hs₂ (by simp)
  exact wpAny_setField_rec hz₂ (by simp) fun h₃ _ hs₃ => hE h₃ e (K₂.step hs₃ (by simp)) ⟨oe, hs₃.extBut _ _ hez hoe, hce⟩

theorem next3_item {z TI TO i1 i2 i3 l1 l2 l3 : Addr} {k : Nat} {xs ys zs : Array Value} {x y u a b c : Value} {o1 o2 o3 : Obj} {Q : Option Value → Shared → Prop}
    (C : Cx {} h (z3Led z TI TO i1 i2 i3 .none (tripO a b c) o1 o2 o3)) (q1 : IterO l1 k o1) (q2 : IterO l2 k o2) (q3 : IterO l3 k o3)
    (hTI : h.get? TI = some (tripO (.ref i1) (.ref i2) (.ref i3))) (nTI : TI ∉ [z, TO, i1, i2, i3]) (n1 : l1 ∉ [z, TO, i1, i2, i3]) (n2 : l2 ∉ [z, TO, i1, i2, i3]) (n3 : l3 ∉ [z, TO, i1, i2, i3])
    (hl1 : h.IsList l1 xs) (hl2 : h.IsList l2 ys) (hl3 : h.IsList l3 zs) (hx : xs[k]? = some x) (hy : ys[k]? = some y) (hu : zs[k]? = some u)
    (hQ : ∀ h' o1' o2' o3', Cx {} h' ((h.objs.size, tripO x y u) :: z3Led z TI TO i1 i2 i3 (rawInt h.objs.size) (tripO x y u) o1' o2' o3') → IterO l1 (k + 1) o1' → IterO l2 (k + 1) o2' → IterO l3 (k + 1) o3' → Kp h h' [z, TO, i1, i2, i3] → Q (some (.ref h.objs.size)) ⟨h', gs, dr, tk, os⟩) :
    wpAny (model prog w) A (pyNext (.ref z)) Q E ⟨h, gs, dr, tk, os⟩ := by
  have hT : (⟨h, gs, dr, tk, os⟩ : Shared).TypeIs (.ref z) "zip" := ⟨_, C.own _ (.head _), rfl⟩
  unfold pyNext
  exact wpAny_bind (wpAny_attempt (wpAny_callSpecial?_slot (name := Str.ofString "__next__") hT PySem.F.slot_zip_next
    (wpAny_call_entry PySem.F.slot_zip_next hT PySem.F.entry_zip_next
      (zip3_item C q1 q2 q3 hTI nTI n1 n2 n3 hl1 hl2 hl3 hx hy hu fun h' o1' o2' o3' a1 a2 a3 a4 a5 => wpAny_pure (hQ h' o1' o2' o3' a1 a2 a3 a4 a5)) (PySem.F.args_zip_next_1 _))))
theorem next3_end {z TI TO i1 i2 i3 l1 : Addr} {k : Nat} {xs : Array Value} {o1 o2 o3 to : Obj} {Q : Option Value → Shared → Prop} (hh : A.handled = none)
    (C : Cx {} h (z3Led z TI TO i1 i2 i3 .none to o1 o2 o3)) (q1 : IterO l1 k o1)
    (hTI : h.get? TI = some (tripO (.ref i1) (.ref i2) (.ref i3))) (n1 : l1 ∉ [z, TO, i1, i2, i3]) (hl1 : h.IsList l1 xs) (hx : xs[k]? = none)
    (hQ : ∀ h', Kp h h' [z, TO, i1, i2, i3] → Q none ⟨h', gs, dr, tk, os⟩) : wpAny (model prog w) A (pyNext (.ref z)) Q E ⟨h, gs, dr, tk, os⟩ := by
  have hT : (⟨h, gs, dr, tk, os⟩ : Shared).TypeIs (.ref z) "zip" := ⟨_, C.own _ (.head _), rfl⟩
  unfold pyNext
  refine wpAny_bind (wpAny_attempt (wpAny_callSpecial?_slot (name := Str.ofString "__next__") hT PySem.F.slot_zip_next
    (wpAny_call_entry PySem.F.slot_zip_next hT PySem.F.entry_zip_next (zip3_end hh C q1 hTI n1 hl1 hx fun h' e hk he => ?_) (PySem.F.args_zip_next_1 _))))
  obtain ⟨o, ho, hc⟩ := he
  refine wpAny_bind (wpAny_isInstance (T := "StopIteration") (b := true) ⟨o, ho, hc⟩ isSubtype_stop ?_)
  exact wpAny_pure (hQ _ hk)

set_option maxHeartbeats 8000000 in
/-- the new zip of three lists -/
theorem meets_zip3 (l1 l2 l3 : Addr) (xs ys zs : Array Value) :
    Meets (Builtin.«zip.__new__» ⟨[.type "zip", .ref l1, .ref l2, .ref l3], []⟩) (fun _ R s => s.heap.IsList l1 xs ∧ s.heap.IsList l2 ys ∧ s.heap.IsList l3 zs ∧
      ∀ h1 h2 h3 h4 h5 h6, h1 = s.heap.push { cls := .type "list_iterator", data := .fields #[.ref l1, .int 0 0] } → h2 = h1.push { cls := .type "list_iterator", data := .fields #[.ref l2, .int 0 0] } → h3 = h2.push { cls := .type "list_iterator", data := .fields #[.ref l3, .int 0 0] } →
        h4 = h3.push (tripO (.ref s.heap.objs.size) (.ref h1.objs.size) (.ref h2.objs.size)) → h5 = h4.push (tripO .none .none .none) → h6 = h5.push (zipO h3.objs.size h4.objs.size .none) → R (.ok (.ret (.ref h5.objs.size))) { s with heap := h6 }) :=
  .of_wp fun prog w A R s h => by
    obtain ⟨hp, g, d, tk, os⟩ := s; obtain ⟨hl1, hl2, hl3, h⟩ := h
    have hsub := sub_zip
    have hL1 : Heap.IsList (Shared.heap ⟨hp, g, d, tk, os⟩) l1 xs := hl1
    have hL2 : Heap.IsList (Shared.heap ⟨hp.push { cls := .type "list_iterator", data := .fields #[.ref l1, .int 0 0] }, g, d, tk, os⟩) l2 ys := Heap.IsList.push hl2 _
    have hL3 : Heap.IsList (Shared.heap ⟨(hp.push { cls := .type "list_iterator", data := .fields #[.ref l1, .int 0 0] }).push { cls := .type "list_iterator", data := .fields #[.ref l2, .int 0 0] }, g, d, tk, os⟩) l3 zs := Heap.IsList.push (Heap.IsList.push hl3 _) _
    wp_walk using wpAny_pyIter_list hL1, wpAny_pyIter_list hL2, wpAny_pyIter_list hL3
    exact ⟨_, rfl, h _ _ _ _ _ _ rfl rfl rfl rfl rfl rfl⟩
end
end Mine
end

section
open PySem PySem.W PyProof.Rows PySem.Calls PySem.SeqAt
set_option Elab.async false
set_option maxRecDepth 100000
namespace Mine

section
variable {prog : Program} {w : World} {A : Around} {E : Value → Shared → Prop} {gs : Array GenState} {dr : Drawn} {os : OsState} {tk : Tok} {b₀ h : Heap} {L : Addr} {m : Str → Option Value} {led : List (Addr × Obj)} {Q : Value → Shared → Prop}

structure Z3St (z TI TO i1 i2 i3 l1 l2 l3 : Addr) (xs ys zs : Array Value) (h : Heap) : Prop where
  TI : h.get? TI = some (tripO (.ref i1) (.ref i2) (.ref i3))
  l1 : h.IsList l1 xs
  l2 : h.IsList l2 ys
  l3 : h.IsList l3 zs
theorem Z3St.keep {z TI TO i1 i2 i3 l1 l2 l3 : Addr} {xs ys zs : Array Value} {h h' : Heap} (x : Z3St z TI TO i1 i2 i3 l1 l2 l3 xs ys zs h) (k : ∀ b ∈ [TI, l1, l2, l3], ∀ o, h.get? b = some o → h'.get? b = some o) : Z3St z TI TO i1 i2 i3 l1 l2 l3 xs ys zs h' :=
  ⟨k _ (by simp) _ x.TI, x.l1.at fun o e => k _ (by simp) o e, x.l2.at fun o e => k _ (by simp) o e, x.l3.at fun o e => k _ (by simp) o e⟩
theorem Cx.none {led : List (Addr × Obj)} (ho : ∀ p ∈ led, h.get? p.1 = some p.2) (hn : (led.map (·.1)).Nodup) : Cx {} h led :=
  ⟨fun b o e => (by rw [show ({} : Heap).get? b = Option.none from none_of_ge (Nat.zero_le _)] at e; cases e), ho, fun _ _ => Nat.zero_le _, hn⟩

theorem kturns_zip3 {z TI TO i1 i2 i3 l1 l2 l3 : Addr} {xs ys zs : Array Value} {elts : List Expr} {kk : Nat} {pos : Pos} (hh : A.handled = none) (h12 : xs.size ≤ ys.size) (h13 : xs.size ≤ zs.size)
    (nTI : TI ∉ [z, TO, i1, i2, i3]) (n1 : l1 ∉ [z, TO, i1, i2, i3]) (n2 : l2 ∉ [z, TO, i1, i2, i3]) (n3 : l3 ∉ [z, TO, i1, i2, i3]) :
    KTurns prog w A (.Tuple elts kk pos) z [z, TO, i1, i2, i3, TI, l1, l2, l3] [z, TO, i1, i2, i3] xs.size
      (fun i v h => ∃ T x y u, v = .ref T ∧ xs[i]? = some x ∧ ys[i]? = some y ∧ zs[i]? = some u ∧ h.IsTuple T #[x, y, u])
      (fun i v h => ∃ T x y u o1 o2 o3, v = .ref T ∧ xs[i]? = some x ∧ ys[i]? = some y ∧ zs[i]? = some u ∧ Cx {} h ((T, tripO x y u) :: z3Led z TI TO i1 i2 i3 (rawInt T) (tripO x y u) o1 o2 o3) ∧ IterO l1 (i + 1) o1 ∧ IterO l2 (i + 1) o2 ∧ IterO l3 (i + 1) o3 ∧ Z3St z TI TO i1 i2 i3 l1 l2 l3 xs ys zs h)
      (fun i h => ∃ a b c o1 o2 o3, Cx {} h (z3Led z TI TO i1 i2 i3 .none (tripO a b c) o1 o2 o3) ∧ IterO l1 i o1 ∧ IterO l2 i o2 ∧ IterO l3 i o3 ∧ Z3St z TI TO i1 i2 i3 l1 l2 l3 xs ys zs h) where
  sub := fun b hb => by simp at hb ⊢; rcases hb with rfl | rfl | rfl | rfl | rfl <;> simp
  frame := fun i h h' st hk => by
    obtain ⟨a, b, c, o1, o2, o3, C, q1, q2, q3, S⟩ := st
    refine ⟨a, b, c, o1, o2, o3, Cx.none (fun p hp => hk p.1 ?_ p.2 (C.own p hp)) C.nd, q1, q2, q3, S.keep fun b hb o e => hk b (by simp at hb ⊢; rcases hb with rfl | rfl | rfl | rfl <;> simp) o e⟩
    simp only [List.mem_cons, List.not_mem_nil, or_false] at hp
    rcases hp with rfl | rfl | rfl | rfl | rfl <;> simp
  item := fun i s Q E hi st hQ => by
    obtain ⟨hp, g, d, tk, os⟩ := s
    obtain ⟨a, b, c, o1, o2, o3, C, q1, q2, q3, S⟩ := st
    refine next3_item C q1 q2 q3 S.TI nTI n1 n2 n3 S.l1 S.l2 S.l3 (Array.getElem?_eq_getElem hi) (Array.getElem?_eq_getElem (Nat.lt_of_lt_of_le hi h12)) (Array.getElem?_eq_getElem (Nat.lt_of_lt_of_le hi h13)) fun h' o1' o2' o3' C' q1' q2' q3' K => ?_
    refine hQ _ h' tk ⟨_, _, _, _, o1', o2', o3', rfl, Array.getElem?_eq_getElem hi, Array.getElem?_eq_getElem (Nat.lt_of_lt_of_le hi h12), Array.getElem?_eq_getElem (Nat.lt_of_lt_of_le hi h13), C', q1', q2', q3', S.keep fun b hb o e => K b o ?_ e⟩ fun b o hb e => K b o hb e
    simp only [List.mem_cons, List.not_mem_nil, or_false] at hb
    rcases hb with rfl | rfl | rfl | rfl
    · exact nTI
    · exact n1
    · exact n2
    · exact n3
  go := fun i v s Q E md hQ => by
    obtain ⟨hp, g, d, tk, os⟩ := s
    obtain ⟨T, x, y, u, o1, o2, o3, rfl, e1, e2, e3, C, q1, q2, q3, S⟩ := md
    refine wpAny_letOwnedTupleGo_zip (s := ⟨hp, g, d, tk, os⟩) (C.own (z, _) (.tail _ (.head _))) fun h' hz' hs' => ?_
    have C' : Cx {} h' ((T, tripO x y u) :: z3Led z TI TO i1 i2 i3 .none (tripO x y u) o1 o2 o3) := Cx.set (pre := [_]) C hs' hz'
    have kp : ∀ b o, b ∉ [z, TO, i1, i2, i3] → hp.get? b = some o → h'.get? b = some o := fun b o hb e => hs'.extBut _ _ (fun q => hb (by simp [q])) e
    refine hQ h' ⟨T, x, y, u, rfl, e1, e2, e3, ⟨_, C'.own (T, _) (.head _), rfl, 0, rfl⟩⟩ ⟨x, y, u, o1, o2, o3, C'.sub (fun p hp => .tail _ hp) (List.nodup_cons.mp C'.nd).2, q1, q2, q3, S.keep fun b hb o e => kp b o ?_ e⟩ kp
    simp only [List.mem_cons, List.not_mem_nil, or_false] at hb
    rcases hb with rfl | rfl | rfl | rfl
    · exact nTI
    · exact n1
    · exact n2
    · exact n3
  done := fun s Q E st hQ => by
    obtain ⟨hp, g, d, tk, os⟩ := s
    obtain ⟨a, b, c, o1, o2, o3, C, q1, q2, q3, S⟩ := st
    exact next3_end hh C q1 S.TI n1 S.l1 (Array.getElem?_eq_none (Nat.le_refl _)) fun h' K => hQ h' tk fun b o hb e => K b o hb e

theorem itr_zip3 {a b c : Addr} {xs ys zs : Array Value} {n1 n2 n3 : Nat} {elts : List Expr} {kk : Nat} {pos : Pos} (hh : A.handled = none) (W : Fx b₀ h L m led) (ha : (a, listOf xs n1) ∈ led) (hb : (b, listOf ys n2) ∈ led) (hc : (c, listOf zs n3) ∈ led)
    (h12 : xs.size ≤ ys.size) (h13 : xs.size ≤ zs.size)
    (k : ∀ h' e its it, Itr prog w A (.Tuple elts kk pos) b₀ L [e, (a, listOf xs n1), (b, listOf ys n2), (c, listOf zs n3)] (fun i v h => ∃ T x y u, v = .ref T ∧ xs[i]? = some x ∧ ys[i]? = some y ∧ zs[i]? = some u ∧ h.IsTuple T #[x, y, u]) xs.size h' m its (e :: led) it → Q it ⟨h', gs, dr, tk, os⟩) :
    wpAny (model prog w) A (call (.type "zip") [.ref a, .ref b, .ref c]) Q E ⟨h, gs, dr, tk, os⟩ := by
  refine callType_new PySem.F.called_zip (by decide) (typeCall_zip3 _ _ _) (newCall_zip3 _ _ _) (fun obj => args_init4 obj _ _ _) PySem.F.entry_zip_new
    (meets_zip3 a b c xs ys zs) ⟨isList_of W.C ha, isList_of W.C hb, isList_of W.C hc, ?_⟩
  intro h1 h2 h3 h4 h5 h6 e1 e2 e3 e4 e5 e6
  have W1 := W.push { cls := .type "list_iterator", data := .fields #[.ref a, .int 0 0] }
  rw [show h.push _ = h1 from e1.symm] at W1
  have W2 := W1.push { cls := .type "list_iterator", data := .fields #[.ref b, .int 0 0] }
  rw [← e2] at W2
  have W3 := W2.push { cls := .type "list_iterator", data := .fields #[.ref c, .int 0 0] }
  rw [← e3] at W3
  have W4 := W3.push (tripO (.ref h.objs.size) (.ref h1.objs.size) (.ref h2.objs.size))
  rw [← show h4 = _ from e4] at W4
  have W5 := W4.push (tripO .none .none .none)
  rw [← e5] at W5
  have W6 := W5.push (zipO h3.objs.size h4.objs.size .none)
  rw [← e6] at W6
  clear e1 e2 e3 e4 e5 e6 W1 W2 W3 W4 W5
  have W7 := W6.perm (led' := [(h5.objs.size, zipO h3.objs.size h4.objs.size .none), (h4.objs.size, tripO .none .none .none), (h.objs.size, { cls := .type "list_iterator", data := .fields #[.ref a, .int 0 0] }), (h1.objs.size, { cls := .type "list_iterator", data := .fields #[.ref b, .int 0 0] }), (h2.objs.size, { cls := .type "list_iterator", data := .fields #[.ref c, .int 0 0] })] ++ (h3.objs.size, tripO (.ref h.objs.size) (.ref h1.objs.size) (.ref h2.objs.size)) :: led) (by
    refine List.Perm.cons _ (List.Perm.cons _ ?_)
    have p3 : ∀ (x y z t : Addr × Obj) (r : List (Addr × Obj)), (x :: y :: z :: t :: r).Perm (t :: z :: y :: x :: r) := fun x y z t r => by
      have := (List.reverse_perm [x, y, z, t]).symm.append_right r
      simpa using this
    exact p3 _ _ _ _ _)
  generalize h5.objs.size = z at W7 ⊢
  generalize h4.objs.size = TO at W7 ⊢
  generalize h3.objs.size = TI at W7 ⊢
  generalize h2.objs.size = i3 at W7 ⊢
  generalize h1.objs.size = i2 at W7 ⊢
  generalize h.objs.size = i1 at W7 ⊢
  obtain ⟨off, -, -⟩ := Cx.off (its := [(z, zipO TI TO .none), (TO, tripO .none .none .none), (i1, _), (i2, _), (i3, _)]) W7.C rfl
  have S : Z3St z TI TO i1 i2 i3 a b c xs ys zs h6 := ⟨W7.C.own (TI, _) (by simp), isList_of W7.C (n := n1) (by simp [ha]), isList_of W7.C (n := n2) (by simp [hb]), isList_of W7.C (n := n3) (by simp [hc])⟩
  have nTI := off (TI, _) (.head _)
  have n1 := off _ (.tail _ ha)
  have n2 := off _ (.tail _ hb)
  have n3 := off _ (.tail _ hc)
  have KT := kturns_zip3 (prog := prog) (w := w) (elts := elts) (kk := kk) (pos := pos) (xs := xs) (ys := ys) (zs := zs) hh h12 h13 nTI n1 n2 n3
  have C7 : Cx {} h6 (z3Led z TI TO i1 i2 i3 .none (tripO .none .none .none) { cls := .type "list_iterator", data := .fields #[.ref a, .int 0 0] } { cls := .type "list_iterator", data := .fields #[.ref b, .int 0 0] } { cls := .type "list_iterator", data := .fields #[.ref c, .int 0 0] }) :=
    Cx.none (fun p hp => W7.C.own p (List.mem_append_left _ hp)) (by
      have := W7.C.nd
      rw [List.map_append, List.nodup_append] at this
      exact this.1)
  have st0 := show (fun (i : Nat) h => ∃ a1 b1 c1 o1 o2 o3, Cx {} h (z3Led z TI TO i1 i2 i3 .none (tripO a1 b1 c1) o1 o2 o3) ∧ IterO a i o1 ∧ IterO b i o2 ∧ IterO c i o3 ∧ Z3St z TI TO i1 i2 i3 a b c xs ys zs h) 0 h6 from ⟨_, _, _, _, _, _, C7, ⟨rfl, rfl⟩, ⟨rfl, rfl⟩, ⟨rfl, rfl⟩, S⟩
  show _ ∧ _
  refine ⟨⟨_, C7.own (z, _) (.head _), rfl⟩, k h6 (TI, tripO (.ref i1) (.ref i2) (.ref i3)) _ _ ⟨⟨_, _, _, _, _, rfl, KT, fun i h' st e he => ?_, rfl, fun e he hn => ?_, st0, fun s Q E st q => ?_, fun h' hk => KT.frame 0 _ h' st0 hk⟩, W7⟩⟩
  · obtain ⟨_, _, _, _, _, _, C, _⟩ := st
    simp only [List.mem_cons, List.not_mem_nil, or_false] at he
    rcases he with rfl | rfl | rfl | rfl | rfl
    · exact ⟨_, C.own _ (.head _)⟩
    · exact ⟨_, C.own (e, _) (.tail _ (.head _))⟩
    · exact ⟨_, C.own (e, _) (.tail _ (.tail _ (.head _)))⟩
    · exact ⟨_, C.own (e, _) (.tail _ (.tail _ (.tail _ (.head _))))⟩
    · exact ⟨_, C.own (e, _) (.tail _ (.tail _ (.tail _ (.tail _ (.head _)))))⟩
  · simp only [List.mem_cons, List.not_mem_nil, or_false, not_or] at he hn
    rcases he with e | e | e | e | e | rfl | rfl | rfl | rfl
    · exact absurd e hn.1
    · exact absurd e hn.2.1
    · exact absurd e hn.2.2.1
    · exact absurd e hn.2.2.2.1
    · exact absurd e hn.2.2.2.2
    · exact ⟨_, .head _⟩
    · exact ⟨_, .tail _ (.head _)⟩
    · exact ⟨_, .tail _ (.tail _ (.head _))⟩
    · exact ⟨_, .tail _ (.tail _ (.tail _ (.head _)))⟩
  · obtain ⟨_, _, _, _, _, _, C, _⟩ := st
    exact wpAny_pyIter_zip (C.own (z, _) (.head _)) q
end
end Mine
end

section
open PySem PySem.W PyProof.Rows PySem.Calls PySem.SeqAt
set_option Elab.async false
set_option maxRecDepth 100000
namespace Mine

/-- the values carry these items -/
def Carry {α : Type} (V : α → Value → Prop) (xs : List α) (vs : List Value) : Prop := vs.length = xs.length ∧ ∀ (i : Nat) (x : α) (v : Value), xs[i]? = some x → vs[i]? = some v → V x v
def BoolV (x : Bool) (v : Value) : Prop := v = .bool x
def NatV (x : Nat) (v : Value) : Prop := ∃ t, v = .int (x : Int) t
def GivesEq {α : Type} [DecidableEq α] (V : α → Value → Prop) : Prop := ∀ x y a b, V x a → V y b → ∀ A s, EqAt A s a b (decide (x = y))
theorem boolV_eq : GivesEq BoolV := by
  rintro x y _ _ rfl rfl A s
  have := EqAt.bool_bool (A := A) (s := s) x y
  have e : (x == y) = decide (x = y) := by cases x <;> cases y <;> rfl
  rwa [e] at this
theorem natV_eq : GivesEq NatV := by
  rintro x y _ _ ⟨t, rfl⟩ ⟨u, rfl⟩ A s
  have := EqAt.int_int (A := A) (s := s) (x : Int) t (y : Int) u
  have e : ((x : Int) == (y : Int)) = decide (x = y) := by
    by_cases h : x = y
    · subst h; simp
    · have h2 : ¬ ((x : Int) = y) := fun e => h (Int.ofNat.inj e)
      rw [beq_eq_false_iff_ne.mpr h2]; simp [h]
  rwa [e] at this
theorem Carry.bools (bs : List Bool) : Carry BoolV bs (bs.map Value.bool) := by
  refine ⟨by simp, fun i x v h1 h2 => ?_⟩
  rw [List.getElem?_map, h1] at h2
  exact (Option.some.inj h2).symm
theorem Carry.nats {vs : List Value} {l : List Nat} (h : IntsAre vs (l.map fun n : Nat => (n : Int))) : Carry NatV l vs := by
  refine ⟨by rw [ints_len h, List.length_map], fun i x v h1 h2 => ?_⟩
  obtain ⟨n, t, rfl, h3⟩ := ints_get h h2
  rw [List.getElem?_map, h1] at h3
  exact ⟨t, by rw [← Option.some.inj h3]⟩
theorem all_eq {α : Type} [DecidableEq α] {xs ys : List α} (h : xs.length = ys.length) : (List.range xs.length).all (fun j => decide (xs[j]? = ys[j]?)) = decide (xs = ys) := by
  by_cases e : xs = ys
  · subst e; simp
  · rw [decide_eq_false e]
    rw [Bool.eq_false_iff]
    intro hall
    apply e
    apply List.ext_getElem?
    intro i
    by_cases hi : i < xs.length
    · have := List.all_eq_true.mp hall i (List.mem_range.mpr hi)
      exact of_decide_eq_true this
    · rw [List.getElem?_eq_none (by omega), List.getElem?_eq_none (by omega)]

section
variable {prog : Program} {w : World} {A : Around} {E : Value → Shared → Prop} {gs : Array GenState} {dr : Drawn} {os : OsState} {tk : Tok}
  {b₀ h : Heap} {L a b : Addr} {m : Str → Option Value} {led : List (Addr × Obj)} {Q : Value → Shared → Prop} {α : Type} [DecidableEq α] {V : α → Value → Prop} {xs ys : List α} {vs us : List Value} {n1 n2 : Nat}

theorem eqItem (hV : GivesEq V) (hx : Carry V xs vs) (hy : Carry V ys us) (hl : xs.length = ys.length) {A : Around} {s : Shared} (j : Nat) (h1 : j < vs.toArray.size) (h2 : j < us.toArray.size) : EqAt A s vs.toArray[j] us.toArray[j] (decide (xs[j]? = ys[j]?)) := by
  simp only [List.size_toArray] at h1 h2
  have l1 : j < xs.length := by rw [← hx.1]; exact h1
  have l2 : j < ys.length := by rw [← hy.1]; exact h2
  have := hV xs[j] ys[j] vs[j] us[j] (hx.2 j _ _ (List.getElem?_eq_getElem l1) (List.getElem?_eq_getElem h1)) (hy.2 j _ _ (List.getElem?_eq_getElem l2) (List.getElem?_eq_getElem h2)) A s
  rw [List.getElem?_eq_getElem l1, List.getElem?_eq_getElem l2]
  have e : decide (some xs[j] = some ys[j]) = decide (xs[j] = ys[j]) := by simp
  rw [e]
  simpa using this

theorem rEqL (hV : GivesEq V) (W : Fx b₀ h L m led) (ha : (a, listOf vs.toArray n1) ∈ led) (hb : (b, listOf us.toArray n2) ∈ led) (hx : Carry V xs vs) (hy : Carry V ys us) (hu : A.units < cLine) (k : Q (.bool (decide (xs = ys))) ⟨h, gs, dr, tk, os⟩) :
    wpAny (model prog w) A (compareOp .Eq (.ref a) (.ref b)) Q E ⟨h, gs, dr, tk, os⟩ := by
  by_cases hl : xs.length = ys.length
  · refine eq_listAt (e := fun j => decide (xs[j]? = ys[j]?)) (isList_of W.C ha) (isList_of W.C hb) (by simp [hx.1, hy.1, hl]) hu (fun j h1 h2 => eqItem hV hx hy hl j h1 h2) ?_
    rw [List.size_toArray, hx.1, all_eq hl]; exact k
  · refine eq_list_lengthsAt (isList_of W.C ha) (isList_of W.C hb) (by simp [hx.1, hy.1, hl]) hu ?_
    rw [decide_eq_false fun e => hl (by rw [e])] at k; exact k
theorem rNeL (hV : GivesEq V) (W : Fx b₀ h L m led) (ha : (a, listOf vs.toArray n1) ∈ led) (hb : (b, listOf us.toArray n2) ∈ led) (hx : Carry V xs vs) (hy : Carry V ys us) (hu : A.units < cLine) (k : Q (.bool (decide (xs ≠ ys))) ⟨h, gs, dr, tk, os⟩) :
    wpAny (model prog w) A (compareOp .NotEq (.ref a) (.ref b)) Q E ⟨h, gs, dr, tk, os⟩ := by
  by_cases hl : xs.length = ys.length
  · refine RcNeAt.lists (e := fun j => decide (xs[j]? = ys[j]?)) (isList_of W.C ha) (isList_of W.C hb) (by simp [hx.1, hy.1, hl]) hu (fun j h1 h2 => eqItem hV hx hy hl j h1 h2) prog w E Q ?_
    rw [List.size_toArray, hx.1, all_eq hl]
    by_cases e : xs = ys
    · simpa [e] using k
    · simpa [e] using k
  · refine RcNeAt.lists_lengths (isList_of W.C ha) (isList_of W.C hb) (by simp [hx.1, hy.1, hl]) hu prog w E Q ?_
    have e : ¬ xs = ys := fun e => hl (by rw [e])
    simpa [e] using k
end
end Mine
end

section
open PySem PySem.W PyProof.Rows PySem.Calls PySem.SeqAt
set_option Elab.async false
set_option maxRecDepth 100000
namespace Mine
section
variable {prog : Program} {w : World} {A : Around} {E : Value → Shared → Prop} {gs : Array GenState} {dr : Drawn} {os : OsState} {tk : Tok}
  {b₀ h : Heap} {L : Addr} {m : Str → Option Value} {led : List (Addr × Obj)} {env : Env} {elt iter target : Expr} {scope : Scope} {pos : Pos} {cl : List (Str × Addr)}

theorem comp_fix {src its : List (Addr × Obj)} {P : Nat → Value → Heap → Prop} {n : Nat} {it : Value} {Q : Value → Shared → Prop} (T : Itr prog w A target b₀ L src P n h m its led it) (hn : n ≤ 16000000) (hsrc : ∀ p ∈ src, p ∈ led) (R : Nat → Value → Prop)
    (turn : ∀ C i v ys e D oL m₁ its₁ cells₁ h₁ tk₁ (E' : Value → Shared → Prop), i < n → P i v h₁ → FixJ led R i ys led → cells₁.map (·.1) = (cellLed (C + 1) scope.names []).map (·.1) → (∀ p ∈ cells₁, ∃ v, p.2.data = .cell v) →
      Fx b₀ h₁ C m₁ (cells₁ ++ (D, listOf ys e) :: (L, oL) :: (its₁ ++ led)) →
      wpAny (model prog w) A (assign target (cEnv scope cl C env) v) (fun _ s₂ =>
          wpAny (model prog w) A (eval elt (cEnv scope cl C env)) (fun x s₄ => CEnd b₀ L C D oL e ys (cells₁.map (·.1)) gs dr os its₁ (FixJ led R (i + 1) (ys.push x)) s₄) E' s₂) E' ⟨h₁, gs, dr, tk₁, os⟩)
    (fin : ∀ D h' tk' ys e, Fx b₀ h' L m ((D, listOf ys e) :: led) → FixJ led R n ys led → Q (.ref D) ⟨h', gs, dr, tk', os⟩) :
    CAt prog w A E env scope cl elt target iter [] pos none Q it ⟨h, gs, dr, tk, os⟩ := by
  refine comp_at T hn (FixJ led R) .zero (fun i ys led' j => ⟨Nat.le_of_eq j.2.1, fun p hp => j.1 ▸ hsrc p hp⟩) (fun C i v ys e D oL m₁ led₁ its₁ cells₁ h₁ tk₁ E' hi hP hJ hits hc hd W => ?_) fun D h' tk' ys e led' W' j => by
    have := j.1; subst this; exact fin D h' tk' ys e W' j
  have e1 := hJ.1
  subst e1
  refine wpAny_mono (turn C i v ys e D oL m₁ its₁ cells₁ h₁ tk₁ E' hi hP hJ hc hd W) (fun _ s₂ y => ?_) fun _ _ e => e
  refine no_ifs ?_
  rw [if_pos rfl]
  exact y
theorem comp_fix_use {src its : List (Addr × Obj)} {P : Nat → Value → Heap → Prop} {n : Nat} {it : Value} {Q' : Shared → Prop} {y : Str} {py : Pos} (T : Itr prog w A target b₀ L src P n h m its led it) (hn : n ≤ 16000000) (hL : env.locals = L) (hy : env.kindOf y = some .local) (hp : (env.scope.kind == .class || (env.scope.kind == .module && env.locals != env.globals)) = false) (hsrc : ∀ p ∈ src, p ∈ led) (R : Nat → Value → Prop)
    (turn : ∀ C i v ys e D oL m₁ its₁ cells₁ h₁ tk₁ (E' : Value → Shared → Prop), i < n → P i v h₁ → FixJ led R i ys led → cells₁.map (·.1) = (cellLed (C + 1) scope.names []).map (·.1) → (∀ p ∈ cells₁, ∃ v, p.2.data = .cell v) →
      Fx b₀ h₁ C m₁ (cells₁ ++ (D, listOf ys e) :: (L, oL) :: (its₁ ++ led)) →
      wpAny (model prog w) A (assign target (cEnv scope cl C env) v) (fun _ s₂ =>
          wpAny (model prog w) A (eval elt (cEnv scope cl C env)) (fun x s₄ => CEnd b₀ L C D oL e ys (cells₁.map (·.1)) gs dr os its₁ (FixJ led R (i + 1) (ys.push x)) s₄) E' s₂) E' ⟨h₁, gs, dr, tk₁, os⟩)
    (fin : ∀ D h' tk' ys e, Fx b₀ h' L (fun z => if z = y then some (.ref D) else m z) ((D, listOf ys e) :: led) → FixJ led R n ys led → Q' ⟨h', gs, dr, tk', os⟩) :
    CAt prog w A E env scope cl elt target iter [] pos (some (assign (.Name y py) env)) (fun _ s' => Q' s') it ⟨h, gs, dr, tk, os⟩ := by
  refine comp_use_at (Q := fun _ s' => Q' s') T hn hL hy hp (FixJ led R) .zero (fun i ys led' j => ⟨Nat.le_of_eq j.2.1, fun p hp => j.1 ▸ hsrc p hp⟩) (fun C i v ys e D oL m₁ led₁ its₁ cells₁ h₁ tk₁ E' hi hP hJ hits hc hd W => ?_) fun D h' tk' ys e led' W' j => by
    have := j.1; subst this; exact fin D h' tk' ys e W' j
  have e1 := hJ.1
  subst e1
  refine wpAny_mono (turn C i v ys e D oL m₁ its₁ cells₁ h₁ tk₁ E' hi hP hJ hc hd W) (fun _ s₂ y => ?_) fun _ _ e => e
  refine no_ifs ?_
  rw [if_pos rfl]
  exact y
/-- assign a pair, a triple of the iterator's tuple -/
theorem rAsgT {elts : List Expr} {kk : Nat} {tpos : Pos} {T : Addr} {items : Array Value} {Q : Unit → Shared → Prop} (hh : A.handled = none) (W : Fx b₀ h L m led) (ht : h.IsTuple T items)
    (k : ∀ h', Fx b₀ h' L m led → wpAny (model prog w) A (assignInOrder ((assignEach elts env).map (·.2)) items.toList) Q E ⟨h', gs, dr, tk, os⟩)
    (hn : (assignEach elts env).length = items.size) (hstar : (assignEach elts env).findIdx? (·.1) = none) :
    wpAny (model prog w) A (assign (.Tuple elts kk tpos) env (.ref T)) Q E ⟨h, gs, dr, tk, os⟩ :=
  assign_Tuple_tuple hh ht hn hstar fun h' he => k h' (W.grow (ext_grow he))
theorem rAsgL {elts : List Expr} {kk : Nat} {tpos : Pos} {l : Addr} {vs : List Value} {e : Nat} {Q : Unit → Shared → Prop} (hh : A.handled = none) (W : Fx b₀ h L m led) (hm : (l, listOf vs.toArray e) ∈ led)
    (k : ∀ h', Fx b₀ h' L m led → wpAny (model prog w) A (assignInOrder ((assignEach elts env).map (·.2)) vs) Q E ⟨h', gs, dr, tk, os⟩)
    (hn : (assignEach elts env).length = vs.length) (hstar : (assignEach elts env).findIdx? (·.1) = none) :
    wpAny (model prog w) A (assign (.Tuple elts kk tpos) env (.ref l)) Q E ⟨h, gs, dr, tk, os⟩ := by
  rw [PyProof.Rows.assign_Tuple]
  refine wpAny_bind (wpAny_standAt ?_)
  unfold unpack
  rw [hn, hstar]
  have := kun_itemsOf (prog := prog) (w := w) (A := A) (E := E) (s := ⟨h, gs, dr, tk, os⟩) (items := vs.toArray) (Q := fun vs' s' => wpAny (model prog w) A (assignInOrder ((assignEach elts env).map (·.2)) vs') Q E s') hh (isList_of W.C hm) fun h' he => k h' (W.grow (ext_grow he))
  exact wpAny_bind (wpAny_holding (by simpa using this))
end
end Mine
end

section
open PySem PySem.W PyProof.Rows PySem.Calls
set_option Elab.async false
set_option maxRecDepth 100000
namespace Mine

/-- what a term says, of its parts -/
def truth (o : Op) (some : List Bool) : Bool :=
  match o with
  | .tru => true
  | .neg => !some.getD 0 false
  | .con => !some.any (· == false)
  | .dis => some.any (· == true)
  | .xr => some.getD 0 false != some.getD 1 false
  | .eq => some.getD 0 false == some.getD 1 false
  | .imp => some.getD 1 false || !some.getD 0 false
  | .ite => if some.getD 0 false then some.getD 1 false else some.getD 2 false
  | _ => false
/-- enough parts -/
def arity (o : Op) (n : Nat) : Bool :=
  match o with
  | .neg => n == 1
  | .xr | .eq | .imp => n == 2
  | .ite => n == 3
  | .con | .dis => 2 ≤ n
  | _ => n == 0
theorem op_beq (a : Op) (b : Op) (x : Str) (e : x = b.str) : (a.str == x) = decide (a = b) := by
  subst e
  by_cases h : a = b
  · subst h; simp
  · rw [beq_eq_false_iff_ne.mpr (fun e => h (Op.str_inj e))]; simp [h]

/-- a term's value in a world, its parts' values given -/
def tval (u : Nat) (acc : List Bool) (t : Tm) : Bool := if t.op = .app then u / 2 ^ t.data % 2 == 1 else truth t.op (t.args.map fun s => acc.getD s false)
def vals (B : List Tm) (u : Nat) : List Bool := B.foldl (fun acc t => acc ++ [tval u acc t]) []
def valOf (B : List Tm) (u i : Nat) : Bool := (vals B u).getD i false
def rowOf (B : List Tm) (i : Nat) : List Bool := (List.range 16).map fun u => valOf B u i

theorem vals_append (B : List Tm) (t : Tm) (u : Nat) : vals (B ++ [t]) u = vals B u ++ [tval u (vals B u) t] := by simp [vals]
theorem vals_from (u : Nat) : ∀ (R : List Tm) (acc : List Bool), ∃ r, R.foldl (fun acc t => acc ++ [tval u acc t]) acc = acc ++ r ∧ r.length = R.length
  | [], acc => ⟨[], by simp, rfl⟩
  | t :: R, acc => by
    obtain ⟨r, e, hl⟩ := vals_from u R (acc ++ [tval u acc t])
    exact ⟨tval u acc t :: r, by rw [List.foldl_cons, e]; simp, by simp [hl]⟩
theorem vals_len (B : List Tm) (u : Nat) : (vals B u).length = B.length := by
  obtain ⟨r, e, hl⟩ := vals_from u B []
  unfold vals; rw [e]; simpa using hl
theorem vals_ext (B R : List Tm) (u : Nat) : ∃ r, vals (B ++ R) u = vals B u ++ r := by
  obtain ⟨r, e, _⟩ := vals_from u R (vals B u)
  exact ⟨r, by unfold vals at e ⊢; rw [List.foldl_append]; exact e⟩
theorem valOf_ext {B B' : List Tm} (x : Ext B B') {i : Nat} (h : i < B.length) (u : Nat) : valOf B' u i = valOf B u i := by
  obtain ⟨R, rfl⟩ := x
  obtain ⟨r, e⟩ := vals_ext B R u
  unfold valOf
  rw [e, List.getD_eq_getElem?_getD, List.getD_eq_getElem?_getD, List.getElem?_append_left (by rw [vals_len]; exact h)]
theorem rowOf_ext {B B' : List Tm} (x : Ext B B') {i : Nat} (h : i < B.length) : rowOf B' i = rowOf B i := by
  unfold rowOf; exact List.map_congr_left fun u _ => valOf_ext x h u
theorem valOf_get {B : List Tm} (w : Wf B) {i : Nat} {t : Tm} (h : B[i]? = some t) (u : Nat) : valOf B u i = if t.op = .app then u / 2 ^ t.data % 2 == 1 else truth t.op (t.args.map fun s => valOf B u s) := by
  obtain ⟨hi, e⟩ := List.getElem?_eq_some_iff.mp h
  have e1 : B = B.take i ++ t :: B.drop (i + 1) := by rw [← e]; simp
  have e2 : B = (B.take i ++ [t]) ++ B.drop (i + 1) := by rw [List.append_assoc]; exact e1
  have hl : (B.take i).length = i := by simp; omega
  have x1 : Ext (B.take i ++ [t]) B := ⟨_, e2⟩
  have x0 : Ext (B.take i) B := ⟨_, e1⟩
  rw [valOf_ext x1 (by rw [List.length_append, hl]; exact Nat.lt_succ_self i)]
  unfold valOf
  rw [vals_append, List.getD_eq_getElem?_getD, List.getElem?_append_right (by rw [vals_len, hl]; exact Nat.le_refl _), vals_len, hl]
  simp only [Nat.sub_self, List.getElem?_cons_zero, Option.getD_some, tval]
  split
  · rfl
  · congr 1
    refine List.map_congr_left fun s hs => ?_
    have : s < i := w.lt i t h s hs
    exact (valOf_ext x0 (by rw [hl]; exact this) u).symm

/-- a bank whose terms all can be read -/
structure Wg (B : List Tm) : Prop where
  wf : Wf B
  ar : ∀ (i : Nat) (t : Tm), B[i]? = some t → arity t.op t.args.length = true
  ap : ∀ (i : Nat) (t : Tm), B[i]? = some t → t.op = .app → i < 7
  sz : ∀ (i : Nat) (t : Tm), B[i]? = some t → t.args.length ≤ 3
  ps : ∀ (i : Nat) (t : Tm), B[i]? = some t → ∀ s ∈ t.args, 1 ≤ s
  z0 : B[0]? = some ⟨.nil, [], 0⟩
theorem mk_wg {B : List Tm} {t : Tm} (w : Wg B) (ha : ∀ s ∈ t.args, s < B.length) (hn : t.op = .neg → ∃ s, t.args = [s] ∧ opAt B s ≠ .neg ∧ s ≠ 1 ∧ s ≠ 2 ∧ t.data = 0) (har : arity t.op t.args.length = true) (hap : t.op ≠ .app) (hsz : t.args.length ≤ 3) (hps : ∀ s ∈ t.args, 1 ≤ s) : Wg (mk B t).2 := by
  refine ⟨mk_wf w.wf ha hn, ?_, ?_, ?_, ?_, (mk_ext B t).get w.z0⟩
  all_goals
    unfold mk
    split
    · first | exact w.ar | exact w.ap | exact w.sz | exact w.ps
    · intro i u hu
      rcases get_append_one hu with h | ⟨rfl, rfl⟩
      · first | exact w.ar i u h | exact w.ap i u h | exact w.sz i u h | exact w.ps i u h
      · first | exact har | exact fun e => absurd e hap | exact hsz | exact hps
theorem arity_at {B : List Tm} (w : Wg B) (t : Nat) : arity (opAt B t) (argsAt B t).length = true := by
  by_cases h : t < B.length
  · have hx := List.getElem?_eq_getElem h
    rw [opAt_of hx, argsAt_of hx]; exact w.ar t _ hx
  · unfold opAt argsAt; rw [List.getElem?_eq_none (by omega)]; rfl
theorem mk_pos {B : List Tm} (w : Wg B) {t : Tm} (h : t.op ≠ .nil) : 1 ≤ (mk B t).1 := by
  cases e : (mk B t).1 with
  | succ n => omega
  | zero =>
    have h1 := mk_get B t
    rw [e, (mk_ext B t).get w.z0] at h1
    exact absurd (by rw [← Option.some.inj h1]) h
theorem args_pos {B : List Tm} (w : Wg B) {i s : Nat} (hs : s ∈ argsAt B i) : 1 ≤ s := by
  by_cases h : i < B.length
  · have hx := List.getElem?_eq_getElem h
    rw [argsAt_of hx] at hs
    exact w.ps i _ hx s hs
  · unfold argsAt at hs; rw [List.getElem?_eq_none (by omega)] at hs; simp at hs
theorem bareOf_pos {B : List Tm} (w : Wg B) {t : Nat} (h : 1 ≤ t) : 1 ≤ bareOf B t := by
  unfold bareOf; split
  · rename_i hn
    obtain ⟨s, _, e, _⟩ := neg_of w.wf hn
    have := args_pos w (i := t) (s := s) (by rw [e]; exact .head _)
    rw [e]; exact this
  · exact h
theorem args_sz {B : List Tm} (w : Wg B) (t : Nat) : (argsAt B t).length ≤ 3 := by
  by_cases h : t < B.length
  · have hx := List.getElem?_eq_getElem h
    rw [argsAt_of hx]; exact w.sz t _ hx
  · unfold argsAt; rw [List.getElem?_eq_none (by omega)]; exact Nat.zero_le _
theorem valOf_at {B : List Tm} (w : Wf B) {i : Nat} (h : i < B.length) (ha : opAt B i ≠ .app) (u : Nat) : valOf B u i = truth (opAt B i) ((argsAt B i).map fun s => valOf B u s) := by
  have hx := List.getElem?_eq_getElem h
  rw [opAt_of hx] at ha ⊢
  rw [argsAt_of hx, valOf_get w hx u, if_neg ha]
theorem args_lt {B : List Tm} (w : Wf B) {i s : Nat} (hs : s ∈ argsAt B i) : s < i := by
  by_cases h : i < B.length
  · have hx := List.getElem?_eq_getElem h
    rw [argsAt_of hx] at hs
    exact w.lt i _ hx s hs
  · unfold argsAt at hs; rw [List.getElem?_eq_none (by omega)] at hs; simp at hs
end Mine
end

section
open PySem PySem.W PyProof.Rows PySem.Calls
set_option Elab.async false
set_option maxRecDepth 100000
namespace Mine

structure Wn (B : List Tm) : Prop where
  wf : Wf B
  nd : B.Nodup
theorem nodup_at {B : List Tm} (h : B.Nodup) {i j : Nat} {t : Tm} (hi : B[i]? = some t) (hj : B[j]? = some t) : i = j :=
  (List.getElem?_inj (List.getElem?_eq_some_iff.mp hi).1 h).mp (hi.trans hj.symm)

/-- y says the contrary of x -/
def Neg (B : List Tm) (x y : Nat) : Prop := (x = 1 ∧ y = 2) ∨ (x = 2 ∧ y = 1) ∨ B[y]? = some ⟨.neg, [x], 0⟩ ∨ B[x]? = some ⟨.neg, [y], 0⟩
theorem Neg.symm {B : List Tm} {x y : Nat} (h : Neg B x y) : Neg B y x := by
  rcases h with ⟨a, b⟩ | ⟨a, b⟩ | h | h
  · exact .inr (.inl ⟨b, a⟩)
  · exact .inl ⟨b, a⟩
  · exact .inr (.inr (.inr h))
  · exact .inr (.inr (.inl h))
theorem neg_fact {B : List Tm} (w : Wf B) {i s : Nat} (h : B[i]? = some ⟨.neg, [s], 0⟩) : s < i ∧ opAt B s ≠ .neg ∧ s ≠ 1 ∧ s ≠ 2 ∧ i ≠ 1 ∧ i ≠ 2 ∧ opAt B i = .neg := by
  obtain ⟨s', e1, e2, e3, e4, _⟩ := w.ng i _ h rfl
  have e1' : s' = s := by have := e1; simp only [List.cons.injEq, and_true] at this; exact this.symm
  subst e1'
  refine ⟨w.lt i _ h s' (.head _), e2, e3, e4, ?_, ?_, opAt_of h⟩
  · rintro rfl; rw [w.t1] at h; cases h
  · rintro rfl; rw [w.t2] at h; cases h
theorem Neg.fun {B : List Tm} (w : Wn B) {x y z : Nat} (h : Neg B x y) (g : Neg B x z) : y = z := by
  rcases h with ⟨a, b⟩ | ⟨a, b⟩ | h | h <;> rcases g with ⟨c, d⟩ | ⟨c, d⟩ | g | g
  · omega
  · omega
  · exact absurd a (neg_fact w.wf g).2.2.1
  · exact absurd a (neg_fact w.wf g).2.2.2.2.1
  · omega
  · omega
  · exact absurd a (neg_fact w.wf g).2.2.2.1
  · exact absurd a (neg_fact w.wf g).2.2.2.2.2.1
  · exact absurd c (neg_fact w.wf h).2.2.1
  · exact absurd c (neg_fact w.wf h).2.2.2.1
  · exact nodup_at w.nd h g
  · exact absurd (neg_fact w.wf g).2.2.2.2.2.2 (neg_fact w.wf h).2.1
  · exact absurd c (neg_fact w.wf h).2.2.2.2.1
  · exact absurd c (neg_fact w.wf h).2.2.2.2.2.1
  · exact absurd (neg_fact w.wf h).2.2.2.2.2.2 (neg_fact w.wf g).2.1
  · rw [h] at g; simpa using g

theorem notOf_neg' {B Bf : List Tm} (w : Wf B) {t : Nat} (ht : t < B.length) (x : Ext (notOf B t).2 Bf) : Neg Bf t (notOf B t).1 := by
  unfold notOf at x ⊢
  split at x
  · rename_i h
    rw [if_pos h]
    obtain ⟨s, e1, e2, _⟩ := neg_of w h
    rw [e2]
    exact .inr (.inr (.inr (x.get e1)))
  · rename_i h
    rw [if_neg h]
    split at x
    · rename_i h1; rw [if_pos h1]; exact .inl ⟨h1, rfl⟩
    · rename_i h1
      rw [if_neg h1]
      split at x
      · rename_i h2; rw [if_pos h2]; exact .inr (.inl ⟨h2, rfl⟩)
      · rename_i h2; rw [if_neg h2]; exact .inr (.inr (.inl (x.get (mk_get B _))))

/-- the ground of a term, and whether it is denied -/
def gnd (B : List Tm) (t : Nat) : Nat := if t = 2 then 1 else bareOf B t
def sgn (B : List Tm) (t : Nat) : Bool := decide (t = 2) || decide (opAt B t = .neg)
theorem gnd_neg {B : List Tm} (w : Wf B) (t : Nat) : if sgn B t then Neg B (gnd B t) t else gnd B t = t := by
  unfold sgn gnd
  by_cases h2 : t = 2
  · subst h2; simp only [decide_true, Bool.true_or, if_true]; exact .inl ⟨rfl, rfl⟩
  · by_cases hn : opAt B t = .neg
    · obtain ⟨s, e1, e2, _⟩ := neg_of w hn
      simp only [h2, hn, decide_true, Bool.or_true, if_true, if_false]
      have : bareOf B t = s := by unfold bareOf; rw [if_pos hn, e2]; rfl
      rw [this]; exact .inr (.inr (.inl e1))
    · simp only [h2, hn, decide_false, Bool.or_false, Bool.false_eq_true, if_false]
      unfold bareOf; rw [if_neg hn]
theorem gnd_of_neg {B : List Tm} (w : Wf B) {x y : Nat} (h : Neg B x y) : gnd B y = gnd B x ∧ sgn B y = !sgn B x := by
  have t1 := op1 w
  have t2 := op2 w
  have hb : ∀ {i s : Nat}, B[i]? = some ⟨.neg, [s], 0⟩ → bareOf B i = s := fun {i s} hi => by unfold bareOf; rw [if_pos (opAt_of hi), argsAt_of hi]; rfl
  have hp : ∀ {i s : Nat}, B[i]? = some ⟨.neg, [s], 0⟩ → gnd B i = s ∧ gnd B s = s ∧ sgn B i = true ∧ sgn B s = false := fun {i s} hi => by
    obtain ⟨a1, a2, a3, a4, a5, a6, a7⟩ := neg_fact w hi
    refine ⟨?_, ?_, ?_, ?_⟩
    · unfold gnd; rw [if_neg a6, hb hi]
    · unfold gnd bareOf; rw [if_neg a4, if_neg a2]
    · unfold sgn; rw [a7]; simp
    · unfold sgn; simp [a4, a2]
  rcases h with ⟨rfl, rfl⟩ | ⟨rfl, rfl⟩ | h | h
  · unfold gnd sgn bareOf; simp [t1, t2]
  · unfold gnd sgn bareOf; simp [t1, t2]
  · obtain ⟨a, b, c, d⟩ := hp h; exact ⟨by rw [a, b], by rw [c, d]; rfl⟩
  · obtain ⟨a, b, c, d⟩ := hp h; exact ⟨by rw [a, b], by rw [c, d]; rfl⟩

/-- what two grounds are told to be -/
def Mid (B : List Tm) (x y m : Nat) : Prop :=
  if x = 1 then m = y else if y = 1 then m = x else if x = y then m = 1 else B[m]? = some ⟨.eq, [min x y, max x y], 0⟩
theorem Mid.fun {B : List Tm} (w : Wn B) {x y m n : Nat} (h : Mid B x y m) (g : Mid B x y n) : m = n := by
  unfold Mid at h g
  split at h
  · rename_i q; rw [if_pos q] at g; omega
  · rename_i q; rw [if_neg q] at g
    split at h
    · rename_i q; rw [if_pos q] at g; omega
    · rename_i q; rw [if_neg q] at g
      split at h
      · rename_i q; rw [if_pos q] at g; omega
      · rename_i q; rw [if_neg q] at g; exact nodup_at w.nd h g
theorem Mid.symm {B : List Tm} {x y m : Nat} (h : Mid B x y m) : Mid B y x m := by
  unfold Mid at h ⊢
  by_cases h1 : x = 1
  · rw [if_pos h1] at h; subst h1
    by_cases h2 : y = 1
    · rw [if_pos h2]; omega
    · rw [if_neg h2, if_pos rfl]; exact h
  · rw [if_neg h1] at h
    by_cases h2 : y = 1
    · rw [if_pos h2] at h ⊢; exact h
    · rw [if_neg h2] at h ⊢
      rw [if_neg h1]
      by_cases h3 : x = y
      · rw [if_pos h3] at h; rw [if_pos h3.symm]; exact h
      · rw [if_neg h3] at h; rw [if_neg fun e => h3 e.symm, Nat.min_comm, Nat.max_comm]; exact h
/-- r is what a and b are told to be -/
def Same (B : List Tm) (a b r : Nat) : Prop := ∃ m, Mid B (gnd B a) (gnd B b) m ∧ if sgn B a != sgn B b then Neg B m r else m = r
theorem Same.symm {B : List Tm} {a b r : Nat} (h : Same B a b r) : Same B b a r := by
  obtain ⟨m, h1, h2⟩ := h
  refine ⟨m, h1.symm, ?_⟩
  have e : (sgn B b != sgn B a) = (sgn B a != sgn B b) := by cases sgn B a <;> cases sgn B b <;> rfl
  rw [e]; exact h2
theorem Same.fun {B : List Tm} (w : Wn B) {a b r q : Nat} (h : Same B a b r) (g : Same B a b q) : r = q := by
  obtain ⟨m, h1, h2⟩ := h
  obtain ⟨n, g1, g2⟩ := g
  have e := h1.fun w g1
  subst e
  split at h2
  · rename_i q; rw [if_pos q] at g2; exact h2.fun w g2
  · rename_i q; rw [if_neg q] at g2; omega
theorem Same.neg1 {B : List Tm} (w : Wn B) {a a' b r q : Nat} (n : Neg B a a') (h : Same B a b r) (g : Same B a' b q) : Neg B r q := by
  obtain ⟨m, h1, h2⟩ := h
  obtain ⟨k, g1, g2⟩ := g
  obtain ⟨e1, e2⟩ := gnd_of_neg w.wf n
  rw [e1] at g1
  have e := h1.fun w g1
  subst e
  rw [e2] at g2
  cases hs : (sgn B a != sgn B b) with
  | true =>
    rw [hs] at h2
    have : ((!sgn B a) != sgn B b) = false := by revert hs; cases sgn B a <;> cases sgn B b <;> simp
    rw [this] at g2
    simp only [if_true, Bool.false_eq_true, if_false] at h2 g2
    subst g2; exact h2.symm
  | false =>
    rw [hs] at h2
    have : ((!sgn B a) != sgn B b) = true := by revert hs; cases sgn B a <;> cases sgn B b <;> simp
    rw [this] at g2
    simp only [if_true, Bool.false_eq_true, if_false] at h2 g2
    subst h2; exact g2
theorem Same.neg2 {B : List Tm} (w : Wn B) {a a' b b' r q : Nat} (n : Neg B a a') (n' : Neg B b b') (h : Same B a b r) (g : Same B a' b' q) : r = q := by
  obtain ⟨m, h1, h2⟩ := h
  obtain ⟨k, g1, g2⟩ := g
  obtain ⟨e1, e2⟩ := gnd_of_neg w.wf n
  obtain ⟨e3, e4⟩ := gnd_of_neg w.wf n'
  rw [e1, e3] at g1
  have e := h1.fun w g1
  subst e
  have : (sgn B a' != sgn B b') = (sgn B a != sgn B b) := by rw [e2, e4]; cases sgn B a <;> cases sgn B b <;> rfl
  rw [this] at g2
  split at h2
  · rename_i q; rw [if_pos q] at g2; exact h2.fun w g2
  · rename_i q; rw [if_neg q] at g2; omega
theorem Same.self {B : List Tm} {a r : Nat} (h : Same B a a r) : r = 1 := by
  obtain ⟨m, h1, h2⟩ := h
  simp only [bne_self_eq_false, Bool.false_eq_true, if_false] at h2
  subst h2
  unfold Mid at h1
  by_cases q : gnd B a = 1
  · rw [if_pos q] at h1; omega
  · rw [if_neg q, if_neg q, if_pos rfl] at h1; exact h1
theorem gnd1 {B : List Tm} (w : Wf B) : gnd B 1 = 1 ∧ sgn B 1 = false ∧ gnd B 2 = 1 ∧ sgn B 2 = true := by
  unfold gnd sgn bareOf; simp [op1 w]
theorem neg12 (B : List Tm) : Neg B 1 2 := .inl ⟨rfl, rfl⟩
theorem Same.contra {B : List Tm} (w : Wn B) {a a' r : Nat} (n : Neg B a a') (h : Same B a a' r) : r = 2 := by
  obtain ⟨m, h1, h2⟩ := h
  obtain ⟨e1, e2⟩ := gnd_of_neg w.wf n
  rw [e1] at h1
  rw [e2] at h2
  have hs : (sgn B a != !sgn B a) = true := by cases sgn B a <;> rfl
  rw [hs] at h2
  simp only [if_true] at h2
  have hm : m = 1 := by
    unfold Mid at h1
    by_cases q : gnd B a = 1
    · rw [if_pos q] at h1; omega
    · rw [if_neg q, if_neg q, if_pos rfl] at h1; exact h1
  subst hm
  exact h2.fun w (neg12 B)
theorem Same.mid1 {B : List Tm} {x m : Nat} (h : Mid B x 1 m) : m = x := by
  unfold Mid at h
  by_cases q : x = 1
  · rw [if_pos q] at h; omega
  · rw [if_neg q, if_pos rfl] at h; exact h
theorem Same.one {B : List Tm} (w : Wn B) {a r : Nat} (h : Same B a 1 r) : r = a := by
  obtain ⟨m, h1, h2⟩ := h
  obtain ⟨g1, g2, _, _⟩ := gnd1 w.wf
  rw [g1] at h1; rw [g2] at h2
  have e := Same.mid1 h1
  subst e
  have ga := gnd_neg w.wf a
  cases hs : sgn B a with
  | true =>
    rw [hs] at h2 ga
    simp only [if_true, Bool.true_bne, Bool.not_false] at h2 ga
    exact h2.fun w ga
  | false =>
    rw [hs] at h2 ga
    simp only [Bool.false_eq_true, if_false, bne_self_eq_false] at h2 ga
    omega
theorem Same.two {B : List Tm} (w : Wn B) {a r : Nat} (h : Same B a 2 r) : Neg B a r := by
  obtain ⟨m, h1, h2⟩ := h
  obtain ⟨_, _, g1, g2⟩ := gnd1 w.wf
  rw [g1] at h1; rw [g2] at h2
  have e := Same.mid1 h1
  subst e
  have ga := gnd_neg w.wf a
  cases hs : sgn B a with
  | true =>
    rw [hs] at h2 ga
    simp only [if_true, bne_self_eq_false, Bool.false_eq_true, if_false] at h2 ga
    subst h2; exact ga.symm
  | false =>
    rw [hs] at h2 ga
    simp only [Bool.false_eq_true, if_false, Bool.false_bne, if_true] at h2 ga
    rw [ga] at h2; exact h2

/-- what sameOf answers is what it should be, in any later bank -/
theorem ext_gnd {B Bf : List Tm} (x : Ext B Bf) {t : Nat} (h : t < B.length) : gnd Bf t = gnd B t ∧ sgn Bf t = sgn B t := by
  unfold gnd sgn bareOf; rw [x.op h, x.args h]; exact ⟨rfl, rfl⟩
theorem bare_ord {B : List Tm} (w : Wf B) (t : Nat) : (bareOf B t = 1 → t = 1) ∧ (bareOf B t = 2 → t = 2) := by
  unfold bareOf
  by_cases h : opAt B t = .neg
  · obtain ⟨s, e1, e2, _, _, e5, e6⟩ := neg_of w h
    rw [if_pos h, e2]
    exact ⟨fun e => absurd e e5, fun e => absurd e e6⟩
  · rw [if_neg h]; exact ⟨id, id⟩
theorem sameOf_same {B Bf : List Tm} (w : Wf B) (wn : Wn Bf) {a b : Nat} (ha : a < B.length) (hb : b < B.length) (x : Ext (sameOf B a b).2 Bf) : Same Bf a b (sameOf B a b).1 := by
  have x0 : Ext B Bf := (sameOf_ext B a b).trans x
  obtain ⟨ga, sa⟩ := ext_gnd x0 ha
  obtain ⟨gb, sb⟩ := ext_gnd x0 hb
  have la := bareOf_lt w ha
  have lb := bareOf_lt w hb
  obtain ⟨oa1, oa2⟩ := bare_ord w a
  obtain ⟨ob1, ob2⟩ := bare_ord w b
  have t1 := op1 w
  have t2 := op2 w
  obtain ⟨wp, hp⟩ := sameMid_wf w la lb
  -- the ground's word and the last denial
  have fin : ∀ m, Mid Bf (gnd Bf a) (gnd Bf b) m → ∀ (z : Bool), (sgn Bf a != sgn Bf b) = (z != (decide (opAt B a = .neg) != decide (opAt B b = .neg))) →
      (if z then Neg Bf m (sameMid B (bareOf B a) (bareOf B b)).1 else m = (sameMid B (bareOf B a) (bareOf B b)).1) → Same Bf a b (sameOf B a b).1 := by
    intro m hm z hz hq
    refine ⟨m, hm, ?_⟩
    rw [hz]
    unfold sameOf at x ⊢
    dsimp only at x ⊢
    cases hr : (decide (opAt B a = .neg) != decide (opAt B b = .neg)) with
    | true =>
      rw [if_pos hr] at x
      rw [if_pos rfl]
      have hn := notOf_neg' wp hp x
      cases z with
      | true =>
        simp only [if_true, bne_self_eq_false, Bool.false_eq_true, if_false] at hq ⊢
        exact (hq.symm.fun wn hn)
      | false =>
        simp only [Bool.false_eq_true, if_false, Bool.false_bne, if_true] at hq ⊢
        rw [hq]; exact hn
    | false =>
      rw [if_neg (by rw [hr]; exact Bool.false_ne_true)] at x
      rw [if_neg Bool.false_ne_true]
      cases z with
      | true =>
        simp only [if_true, Bool.true_bne, Bool.not_false] at hq ⊢
        exact hq
      | false =>
        simp only [Bool.false_eq_true, if_false, bne_self_eq_false] at hq ⊢
        exact hq
  have xm : Ext (sameMid B (bareOf B a) (bareOf B b)).2 Bf := by
    refine Ext.trans ?_ x
    unfold sameOf; dsimp only
    split
    · exact notOf_ext _ _
    · exact Ext.refl _
  have sgnB : ∀ t, t ≠ 2 → sgn B t = decide (opAt B t = .neg) := fun t h => by unfold sgn; simp [h]
  have gndB : ∀ t, t ≠ 2 → gnd B t = bareOf B t := fun t h => by unfold gnd; rw [if_neg h]
  have s2 : sgn B 2 = true := by unfold sgn; simp
  have g2 : gnd B 2 = 1 := by unfold gnd; simp
  have b2 : bareOf B 2 = 2 := by unfold bareOf; simp [t2]
  by_cases a2 : a = 2
  · subst a2
    rw [b2] at fin xm
    have e1 : sameMid B 2 (bareOf B b) = notOf B (bareOf B b) := by unfold sameMid; rw [if_pos (.inr rfl), if_neg (by decide)]
    rw [e1] at fin xm
    have hn := notOf_neg' w lb xm
    by_cases b2' : b = 2
    · subst b2'
      rw [b2] at fin hn
      refine fin 1 ?_ false ?_ ?_
      · rw [ga, g2]; unfold Mid; rw [if_pos rfl]
      · simp
      · simp only [Bool.false_eq_true, if_false]
        exact (hn.fun wn (neg12 Bf).symm).symm
    · refine fin (bareOf B b) ?_ true ?_ ?_
      · rw [ga, gb, g2, gndB b b2']; unfold Mid; rw [if_pos rfl]
      · rw [sa, sb, s2, sgnB b b2', t2]; simp
      · simpa using hn
  · by_cases b2' : b = 2
    · subst b2'
      rw [b2] at fin xm
      by_cases a1 : bareOf B a = 1
      · have e1 : sameMid B (bareOf B a) 2 = (2, B) := by unfold sameMid; rw [if_pos (.inl a1), if_pos a1]
        rw [e1] at fin
        refine fin 1 ?_ true ?_ ?_
        · rw [ga, gb, g2, gndB a a2, a1]; unfold Mid; rw [if_pos rfl]
        · rw [sa, sb, s2, sgnB a a2, t2]; cases decide (opAt B a = .neg) <;> rfl
        · simpa using neg12 Bf
      · have e1 : sameMid B (bareOf B a) 2 = notOf B (bareOf B a) := by
          unfold sameMid; rw [if_neg (by rintro (h | h); exact a1 h; exact a2 (oa2 h)), if_neg (by decide), if_pos rfl]
        rw [e1] at fin xm
        have hn := notOf_neg' w la xm
        refine fin (bareOf B a) ?_ true ?_ ?_
        · rw [ga, gb, g2, gndB a a2]; unfold Mid; rw [if_neg a1, if_pos rfl]
        · rw [sa, sb, s2, sgnB a a2, t2]; cases decide (opAt B a = .neg) <;> rfl
        · simpa using hn
    · have hs : (sgn Bf a != sgn Bf b) = (false != (decide (opAt B a = .neg) != decide (opAt B b = .neg))) := by rw [sa, sb, sgnB a a2, sgnB b b2']; simp
      by_cases a1 : bareOf B a = 1
      · have e1 : sameMid B (bareOf B a) (bareOf B b) = (bareOf B b, B) := by unfold sameMid; rw [if_pos (.inl a1), if_pos a1]
        rw [e1] at fin
        refine fin (bareOf B b) ?_ false hs (by simp)
        rw [ga, gb, gndB a a2, gndB b b2']; unfold Mid; rw [if_pos a1]
      · by_cases b1 : bareOf B b = 1
        · have e1 : sameMid B (bareOf B a) (bareOf B b) = (bareOf B a, B) := by
            unfold sameMid; rw [if_neg (by rintro (h | h); exact a1 h; exact a2 (oa2 h)), if_pos b1]
          rw [e1] at fin
          refine fin (bareOf B a) ?_ false hs (by simp)
          rw [ga, gb, gndB a a2, gndB b b2']; unfold Mid; rw [if_neg a1, if_pos b1]
        · have e1 : sameMid B (bareOf B a) (bareOf B b) = eqOf B (bareOf B a) (bareOf B b) := by
            unfold sameMid; rw [if_neg (by rintro (h | h); exact a1 h; exact a2 (oa2 h)), if_neg b1, if_neg fun h => b2' (ob2 h)]
          rw [e1] at fin xm
          refine fin (eqOf B (bareOf B a) (bareOf B b)).1 ?_ false hs (by simp)
          rw [ga, gb, gndB a a2, gndB b b2']; unfold Mid; rw [if_neg a1, if_neg b1]
          unfold eqOf at xm ⊢
          by_cases hab : bareOf B a = bareOf B b
          · rw [if_pos hab, if_pos hab]
          · rw [if_neg hab] at xm ⊢
            rw [if_neg hab]
            exact xm.get (mk_get B _)
end Mine
end

section
open PySem PySem.W PyProof.Rows PySem.Calls
set_option Elab.async false
set_option maxRecDepth 100000
namespace Mine

theorem mk_nd {B : List Tm} {t : Tm} (h : B.Nodup) : (mk B t).2.Nodup := by
  unfold mk; split
  · exact h
  · rename_i hn
    show (B ++ [t]).Nodup
    rw [List.nodup_append]
    exact ⟨h, by simp, fun a ha b hb e => hn (by rw [List.mem_singleton] at hb; rw [← hb, ← e]; exact ha)⟩
theorem notOf_nd {B : List Tm} {t : Nat} (h : B.Nodup) : (notOf B t).2.Nodup := by
  unfold notOf; repeat' split
  all_goals first | exact h | exact mk_nd h
theorem eqOf_nd {B : List Tm} {a b : Nat} (h : B.Nodup) : (eqOf B a b).2.Nodup := by
  unfold eqOf; split
  · exact h
  · exact mk_nd h
theorem sameOf_nd {B : List Tm} {a b : Nat} (h : B.Nodup) : (sameOf B a b).2.Nodup := by
  have hm : (sameMid B (bareOf B a) (bareOf B b)).2.Nodup := by
    unfold sameMid; repeat' split
    all_goals first | exact h | exact notOf_nd h | exact eqOf_nd h
  unfold sameOf; dsimp only; split
  · exact notOf_nd hm
  · exact hm
theorem notOf_wg {B : List Tm} {t : Nat} (w : Wg B) (ht : t < B.length) (h0 : 1 ≤ t) : Wg (notOf B t).2 ∧ 1 ≤ (notOf B t).1 := by
  unfold notOf
  by_cases h : opAt B t = .neg
  · rw [if_pos h]
    obtain ⟨s, _, e, _⟩ := neg_of w.wf h
    refine ⟨w, ?_⟩
    rw [e]; exact args_pos w (i := t) (s := s) (by rw [e]; exact .head _)
  · rw [if_neg h]
    by_cases h1 : t = 1
    · rw [if_pos h1]; exact ⟨w, by simp⟩
    · rw [if_neg h1]
      by_cases h2 : t = 2
      · rw [if_pos h2]; exact ⟨w, by simp⟩
      · rw [if_neg h2]
        exact ⟨mk_wg w (by simpa using ht) (fun _ => ⟨t, rfl, h, h1, h2, rfl⟩) rfl (fun e => nomatch e) (by simp) (by simpa using h0), mk_pos w (fun e => nomatch e)⟩
theorem eqOf_wg {B : List Tm} {a b : Nat} (w : Wg B) (ha : a < B.length) (hb : b < B.length) (a0 : 1 ≤ a) (b0 : 1 ≤ b) : Wg (eqOf B a b).2 ∧ 1 ≤ (eqOf B a b).1 := by
  unfold eqOf; split
  · exact ⟨w, by simp⟩
  · exact ⟨mk_wg w (by intro s hs; simp at hs; omega) (fun e => nomatch e) rfl (fun e => nomatch e) (by simp) (by intro s hs; simp at hs; omega), mk_pos w (fun e => nomatch e)⟩
theorem sameMid_wg {B : List Tm} {a b : Nat} (w : Wg B) (ha : a < B.length) (hb : b < B.length) (a0 : 1 ≤ a) (b0 : 1 ≤ b) : Wg (sameMid B a b).2 ∧ 1 ≤ (sameMid B a b).1 := by
  unfold sameMid; repeat' split
  all_goals first | exact ⟨w, a0⟩ | exact ⟨w, b0⟩ | exact notOf_wg w ha a0 | exact notOf_wg w hb b0 | exact eqOf_wg w ha hb a0 b0
theorem sameOf_wg {B : List Tm} {a b : Nat} (w : Wg B) (ha : a < B.length) (hb : b < B.length) (a0 : 1 ≤ a) (b0 : 1 ≤ b) : Wg (sameOf B a b).2 ∧ 1 ≤ (sameOf B a b).1 := by
  have h := sameMid_wg w (bareOf_lt w.wf ha) (bareOf_lt w.wf hb) (bareOf_pos w a0) (bareOf_pos w b0)
  have h2 := sameMid_wf w.wf (bareOf_lt w.wf ha) (bareOf_lt w.wf hb)
  unfold sameOf; dsimp only; split
  · exact notOf_wg h.1 h2.2 h.2
  · exact h

/-- what they say in a world -/
theorem val1 {B : List Tm} (w : Wf B) (u : Nat) : valOf B u 1 = true ∧ valOf B u 2 = false := by
  have h := w.len
  rw [valOf_at w (by omega) (by rw [op1 w]; exact fun e => nomatch e), valOf_at w (by omega) (by rw [op2 w]; exact fun e => nomatch e), op1 w, op2 w]
  exact ⟨rfl, rfl⟩
theorem val_neg_at {B : List Tm} (w : Wf B) (u : Nat) {y x : Nat} (h : B[y]? = some ⟨.neg, [x], 0⟩) : valOf B u y = !valOf B u x := by
  rw [valOf_get w h u]; simp [truth]
theorem Neg.val {B : List Tm} (w : Wf B) (u : Nat) {x y : Nat} (h : Neg B x y) : valOf B u y = !valOf B u x := by
  obtain ⟨v1, v2⟩ := val1 w u
  rcases h with ⟨rfl, rfl⟩ | ⟨rfl, rfl⟩ | h | h
  · rw [v1, v2]; rfl
  · rw [v1, v2]; rfl
  · exact val_neg_at w u h
  · rw [val_neg_at w u h]; simp
theorem Mid.val {B : List Tm} (w : Wf B) (u : Nat) {x y m : Nat} (h : Mid B x y m) : valOf B u m = (valOf B u x == valOf B u y) := by
  obtain ⟨v1, v2⟩ := val1 w u
  unfold Mid at h
  split at h
  · rename_i q; subst q h; rw [v1]; simp
  · split at h
    · rename_i q; subst q h; rw [v1]; simp
    · split at h
      · rename_i q; subst q h; rw [v1]; simp
      · rw [valOf_get w h u]
        simp only [reduceCtorEq, if_false, truth, List.map_cons, List.map_nil, List.getD_cons_zero, List.getD_cons_succ]
        rcases Nat.le_total x y with g | g
        · rw [Nat.min_eq_left g, Nat.max_eq_right g]
        · rw [Nat.min_eq_right g, Nat.max_eq_left g]; exact Bool.beq_comm
theorem gnd_val {B : List Tm} (w : Wf B) (u t : Nat) : valOf B u t = (valOf B u (gnd B t) != sgn B t) := by
  have h := gnd_neg w t
  cases hs : sgn B t with
  | true => rw [hs] at h; simp only [if_true] at h; rw [Neg.val w u h]; cases valOf B u (gnd B t) <;> rfl
  | false => rw [hs] at h; simp only [Bool.false_eq_true, if_false] at h; rw [h]; cases valOf B u t <;> rfl
theorem Same.val {B : List Tm} (w : Wf B) (u : Nat) {a b r : Nat} (h : Same B a b r) : valOf B u r = (valOf B u a == valOf B u b) := by
  obtain ⟨m, h1, h2⟩ := h
  have hm := h1.val w u
  rw [gnd_val w u a, gnd_val w u b]
  generalize valOf B u (gnd B a) = p at hm ⊢
  generalize valOf B u (gnd B b) = q at hm ⊢
  cases sa : sgn B a <;> cases sb : sgn B b <;> rw [sa, sb] at h2 <;> simp at h2
  · rw [← h2, hm]; cases p <;> cases q <;> rfl
  · rw [Neg.val w u h2, hm]; cases p <;> cases q <;> rfl
  · rw [Neg.val w u h2, hm]; cases p <;> cases q <;> rfl
  · rw [← h2, hm]; cases p <;> cases q <;> rfl
theorem Same.row {B : List Tm} (w : Wf B) {a b r : Nat} (h : Same B a b r) : rowOf B r = List.zipWith (· == ·) (rowOf B a) (rowOf B b) := by
  unfold rowOf
  rw [List.zipWith_map, List.zipWith_self]
  exact List.map_congr_left fun u _ => h.val w u
end Mine
end

section
open PySem PySem.W PyProof.Rows PySem.Calls
set_option Elab.async false
set_option maxRecDepth 100000
namespace Mine

def formedOf (B : List Tm) (told a b : Nat) : Bool × List Tm :=
  let lo := min (bareOf B a) (bareOf B b)
  let hi := max (bareOf B a) (bareOf B b)
  if lo = hi then (decide (told = if a = b then 1 else 2), B)
  else if lo = 1 ∨ lo = 2 then (decide (told = hi ∨ told = (notOf B hi).1), (notOf B hi).2)
  else (decide (opAt B (bareOf B told) = .eq ∧ argsAt B (bareOf B told) = [lo, hi]), B)
theorem formedOf_ext (B : List Tm) (told a b : Nat) : Ext B (formedOf B told a b).2 := by
  unfold formedOf; dsimp only; repeat' split
  all_goals first | exact Ext.refl B | exact notOf_ext B _
theorem formedOf_len (B : List Tm) (told a b : Nat) : (formedOf B told a b).2.length ≤ B.length + 1 := by
  unfold formedOf; dsimp only; repeat' split
  all_goals first | exact Nat.le_succ _ | exact notOf_len B _
theorem formedOf_nd {B : List Tm} (h : B.Nodup) (told a b : Nat) : (formedOf B told a b).2.Nodup := by
  unfold formedOf; dsimp only; repeat' split
  all_goals first | exact h | exact notOf_nd h
theorem formedOf_wg {B : List Tm} (w : Wg B) (told : Nat) {a b : Nat} (ha : a < B.length) (hb : b < B.length) (a0 : 1 ≤ a) (b0 : 1 ≤ b) : Wg (formedOf B told a b).2 := by
  have la := bareOf_lt w.wf ha
  have lb := bareOf_lt w.wf hb
  have pa := bareOf_pos w a0
  have hm : max (bareOf B a) (bareOf B b) < B.length := by omega
  have hp : 1 ≤ max (bareOf B a) (bareOf B b) := by omega
  unfold formedOf; dsimp only; repeat' split
  all_goals first | exact w | exact (notOf_wg w hm hp).1

theorem same_mid {B : List Tm} {a b r : Nat} (h : Same B a b r) : ∃ m, Mid B (gnd B a) (gnd B b) m ∧ (m = r ∨ Neg B m r) := by
  obtain ⟨m, h1, h2⟩ := h
  refine ⟨m, h1, ?_⟩
  split at h2
  · exact .inr h2
  · exact .inl h2
theorem bare_same {B : List Tm} (w : Wn B) {a b : Nat} (h : bareOf B a = bareOf B b) : a = b ∨ Neg B a b := by
  by_cases na : opAt B a = .neg <;> by_cases nb : opAt B b = .neg
  · obtain ⟨s, e1, e2, _⟩ := neg_of w.wf na
    obtain ⟨s', f1, f2, _⟩ := neg_of w.wf nb
    unfold bareOf at h; rw [if_pos na, if_pos nb, e2, f2] at h
    have : s = s' := h
    subst this
    exact .inl (nodup_at w.nd e1 f1)
  · obtain ⟨s, e1, e2, _⟩ := neg_of w.wf na
    unfold bareOf at h; rw [if_pos na, if_neg nb, e2] at h
    have : s = b := h
    subst this
    exact .inr (.inr (.inr (.inr e1)))
  · obtain ⟨s', f1, f2, _⟩ := neg_of w.wf nb
    unfold bareOf at h; rw [if_neg na, if_pos nb, f2] at h
    have : a = s' := h
    subst this
    exact .inr (.inr (.inr (.inl f1)))
  · unfold bareOf at h; rw [if_neg na, if_neg nb] at h; exact .inl h

theorem formed_true {B Bf : List Tm} (w : Wf B) (wn : Wn Bf) {told a b : Nat} (ht : told < B.length) (ha : a < B.length) (hb : b < B.length) (x : Ext (formedOf B told a b).2 Bf) (S : Same Bf a b told) (a0 : 1 ≤ bareOf B a) (b0 : 1 ≤ bareOf B b) : (formedOf B told a b).1 = true := by
  have x0 : Ext B Bf := (formedOf_ext B told a b).trans x
  have la := bareOf_lt w ha
  have lb := bareOf_lt w hb
  have ba : bareOf Bf a = bareOf B a := by unfold bareOf; rw [x0.op ha, x0.args ha]
  have bb : bareOf Bf b = bareOf B b := by unfold bareOf; rw [x0.op hb, x0.args hb]
  have bt : bareOf Bf told = bareOf B told := by unfold bareOf; rw [x0.op ht, x0.args ht]
  have lt := bareOf_lt w ht
  obtain ⟨oa1, oa2⟩ := bare_ord wn.wf a
  obtain ⟨ob1, ob2⟩ := bare_ord wn.wf b
  rw [ba] at oa1 oa2
  rw [bb] at ob1 ob2
  have hnn : ∀ t, opAt Bf (bareOf Bf t) ≠ .neg := fun t => by
    unfold bareOf
    by_cases h : opAt Bf t = .neg
    · obtain ⟨s, _, e2, _, e4, _⟩ := neg_of wn.wf h
      rw [if_pos h, e2]; exact e4
    · rw [if_neg h]; exact h
  unfold formedOf at x ⊢
  dsimp only at x ⊢
  by_cases hlh : min (bareOf B a) (bareOf B b) = max (bareOf B a) (bareOf B b)
  · rw [if_pos hlh]
    have e : bareOf Bf a = bareOf Bf b := by rw [ba, bb]; omega
    by_cases hab : a = b
    · subst hab
      rw [if_pos rfl]
      exact decide_eq_true (Same.self S)
    · rw [if_neg hab]
      rcases bare_same wn e with h | h
      · exact absurd h hab
      · exact decide_eq_true (Same.contra wn h S)
  · rw [if_neg hlh] at x ⊢
    obtain ⟨m, h1, h2⟩ := same_mid S
    by_cases hlo : min (bareOf B a) (bareOf B b) = 1 ∨ min (bareOf B a) (bareOf B b) = 2
    · rw [if_pos hlo] at x ⊢
      refine decide_eq_true ?_
      have hn := notOf_neg' w (by omega : max (bareOf B a) (bareOf B b) < B.length) x
      -- the other is the ground's word
      have key : m = max (bareOf B a) (bareOf B b) ∨ Neg Bf m (max (bareOf B a) (bareOf B b)) := by
        have one : ∀ (p q : Nat), p < B.length → q < B.length → (bareOf B p = 1 → p = 1) → (bareOf B p = 2 → p = 2) → (bareOf B q = 2 → q = 2) → (bareOf B p = 1 ∨ bareOf B p = 2) → bareOf B p < bareOf B q → Mid Bf (gnd Bf p) (gnd Bf q) m → m = bareOf B q ∨ Neg Bf m (bareOf B q) := by
          intro p q hp hq o1 o2 o3 hc hlt hm
          have gp : gnd Bf p = 1 := by
            rcases hc with h | h
            · rw [o1 h]; exact (gnd1 wn.wf).1
            · rw [o2 h]; exact (gnd1 wn.wf).2.2.1
          rw [gp] at hm
          unfold Mid at hm
          rw [if_pos rfl] at hm
          by_cases q2 : q = 2
          · subst q2
            rw [(gnd1 wn.wf).2.2.1] at hm
            have : bareOf B 2 = 2 := by
              have : bareOf Bf 2 = 2 := by unfold bareOf; simp [op2 wn.wf]
              have e : bareOf Bf 2 = bareOf B 2 := by unfold bareOf; rw [x0.op hq, x0.args hq]
              rw [← e]; exact this
            rw [this, hm]; exact .inr (neg12 Bf)
          · have e : gnd Bf q = bareOf B q := by unfold gnd; rw [if_neg q2]; unfold bareOf; rw [x0.op hq, x0.args hq]
            rw [e] at hm; exact .inl hm
        rcases Nat.lt_or_ge (bareOf B a) (bareOf B b) with g | g
        · have e1 : min (bareOf B a) (bareOf B b) = bareOf B a := Nat.min_eq_left (Nat.le_of_lt g)
          have e2 : max (bareOf B a) (bareOf B b) = bareOf B b := Nat.max_eq_right (Nat.le_of_lt g)
          rw [e1] at hlo; rw [e2]
          exact one a b ha hb oa1 oa2 ob2 hlo g h1
        · have e1 : min (bareOf B a) (bareOf B b) = bareOf B b := Nat.min_eq_right g
          have e2 : max (bareOf B a) (bareOf B b) = bareOf B a := Nat.max_eq_left g
          rw [e1] at hlo; rw [e2]
          exact one b a hb ha ob1 ob2 oa2 hlo (by omega) h1.symm
      rcases key with k | k <;> rcases h2 with g | g
      · exact .inl (by omega)
      · rw [k] at g; exact .inr (g.fun wn hn)
      · rw [g] at k; exact .inr (k.symm.fun wn hn)
      · exact .inl ((k.fun wn g).symm)
    · rw [if_neg hlo] at x ⊢
      refine decide_eq_true ?_
      have two : ∀ t, t < B.length → bareOf B t ≠ 2 → t ≠ 2 := by
        rintro _ ht h rfl
        have : bareOf Bf 2 = 2 := by unfold bareOf; simp [op2 wn.wf]
        have e : bareOf Bf 2 = bareOf B 2 := by unfold bareOf; rw [x0.op ht, x0.args ht]
        exact h (e ▸ this)
      have na := two a ha (by omega)
      have nb := two b hb (by omega)
      have ga : gnd Bf a = bareOf B a := by unfold gnd; rw [if_neg na, ba]
      have gb : gnd Bf b = bareOf B b := by unfold gnd; rw [if_neg nb, bb]
      rw [ga, gb] at h1
      unfold Mid at h1
      rw [if_neg (by omega), if_neg (by omega), if_neg (by omega)] at h1
      have hm : bareOf Bf told = m := by
        have hop := opAt_of h1
        rcases h2 with g | g
        · subst g; unfold bareOf; rw [if_neg (by rw [hop]; exact fun e => nomatch e)]
        · rcases g with ⟨g, _⟩ | ⟨g, _⟩ | g | g
          · rw [g, op1 wn.wf] at hop; exact nomatch hop
          · rw [g, op2 wn.wf] at hop; exact nomatch hop
          · unfold bareOf; rw [if_pos (opAt_of g), argsAt_of g]; rfl
          · rw [opAt_of g] at hop; exact nomatch hop
      rw [bt] at hm
      rw [hm] at lt ⊢
      have e1 := x0.op lt
      have e2 := x0.args lt
      rw [opAt_of h1] at e1
      rw [argsAt_of h1] at e2
      exact ⟨e1.symm, e2.symm⟩
end Mine
end

section
open PySem PySem.W PyProof.Rows PySem.Calls
set_option Elab.async false
set_option maxRecDepth 100000
namespace Mine

/-- a bank fit for the law -/
structure Gd (B : List Tm) : Prop where
  wg : Wg B
  nd : B.Nodup
/-- a number of a term -/
def At (B : List Tm) (t : Nat) : Prop := t < B.length ∧ 1 ≤ t
theorem At.ext {B B' : List Tm} {t : Nat} (h : At B t) (x : Ext B B') : At B' t := ⟨Nat.lt_of_lt_of_le h.1 x.len, h.2⟩
/-- what a step leaves -/
structure Step (B : List Tm) (p : Nat × List Tm) (n : Nat) : Prop where
  gd : Gd p.2
  x : Ext B p.2
  at1 : At p.2 p.1
  len : p.2.length ≤ B.length + n
theorem sameOf_step {B : List Tm} (g : Gd B) {a b : Nat} (ha : At B a) (hb : At B b) : Step B (sameOf B a b) 2 :=
  have h := sameOf_wg g.wg ha.1 hb.1 ha.2 hb.2
  ⟨⟨h.1, sameOf_nd g.nd⟩, sameOf_ext B a b, ⟨(sameOf_wf g.wg.wf ha.1 hb.1).2, h.2⟩, sameOf_len B a b⟩
theorem notOf_step {B : List Tm} (g : Gd B) {a : Nat} (ha : At B a) : Step B (notOf B a) 1 :=
  have h := notOf_wg g.wg ha.1 ha.2
  ⟨⟨h.1, notOf_nd g.nd⟩, notOf_ext B a, ⟨(notOf_wf g.wg.wf ha.1).2, h.2⟩, notOf_len B a⟩
theorem formed_gd {B : List Tm} (g : Gd B) (told : Nat) {a b : Nat} (ha : At B a) (hb : At B b) : Gd (formedOf B told a b).2 :=
  ⟨formedOf_wg g.wg told ha.1 hb.1 ha.2 hb.2, formedOf_nd g.nd told a b⟩
theorem Gd.wn {B : List Tm} (g : Gd B) : Wn B := ⟨g.wg.wf, g.nd⟩
theorem Gd.at1 {B : List Tm} (g : Gd B) : At B 1 ∧ At B 2 := have h := g.wg.wf.len; ⟨⟨by omega, by decide⟩, ⟨by omega, by decide⟩⟩

theorem chain {B : List Tm} {a b c : Nat} (g : Gd B) (ha : At B a) (hb : At B b) (hc : At B c) {p1 p2 p4 p5 p6 p7 p8 p9 q1 q2 q3 q4 : Nat × List Tm} {p3 : Bool × List Tm}
    (e1 : p1 = sameOf B a b) (e2 : p2 = notOf p1.2 a) (e3 : p3 = formedOf p2.2 p1.1 a b) (e4 : p4 = sameOf p3.2 b a) (e5 : p5 = notOf p4.2 b) (e6 : p6 = sameOf p5.2 p2.1 p5.1) (e7 : p7 = sameOf p6.2 p2.1 b)
    (e8 : p8 = notOf p7.2 p1.1) (e9 : p9 = sameOf p8.2 p1.1 c) (f1 : q1 = sameOf p9.2 a a) (f2 : q2 = sameOf q1.2 a p2.1) (f3 : q3 = sameOf q2.2 a 1) (f4 : q4 = sameOf q3.2 a 2) :
    (Step B p1 2 ∧ Step p1.2 p2 1 ∧ (Gd p3.2 ∧ Ext p2.2 p3.2 ∧ p3.2.length ≤ p2.2.length + 1) ∧ Step p3.2 p4 2 ∧ Step p4.2 p5 1 ∧ Step p5.2 p6 2 ∧ Step p6.2 p7 2 ∧ Step p7.2 p8 1 ∧ Step p8.2 p9 2 ∧ Step p9.2 q1 2 ∧ Step q1.2 q2 2 ∧ Step q2.2 q3 2 ∧ Step q3.2 q4 2) ∧
    rowOf p2.2 p1.1 = List.zipWith (· == ·) (rowOf p2.2 a) (rowOf p2.2 b) ∧ p3.1 = true ∧ p4.1 = p1.1 ∧ p6.1 = p1.1 ∧ p7.1 = p8.1 ∧ rowOf p9.2 p9.1 = List.zipWith (· == ·) (rowOf p9.2 p1.1) (rowOf p9.2 c) ∧
    q1.1 = 1 ∧ q2.1 = 2 ∧ q3.1 = a ∧ q4.1 = p2.1 := by
  have s1 : Step B p1 2 := e1 ▸ sameOf_step g ha hb
  have a1 := ha.ext s1.x
  have s2 : Step p1.2 p2 1 := e2 ▸ notOf_step s1.gd a1
  have a2 := a1.ext s2.x
  have b2 := (hb.ext s1.x).ext s2.x
  have t2 := s1.at1.ext s2.x
  have s3 : Gd p3.2 := e3 ▸ formed_gd s2.gd p1.1 a2 b2
  have x3 : Ext p2.2 p3.2 := e3 ▸ formedOf_ext p2.2 p1.1 a b
  have l3 : p3.2.length ≤ p2.2.length + 1 := e3 ▸ formedOf_len p2.2 p1.1 a b
  have a3 := a2.ext x3
  have b3 := b2.ext x3
  have s4 : Step p3.2 p4 2 := e4 ▸ sameOf_step s3 b3 a3
  have b4 := b3.ext s4.x
  have s5 : Step p4.2 p5 1 := e5 ▸ notOf_step s4.gd b4
  have b5 := b4.ext s5.x
  have x25 := (x3.trans s4.x).trans s5.x
  have s6 : Step p5.2 p6 2 := e6 ▸ sameOf_step s5.gd (s2.at1.ext x25) s5.at1
  have b6 := b5.ext s6.x
  have x26 := x25.trans s6.x
  have s7 : Step p6.2 p7 2 := e7 ▸ sameOf_step s6.gd (s2.at1.ext x26) b6
  have x27 := x26.trans s7.x
  have s8 : Step p7.2 p8 1 := e8 ▸ notOf_step s7.gd (t2.ext x27)
  have x28 := x27.trans s8.x
  have x18 := s2.x.trans x28
  have x08 := s1.x.trans x18
  have s9 : Step p8.2 p9 2 := e9 ▸ sameOf_step s8.gd (t2.ext x28) (hc.ext x08)
  have x09 := x08.trans s9.x
  have x29 := x28.trans s9.x
  have r1 : Step p9.2 q1 2 := f1 ▸ sameOf_step s9.gd (ha.ext x09) (ha.ext x09)
  have y1 := x09.trans r1.x
  have z1 := x29.trans r1.x
  have r2 : Step q1.2 q2 2 := f2 ▸ sameOf_step r1.gd (ha.ext y1) (s2.at1.ext z1)
  have y2 := y1.trans r2.x
  have r3 : Step q2.2 q3 2 := f3 ▸ sameOf_step r2.gd (ha.ext y2) r2.gd.at1.1
  have y3 := y2.trans r3.x
  have r4 : Step q3.2 q4 2 := f4 ▸ sameOf_step r3.gd (ha.ext y3) r3.gd.at1.2
  refine ⟨⟨s1, s2, ⟨s3, x3, l3⟩, s4, s5, s6, s7, s8, s9, r1, r2, r3, r4⟩, ?_⟩
  -- the last bank
  have wn := r4.gd.wn
  have k4 := Ext.refl q4.2
  have k3 : Ext q3.2 q4.2 := r4.x
  have k2 := r3.x.trans k3
  have k1 := r2.x.trans k2
  have k9 := r1.x.trans k1
  have k8 := s9.x.trans k9
  have k7 := s8.x.trans k8
  have k6 := s7.x.trans k7
  have k5 := s6.x.trans k6
  have kk4 := s5.x.trans k5
  have kk3 := s4.x.trans kk4
  have kk2 := x3.trans kk3
  have kk1 := s2.x.trans kk2
  have S1 : Same q4.2 a b p1.1 := by subst e1; exact sameOf_same g.wg.wf wn ha.1 hb.1 kk1
  have N2 : Neg q4.2 a p2.1 := by subst e2; exact notOf_neg' s1.gd.wg.wf a1.1 kk2
  have S4 : Same q4.2 b a p4.1 := by subst e4; exact sameOf_same s3.wg.wf wn b3.1 a3.1 kk4
  have N5 : Neg q4.2 b p5.1 := by subst e5; exact notOf_neg' s4.gd.wg.wf b4.1 k5
  have S6 : Same q4.2 p2.1 p5.1 p6.1 := by subst e6; exact sameOf_same s5.gd.wg.wf wn (s2.at1.ext x25).1 s5.at1.1 k6
  have S7 : Same q4.2 p2.1 b p7.1 := by subst e7; exact sameOf_same s6.gd.wg.wf wn (s2.at1.ext x26).1 b6.1 k7
  have N8 : Neg q4.2 p1.1 p8.1 := by subst e8; exact notOf_neg' s7.gd.wg.wf (t2.ext x27).1 k8
  have S9 : Same q4.2 p1.1 c p9.1 := by subst e9; exact sameOf_same s8.gd.wg.wf wn (t2.ext x28).1 (hc.ext x08).1 k9
  have T1 : Same q4.2 a a q1.1 := by subst f1; exact sameOf_same s9.gd.wg.wf wn (ha.ext x09).1 (ha.ext x09).1 k1
  have T2 : Same q4.2 a p2.1 q2.1 := by subst f2; exact sameOf_same r1.gd.wg.wf wn (ha.ext y1).1 (s2.at1.ext z1).1 k2
  have T3 : Same q4.2 a 1 q3.1 := by subst f3; exact sameOf_same r2.gd.wg.wf wn (ha.ext y2).1 r2.gd.at1.1.1 k3
  have T4 : Same q4.2 a 2 q4.1 := by
    have := sameOf_same (Bf := q4.2) r3.gd.wg.wf wn (ha.ext y3).1 r3.gd.at1.2.1 (by rw [← f4]; exact k4)
    rw [← f4] at this; exact this
  have S9' : Same p9.2 p1.1 c p9.1 := by subst e9; exact sameOf_same s8.gd.wg.wf s9.gd.wn (t2.ext x28).1 (hc.ext x08).1 (Ext.refl _)
  have R1 : rowOf p2.2 p1.1 = List.zipWith (· == ·) (rowOf p2.2 a) (rowOf p2.2 b) := by
    rw [← rowOf_ext kk2 t2.1, ← rowOf_ext kk2 a2.1, ← rowOf_ext kk2 b2.1]; exact S1.row wn.wf
  refine ⟨R1, ?_, ?_, ?_, ?_, S9'.row s9.gd.wg.wf, T1.self, T2.contra wn N2, T3.one wn, (T4.two wn).fun wn N2⟩
  · subst e3; exact formed_true s2.gd.wg.wf wn t2.1 a2.1 b2.1 kk3 S1 (bareOf_pos s2.gd.wg a2.2) (bareOf_pos s2.gd.wg b2.2)
  · exact S4.symm.fun wn S1
  · exact (Same.neg2 wn N2 N5 S1 S6).symm
  · exact (Same.neg1 wn N2 S1 S7).fun wn N8
end Mine
end

section
set_option Elab.async false
set_option maxRecDepth 100000
namespace Mine
def B3 : List Tm := [⟨.nil, [], 0⟩, ⟨.tru, [], 0⟩, ⟨.fls, [], 0⟩]
def appB (i : Nat) : List Tm := B3 ++ (List.range i).map fun d => ⟨.app, [], d⟩
theorem appB_mk : ∀ i, i < 4 → (mk (appB i) ⟨.app, [], i⟩ : Nat × List Tm) = (3 + i, appB (i + 1))
  | 0, _ => by decide
  | 1, _ => by decide
  | 2, _ => by decide
  | 3, _ => by decide
def worldsOf (k : Nat) : List Bool := (List.range 16).map fun u => decide (u / 2 ^ k % 2 = 1)
def B7 : List Tm := [⟨.nil, [], 0⟩, ⟨.tru, [], 0⟩, ⟨.fls, [], 0⟩, ⟨.app, [], 0⟩, ⟨.app, [], 1⟩, ⟨.app, [], 2⟩, ⟨.app, [], 3⟩]
theorem appB4 : appB 4 = B7 := by decide
theorem b7_row : ∀ j, j < 4 → rowOf B7 (3 + j) = worldsOf j
  | 0, _ => by decide
  | 1, _ => by decide
  | 2, _ => by decide
  | 3, _ => by decide
theorem b7_gd : Gd B7 := by
  refine ⟨⟨⟨?_, ?_, rfl, rfl⟩, ?_, ?_, ?_, ?_, rfl⟩, by decide⟩
  all_goals
    intro i t h
    match i with
    | 0 | 1 | 2 | 3 | 4 | 5 | 6 => obtain rfl : _ = t := by simpa [B7] using h
                                   first | decide | (intro s hs; simp at hs) | (intro e; exact nomatch e) | (intro _; decide) | simp [arity]
    | i + 7 => simp [B7] at h
theorem world_bit (u i P : Nat) (h : P = 2 ^ i) : ((((u : Int).fdiv (P : Int)).fmod 2) == 1) = decide (u / 2 ^ i % 2 = 1) := by
  subst h
  rw [Int.fdiv_eq_ediv_of_nonneg _ (Int.natCast_nonneg _), Int.fmod_eq_emod_of_nonneg _ (by decide), ← Int.natCast_ediv]
  generalize u / 2 ^ i = q
  by_cases h : q % 2 = 1
  · have : ((q : Int) % 2) = 1 := by omega
    simp [h, this]
  · have : ¬ ((q : Int) % 2) = 1 := by omega
    simp [h, this]
theorem two_pow (i : Nat) (h : i < 4) : ∃ P : Nat, (2 : Int) ^ ((i : Int)).toNat = (P : Int) ∧ 1 ≤ P ∧ P ≤ 8 ∧ P = 2 ^ i := by
  match i, h with
  | 0, _ => exact ⟨1, by decide, by decide, by decide, by decide⟩
  | 1, _ => exact ⟨2, by decide, by decide, by decide, by decide⟩
  | 2, _ => exact ⟨4, by decide, by decide, by decide, by decide⟩
  | 3, _ => exact ⟨8, by decide, by decide, by decide, by decide⟩
end Mine
end

section
open PySem PySem.W PyProof.Rows PySem.Calls
set_option Elab.async false
set_option maxRecDepth 100000
namespace Mine
theorem Rm.under {A : Around} {k : Nat} {C : Addr} {pos : List Value} {kw : List (Str × Value)} (r : Rm A (k + 1)) : Rm (A.under (.builtin "type.__call__" ⟨.ref C :: pos, kw⟩)) k :=
  ⟨r.hh, by have := r.dp; have e : (Code.builtin "type.__call__" ⟨.ref C :: pos, kw⟩).weight = 1 := by kernel_rfl
            show A.depth + _ + k < 1000; rw [e]; omega, by have := r.un; have e : (Code.builtin "type.__call__" ⟨.ref C :: pos, kw⟩).cUnits = 1 := by kernel_rfl
                                                           show A.units + _ + 8 * k < 9900; rw [e]; omega⟩
section
variable {prog : Program} {w : World} {A : Around} {E : Value → Shared → Prop} {K : Frag} {gs : Array GenState} {dr : Drawn} {os : OsState} {tk : Tok}
  {b₀ h : Heap} {L : Addr} {m : Str → Option Value} {led led' : List (Addr × Obj)}

theorem enterK {R : Result → Shared → Prop} {f : Addr} {args : Args} {binds : List (Str × Value)} {name qual : Str} {params : Arguments} {body : List Stmt} {scope : Scope} {dV kV doc pm cdv ct oc : Value} {an od : Option Addr} {osl : Array (Option Value)}
    (X : K.In b₀) (hlim : b₀.NoLimit) (W : Fx b₀ h L m led)
    (ho : K.lookup f = some ⟨oc, od, .func (fnOf name qual params body scope dV kV doc pm an cdv ct), osl⟩) (hcd : codeIn K cdv qual = true) (hroom : A.depth < recursionLimit)
    (hbind : BindsTo ⟨h, gs, dr, tk, os⟩ (fnOf name qual params body scope dV kV doc pm an cdv ct) args ((params.args.map (·.arg)).zip args.pos)) (hbl : (params.args.map (·.arg)).zip args.pos = binds)
    (hloc : ∀ y ∈ binds, scope.names.lookup y.1 = some .local)
    (hb : ∀ oL L' h₁ tk₁, Fx b₀ h₁ L' (fun y => binds.reverse.lookup y) ((L, oL) :: led) →
      wpAny (model prog w) (A.deeper (envX qual scope L' f cdv [])) (execs body (envX qual scope L' f cdv []))
        (fun fl s' => Back b₀ L L' m oL gs dr os (fun v s => R (.ok (.ret v)) s) (match fl with | .ret v => v | _ => .none) s') (fun _ _ => False) ⟨h₁, gs, dr, tk₁, os⟩)
    (hco : scope.isCoroutine = false := by rfl) (hgen : scope.isGenerator = false := by rfl) (hk : scope.kind = .function := by rfl)
    (hcell : ∀ x ∈ scope.names, x.2 ≠ .cell := by decide) :
    codeAny (model prog w) A (.call (.ref f) args) R ⟨h, gs, dr, tk, os⟩ := by
  rw [hbl] at hbind
  obtain ⟨oL, C, back⟩ := W.out
  refine codeAny_call_def (fd := fnOf name qual params body scope dV kV doc pm an cdv ct) (body := body) (binds := binds) hroom (C.stays _ _ (X _ _ ho)) rfl (hlim.keeps C.stays) (codeRec_of (X.keeps C.stays) hcd) rfl hbind hcell hloc (fun h₁ hns hk₁ => ?_) hco hgen hk
  have C₁ : Cx b₀ h₁ ((L, oL) :: led) := C.grow hk₁
  have W₁ : Fx b₀ h₁ h.objs.size (fun y => binds.reverse.lookup y) ((L, oL) :: led) := ⟨⟨hns, C₁.stays, Nat.le_of_lt (Nat.lt_of_le_of_lt W.F.above W.ltL)⟩, C₁, fun p hp => Nat.ne_of_lt (C.lt hp)⟩
  refine wpAny_mono (hb oL _ h₁ _ W₁) (fun fl s' hB => ?_) fun _ _ e => e.elim
  obtain ⟨h₂, tk₂, led₂, m₂, rfl, W₂, k⟩ := hB
  exact k (back h₂ led₂ W₂.C)

theorem rNew {C fI : Addr} {pos : List Value} {Q : Value → Shared → Prop} (W : Fx b₀ h L m led) (X : K.In b₀) (hne : led ≠ []) (hm : makesIn K C = true) (hi : findIn K (.ref C) "__init__" = some (some (.ref fI))) (hf : isFn K (.ref fI) = true)
    (k : ∀ x dx h', Fx b₀ h' L m ((x, instObj C dx) :: (dx, dictOf [] 0) :: led) →
      codeAny (model prog w) (A.under (.builtin "type.__call__" ⟨.ref C :: pos, []⟩)) (.call (.ref fI) ⟨.ref x :: pos, []⟩) (InitBack x fun r s' => match r with | .ok (.ret v) => Q v s' | .ok _ => False | .error e => E e s') ⟨h', gs, dr, tk, os⟩) :
    wpAny (model prog w) A (call (.ref C) pos []) Q E ⟨h, gs, dr, tk, os⟩ := by
  refine call_cls (s := ⟨h, gs, dr, tk, os⟩) W.F X W.N hm hi hf fun x dx h' F' N' hlt hdx => k x dx h' ?_
  obtain ⟨p₀, hp₀⟩ := List.exists_mem_of_ne_nil led hne
  have hb : b₀.objs.size ≤ dx := Nat.le_of_lt (Nat.lt_of_le_of_lt (W.C.new _ hp₀) (hlt _ hp₀))
  refine ⟨F', ⟨F'.keep, fun p hp => (N' p hp).1, fun p hp => ?_, ?_⟩, fun p hp => (N' p hp).2.1⟩
  · rcases List.mem_cons.mp hp with rfl | hp
    · exact Nat.le_of_lt (Nat.lt_of_le_of_lt hb hdx)
    · rcases List.mem_cons.mp hp with rfl | hp
      · exact hb
      · exact W.C.new p hp
  · simp only [List.map_cons, List.nodup_cons, List.mem_cons, List.mem_map, not_or, not_exists, not_and]
    exact ⟨⟨Nat.ne_of_gt hdx, fun p hp e => Nat.lt_irrefl _ (Nat.lt_trans hdx (e ▸ hlt p hp))⟩, fun p hp e => Nat.lt_irrefl _ (e ▸ hlt p hp), W.C.nd⟩

theorem upd_of_pt {d : Addr} {o o' : Obj} {l l' : List (Addr × Obj)} (x : Pt d o o' l l') (hn : (l.map (·.1)).Nodup) : Upd d o o' l l' := by
  induction x with
  | head =>
    refine .head fun p hp e => ?_
    exact (List.nodup_cons.mp hn).1 (List.mem_map.mpr ⟨p, hp, e⟩)
  | tail x ih =>
    refine .tail (fun e => ?_) (ih (List.nodup_cons.mp hn).2)
    exact (List.nodup_cons.mp hn).1 (List.mem_map.mpr ⟨_, x.mem, e.symm⟩)
theorem pt_map {d : Addr} {o o' : Obj} {l l' : List (Addr × Obj)} (x : Pt d o o' l l') : l'.map (·.1) = l.map (·.1) := by
  induction x with
  | head => rfl
  | tail _ ih => simp [ih]

/-- an attribute set in an object's dict -/
theorem rSetA {x C dx : Addr} {name : Str} {v : Value} {es es' : List DictEntry} {n n' : Nat} {Q : Unit → Shared → Prop} (W : Fx b₀ h L m led) (X : K.In b₀) (hi : (x, instObj C dx) ∈ led) (hd : (dx, dictOf es n) ∈ led)
    (hs : findIn K (.ref C) "__setattr__" = some (some (.builtin "object.__setattr__"))) (hp : plainOver K C = true) (ht : takerIn K C name = some none) (hh : hasDictIn K C = true) (hl : (getL name es).isSome = true)
    (e : (putL name (PyData.keyHash w.params name) (.str name (tk + 1)) v es, putN name es n) = (es', n')) (p : Pt dx (dictOf es n) (dictOf es' n') led led') (hz : es'.length ≤ 1000)
    (k : ∀ h', Fx b₀ h' L m led' → Q () ⟨h', gs, dr, tk + 2, os⟩) :
    wpAny (model prog w) A (setAttr (.ref x) name v) Q E ⟨h, gs, dr, tk, os⟩ := by
  refine set_dict (s := ⟨h, gs, dr, tk, os⟩) W.F X W.N (_root_.PySem.W.InstAt.of_news W.N hi hd) rfl hs hp ht hh hl e (upd_of_pt p W.C.nd) hz fun h' F' N' => k h' ?_
  have em := pt_map p
  refine ⟨F', ⟨F'.keep, fun q hq => (N' q hq).1, fun q hq => ?_, by rw [em]; exact W.C.nd⟩, fun q hq => (N' q hq).2.1⟩
  have : q.1 ∈ led.map (·.1) := by rw [← em]; exact List.mem_map_of_mem hq
  obtain ⟨q', hq', e'⟩ := List.mem_map.mp this
  rw [← e']; exact W.C.new q' hq'
end
end Mine
end

section
open PySem PySem.W PyProof.Rows PySem.Calls
set_option Elab.async false
set_option maxRecDepth 100000
namespace Mine
theorem list_keys_none : typeLookup (.type "list") "keys" = pure none := by rw [typeLookup_type, builtinLookup_eq_fast]; kernel_rfl
theorem dul_entry : entryFor table "dict.update.loop" = some Builtin.«dict.update.loop» := entryFor_of_tree (by kernel_rfl)
theorem keysMiss {prog : Program} {w : World} {A : Around} {E : Value → Shared → Prop} {s : Shared} {a : Addr} {xs : Array Value} {k : Nat} {sl : Array (Option Value)} {Q : Option Value → Shared → Prop}
    (hx : s.heap.get? a = some { cls := .type "list", dict := none, data := .seq xs k, slots := sl }) (hA : A.handled = none)
    (h : ∀ h' tk, Grow s.heap h' → Q none { s with heap := h', toks := tk }) : wpAny (model prog w) A (getAttr? (.ref a) "keys") Q E s := by
  obtain ⟨hp, g, d, tk, os⟩ := s
  have hT : ∀ tk', (⟨hp, g, d, tk', os⟩ : Shared).TypeIs (.ref a) "list" := fun _ => ⟨_, hx, rfl⟩
  have f1 := sub_AttributeError
  have f3 := PySem.F.slot_list_getattribute.lookup
  have f4 := PySem.F.slot_list_getattribute.bind (.ref a)
  have f5 := am_list_getattr_none
  unfold getAttr? getAttrBy? getAttrBy
  repeat (any_goals (first | assumption | exact hT _ | ((with_reducible show wpAny _ _ (call (Value.builtin "list.__getattribute__") _ _) _ _ _); refine call_meets PySem.F.slot_list_getattribute (hT _) am_entry_list_getattribute (PySem.F.args_list_getattribute_2 _ _) (meets_getattribute_miss_list a xs k sl "keys" _ list_keys_none (by decide +kernel)) ⟨hx, hA, fun h' tk' e hx' => ?_⟩) | wp_step))
  obtain ⟨t', u', he⟩ := hx'.there
  show wpAny _ _ (getattributeRaised _ _ _ _ _ _ _) _ _ _
  unfold getattributeRaised
  repeat (any_goals (first | assumption | wp_step))
  exact h _ _ hx'.keeps
section
variable {prog : Program} {w : World} {A : Around} {E : Value → Shared → Prop} {gs : Array GenState} {dr : Drawn} {os : OsState} {tk : Tok}
  {b₀ h h' : Heap} {L d l : Addr} {m : Str → Option Value} {led : List (Addr × Obj)}
theorem Fx.extBut {it : Addr} {oit : Obj} (W : Fx b₀ h L m ((it, oit) :: led)) (hs : Heap.ExtBut it h h') : Fx b₀ h' L m led := by
  have hit := W.C.new _ (.head _)
  have hn := (List.nodup_cons.mp W.C.nd)
  have hne : ∀ p ∈ led, p.1 ≠ it := fun p hp e => hn.1 (List.mem_map.mpr ⟨p, hp, e⟩)
  have hst : b₀.StaysIn h' := fun b o e => hs b o (fun q => by subst q; have := none_of_ge hit; rw [e] at this; cases this) (W.C.stays b o e)
  exact ⟨⟨W.F.ns.at' fun o e => hs _ o (W.nL _ (.head _)).symm e, hst, W.F.above⟩, ⟨hst, fun p hp => hs _ _ (hne p hp) (W.C.own p (.tail _ hp)), fun p hp => W.C.new p (.tail _ hp), hn.2⟩, fun p hp => W.nL p (.tail _ hp)⟩

def putAll (kvs : List (Int × Value)) (ps : List (Int × Value)) : List (Int × Value) := ps.foldl (fun kvs p => stored kvs p.1 p.2) kvs
theorem stored_len (kvs : List (Int × Value)) (k : Int) (v : Value) : (stored kvs k v).length ≤ kvs.length + 1 := by
  unfold stored; split <;> simp

theorem updLoop {R : Result → Shared → Prop} {it : Addr} {vs : List Value} {n : Nat} (hh : A.handled = none) (hm : (l, listOf vs.toArray n) ∈ led) : ∀ (ps : List (Int × Value)) {tk : Tok} {h : Heap} {o oit : Obj} {i : Nat} {kvs : List (Int × Value)},
    (W : Fx b₀ h L m ((it, oit) :: (d, o) :: led)) → o.IsDictOf (PySem.intKind prog w) kvs → oit.cls = .type "list_iterator" → oit.data = .fields #[.ref l, .int i 0] →
    (∀ j (p : Int × Value), ps[j]? = some p → ∃ a t, vs[i + j]? = some (Value.ref a) ∧ (a, tupO [Value.int p.1 t, p.2]) ∈ led) → vs.length = i + ps.length → kvs.length + ps.length ≤ 10000 →
    (∀ h' o' tk', Fx b₀ h' L m ((d, o') :: led) → o'.IsDictOf (PySem.intKind prog w) (putAll kvs ps) → R (.ok (.ret .none)) ⟨h', gs, dr, tk', os⟩) →
    codeAny (model prog w) A (.builtin "dict.update.loop" ⟨[.ref d, .ref it, .int i 0, .none], []⟩) R ⟨h, gs, dr, tk, os⟩ := by
  intro ps
  induction ps with
  | nil =>
    intro tk h o oit i kvs W hd hc hdat hp hlen hsz k
    refine codeAny_builtin dul_entry ?_
    unfold Builtin.«dict.update.loop»
    refine wpAny_bind (wpAny_pyNext_list_end (l := l) (i := i) (items := vs.toArray) hh ⟨oit, W.C.own _ (.head _), hc, hdat⟩ (isList_of W.C (.tail _ (.tail _ hm))) (by rw [List.getElem?_toArray, List.getElem?_eq_none (by rw [hlen]; simp)]) fun h' hs => ?_)
    exact wpAny_bind (wpAny_pure (wpAny_pure (k h' o _ (W.extBut hs) hd)))
  | cons p ps ih =>
    intro tk h o oit i kvs W hd hc hdat hp hlen hsz k
    refine codeAny_builtin dul_entry ?_
    unfold Builtin.«dict.update.loop»
    obtain ⟨a, t, hv, ha⟩ := hp 0 p rfl
    refine wpAny_bind (wpAny_pyNext_list_item (l := l) (i := i) (items := vs.toArray) ⟨oit, W.C.own _ (.head _), hc, hdat⟩ (isList_of W.C (.tail _ (.tail _ hm))) (by rw [List.getElem?_toArray]; exact hv) fun h' hit hs => ?_)
    obtain ⟨oit', ho', hc', hdat'⟩ := hit
    have W' := W.put .head hs ho'
    have hT : (⟨h', gs, dr, tk, os⟩ : Shared).TypeIs (.ref a) "tuple" := ⟨_, W'.C.own _ (.tail _ (.tail _ ha)), rfl⟩
    refine wpAny_bind (wpAny_holding (wpAny_bind (wpAny_tryCatch ?_)))
    unfold Builtin.Dict.pairItems
    refine wpAny_bind (wpAny_typeOf hT ?_)
    rw [if_pos (by decide)]
    refine wpAny_bind (wpAny_seqItems (W'.C.own _ (.tail _ (.tail _ ha))) rfl (wpAny_pure ?_))
    show wpAny _ _ (holding [Value.int p.1 t, p.2] (dictSet d (Value.int p.1 t) p.2)) _ _ _
    refine wpAny_holding ?_
    refine wpAny_dictSet_pairs (knd := PySem.intKind prog w) (k := p.1) (kvs := kvs) (by simp [PySem.intKind, Value.isInt]) (dictAt W'.C (.tail _ (.head _)) hd) (fun h₂ hD hs₂ => ?_) (by show kvs.length ≤ 16777216; simp at hsz; omega)
    obtain ⟨o₂, ho₂, hd₂⟩ := Heap.dictOf_iff.mp hD
    have W₂ := W'.put (.tail .head) hs₂ ho₂
    refine wpAny_pure ⟨?_, ?_⟩
    · exact Code.quiet_builtin _ (by decide +kernel)
    · have := ih (i := i + 1) (tk := tk + 1) W₂ hd₂ hc' hdat' (fun j q hq => ?_) (by rw [hlen]; simp; omega) (by have := stored_len kvs p.1 p.2; simp at hsz; omega) k
      · exact this
      · have := hp (j + 1) q hq
        rwa [show i + (j + 1) = i + 1 + j by omega] at this

theorem rDictOfPairs {vs : List Value} {n : Nat} {ps : List (Int × Value)} {Q : Value → Shared → Prop} (hh : A.handled = none) (W : Fx b₀ h L m led) (hm : (l, listOf vs.toArray n) ∈ led)
    (hp : ∀ (j : Nat) (p : Int × Value), ps[j]? = some p → ∃ (a : Addr) (t : Tok), vs[j]? = some (Value.ref a) ∧ (a, tupO [Value.int p.1 t, p.2]) ∈ led) (hlen : vs.length = ps.length) (hsz : ps.length ≤ 10000)
    (k : ∀ x h' o' tk', Fx b₀ h' L m ((x, o') :: led) → o'.IsDictOf (PySem.intKind prog w) (putAll [] ps) → Q (.ref x) ⟨h', gs, dr, tk', os⟩) :
    wpAny (model prog w) A (call (.type "dict") [.ref l]) Q E ⟨h, gs, dr, tk, os⟩ := by
  refine callType_codes (Q₁ := fun obj s₁ => obj = Value.ref h.objs.size ∧ s₁ = (⟨h.push { cls := .type "dict", data := .dict #[] }, gs, dr, tk, os⟩ : Shared)) PySem.F.kt_called_dict (PySem.F.kt_typeCall_dict_1 _) PySem.F.entry_dict_init (kt_code_dict_new _ ⟨rfl, rfl⟩) ?_
  rintro obj s₁ ⟨rfl, rfl⟩
  have W₁ := W.push { cls := .type "dict", data := .dict #[] }
  have hnew : (h.push { cls := .type "dict", data := .dict #[] }).DictOf (PySem.intKind prog w) h.objs.size [] := Heap.DictOf.new h
  refine ⟨Heap.DictOf.typeIs (s := ⟨_, gs, dr, tk, os⟩) hnew, PySem.F.args_dict_init_2 _ _, ?_⟩
  unfold Builtin.«dict.__init__»
  refine wpAny_bind ?_
  unfold Builtin.Dict.selfAndRest
  refine wpAny_bind (wpAny_notOrdered_dict (Heap.DictOf.typeIs (s := ⟨_, gs, dr, tk, os⟩) hnew) ?_)
  show wpAny _ _ (pure (h.objs.size, [Value.ref l])) _ _ _
  refine wpAny_pure ?_
  show wpAny _ _ (Builtin.Dict.updateFrom "dict.__init__" h.objs.size (.ref l) [] .none) _ _ _
  unfold Builtin.Dict.updateFrom
  have hl := isList_of W₁.C (.tail _ hm)
  refine wpAny_bind (wpAny_typeOf (Heap.IsList.typeIs (s := ⟨_, gs, dr, tk, os⟩) hl) ?_)
  rw [if_pos (by decide)]
  refine wpAny_bind (keysMiss (W₁.C.own _ (.tail _ hm)) hh fun h₂ tk₂ g₂ => ?_)
  rw [if_pos (by rfl)]
  have W₂ := W₁.grow g₂
  refine wpAny_bind (wpAny_rule (wpAny_bind (wpAny_pyIter_list (isList_of W₂.C (.tail _ hm)) ?_)))
  have W₃ := W₂.push { cls := .type "list_iterator", data := .fields #[.ref l, .int 0 0] }
  refine wpAny_pure ⟨Code.quiet_builtin _ (by decide +kernel), ?_⟩
  refine updLoop (A := A.in1) (prog := prog) (w := w) (d := h.objs.size) (it := h₂.objs.size) (ps := ps) (kvs := []) (i := 0) hh hm W₃ (isDict0 _) rfl rfl (fun j p hj => by rw [Nat.zero_add]; exact hp j p hj) (by omega) (by simpa using hsz) fun h' o' tk' W' hd' => ?_
  exact ⟨rfl, k _ _ _ _ W' hd'⟩
end
end Mine
end

section
open PySem PySem.W PyProof.Rows PySem.Calls
set_option Elab.async false
set_option maxRecDepth 100000
namespace Mine
section
variable {prog : Program} {w : World} {A : Around} {E : Value → Shared → Prop} {gs : Array GenState} {dr : Drawn} {os : OsState} {tk : Tok}
  {b₀ h h' : Heap} {L d l : Addr} {m : Str → Option Value} {led : List (Addr × Obj)} {env : Env}
theorem rDict2s {a b : Str} {ka kb : Nat} {pa pb pos : Pos} {v1 v2 : Expr} {Q : Value → Shared → Prop} (hn : [a, b].Nodup) (W : Fx b₀ h L m led)
    (hb : ∀ D h₁ tk₁, Fx b₀ h₁ L m ((D, dictOf [] 0) :: led) → wpAny (model prog w) A (eval v1 env) (fun x1 s₁ => ∀ tka, wpAny (model prog w) A (eval v2 env) (fun x2 s₂ =>
      ∃ (h₂ : Heap) (tk₂ : Nat) (m₂ : Str → Option Value) (led₂ : List (Addr × Obj)) (led' : Obj → List (Addr × Obj)), s₂ = ⟨h₂, gs, dr, tk₂, os⟩ ∧ Fx b₀ h₂ L m₂ led₂ ∧ (∀ o', Pt D (dictOf [] 0) o' led₂ (led' o')) ∧
        ∀ (h' : Heap) (o' : Obj) (tk' : Nat), Fx b₀ h' L m₂ (led' o') → o'.IsDictOf (PySem.strKind prog w) [(a, x1), (b, x2)] → Q (.ref D) ⟨h', gs, dr, tk', os⟩) E { s₁ with toks := tka }) E ⟨h₁, gs, dr, tk₁, os⟩) :
    wpAny (model prog w) A (eval (.Dict [some (.Constant (.str a) ka pa), some (.Constant (.str b) kb pb)] [v1, v2] pos) env) Q E ⟨h, gs, dr, tk, os⟩ := by
  have W₁ := W.push { cls := .type "dict", data := .dict #[] }
  refine Dict_made (knd := PySem.strKind prog w) (s := ⟨h, gs, dr, tk, os⟩) W.F rfl rfl (by simp) (by simp) fun _ => ?_
  refine evalPairs_cons (rStr fun t1 tk1 => ?_)
  refine wpAny_bind (wpAny_mono (hb _ _ _ W₁) (fun x1 s₁ hx => ?_) fun _ _ e => e)
  refine wpAny_bind (wpAny_standAt (wpAny_pure ?_))
  refine evalPairs_cons (Calls.Constant_str ?_)
  refine wpAny_bind (wpAny_mono (hx _) (fun x2 s₂ hy => ?_) fun _ _ e => e)
  refine wpAny_bind (wpAny_standAt (wpAny_pure ?_))
  refine evalPairs_nil ?_
  obtain ⟨h₂, tk₂, m₂, led₂, led', rfl, W₂, p, k⟩ := hy
  refine display_done_str (by rfl) ?_ ?_ fun h' hD hs => ?_
  · exact hn
  · exact Heap.dictOf_iff.mpr ⟨_, W₂.C.own _ (p (dictOf [] 0)).mem, isDict0 _⟩
  · obtain ⟨o', ho', hd'⟩ := Heap.dictOf_iff.mp hD
    exact k h' o' _ (W₂.put (p o') hs ho') hd'

/-- a slice up to a number, of a list that stands in the base -/
theorem rSliceTo {l : Addr} {vs : List Value} {ns : List Int} {x : Str} {xp p pos kp : Pos} {y : Int} {kk : Nat} {Q : Value → Shared → Prop} (W : Fx b₀ h L m led) (hv : m x = some (.ref l)) (hl : b₀.IsList l vs.toArray) (hI : IntsAre vs ns) (hsz : vs.length ≤ 1000) (hy : 0 ≤ y)
    (k : ∀ S h' tk' vs', IntsAre vs' (ns.take y.toNat) → Fx b₀ h' L m ((S, listOf vs'.toArray 0) :: led) → Q (.ref S) ⟨h', gs, dr, tk', os⟩) (hL : env.locals = L)
    (hk : env.scope.kind = .function := by rfl) (hx : env.kindOf x = some .local := by rfl) (hd : (x == ("__debug__" : Str)) = false := by decide) :
    wpAny (model prog w) A (eval (.Subscript (.Name x xp) (.Slice none (some (.Constant (.int y) kk kp)) none p) pos) env) Q E ⟨h, gs, dr, tk, os⟩ := by
  refine wpAny_Subscript_list_slice ?_ (by intros; rfl)
  refine rLoc W hv ?_ hL hk hx hd
  refine wpAny_of_eq (evalPart_none env) ?_
  rw [evalPart_some]
  refine rInt fun t tk' => ?_
  have hh : h.IsList l vs.toArray := by obtain ⟨o, ho, r⟩ := hl; exact ⟨o, W.C.stays _ _ ho, r⟩
  refine ⟨l, vs.toArray, none, some y, rfl, hh, by rw [List.size_toArray]; show vs.length ≤ 16777216; omega, .none, .int _ _, ?_⟩
  have W2 := (W.push { cls := .type "slice", data := .fields #[.none, .int y t, .none] }).push { cls := .type "list", data := .seq (slicePick vs.toArray none (some y) none) }
  rw [Heap.size_push] at W2
  refine k _ _ _ (slicePick vs.toArray none (some y) none).toList (slice_ints_uptoW hI hy) ?_
  exact W2.sub (.cons_cons _ (.cons _ (List.Sublist.refl _)))
end
end Mine
end

section
open PySem PySem.W PyProof.Rows PySem.Calls
set_option Elab.async false
set_option maxRecDepth 100000
namespace Mine
section
variable {prog : Program} {w : World} {A : Around} {E : Value → Shared → Prop} {gs : Array GenState} {dr : Drawn} {os : OsState} {tk : Tok}
  {b₀ h : Heap} {L : Addr} {m : Str → Option Value} {led : List (Addr × Obj)} {env : Env} {body : List Stmt} {R : Result → Shared → Prop} {x : Str} {xp : Pos}
theorem for_range {r : Addr} {n : Nat} {t u v : Tok} (hh : A.handled = none) (W : Fx b₀ h env.locals m led) (hm : (r, rangeO n t u v) ∈ led) (hn : n ≤ 1000)
    (J : Nat → (Str → Option Value) → List (Addr × Obj) → Prop) (h0 : J 0 m led)
    (step : ∀ i v m₁ led₁, (i < n ∧ ∃ t, v = .int i t) → J i m₁ led₁ → Turn prog w A b₀ env x body gs dr os R (J (i + 1)) v m₁ led₁)
    (hR : ∀ h' tk' m' led', Fx b₀ h' env.locals m' led' → J n m' led' → R (.ok .next) ⟨h', gs, dr, tk', os⟩)
    (hx : env.kindOf x = some .local := by rfl) (hp : (env.scope.kind == .class || (env.scope.kind == .module && env.locals != env.globals)) = false := by rfl) :
    wpAny (model prog w) A (pyIter (.ref r)) (fun it s₂ => codeAny (model prog w) A (.forLoop (.Name x xp) it body [] env) R s₂) E ⟨h, gs, dr, tk, os⟩ := by
  refine itr_range (x := x) (xp := xp) hh W hm (by omega) fun h₂ i0 it T => ?_
  exact itr_for T J h0 (fun i m led j p hp => nomatch hp) (fun i v m₁ led₁ h₁ tk₁ its₁ E' _ hv j e W' => turn_step hx hp (step i v m₁ led₁ hv j) e W') hR
theorem Carry.snoc {pn : List Nat} {pv : List Value} {n : Nat} {t : Tok} (h : Carry NatV pn pv) : Carry NatV (pn ++ [n]) (pv ++ [.int (n : Int) t]) := by
  refine ⟨by simp [h.1], fun i x v h1 h2 => ?_⟩
  rcases get_append_one h1 with a | ⟨rfl, rfl⟩
  · have hi := (List.getElem?_eq_some_iff.mp a).1
    rw [List.getElem?_append_left (by rw [h.1]; exact hi)] at h2
    exact h.2 i x v a h2
  · rw [List.getElem?_append_right (by rw [h.1]; exact Nat.le_refl _), h.1] at h2
    simp at h2
    exact ⟨t, h2.symm⟩
end
end Mine
end

section
open PySem PySem.W PyProof.Rows PySem.Calls
set_option Elab.async false
set_option maxRecDepth 100000
set_option maxHeartbeats 8000000
namespace Mine
section
local macro_rules | `(tactic| o_head $_) => `(tactic| assumption)
theorem kk (h : PySem.Challenge.rw_rg0210_02.row.Holds) : PySem.Challenge.rw_rg0210_02.row.Holds := by k_head
end
abbrev prg : Program := PySem.Challenge.rw_rg0210_02.row.prog
structure Bs (w : World) (b₀ : Heap) (mean : ExcName → Option Value) (mg mb : Str → Option Value) : Prop where
  X : (kk.heap_1 w.params).In b₀
  T : Tp mg mb b₀
end Mine
end

section
open PySem PySem.W PyProof.Rows PySem.Calls PySem.SeqAt
set_option maxRecDepth 100000
set_option maxHeartbeats 8000000
set_option linter.unusedVariables false
set_option compiler.extract_closed false
namespace Mine
local macro_rules | `(tactic| walk_at "v_enter") => `(tactic| (refine' enter (args := ⟨_, _⟩) ?kX ?kT ?kW ?ho ?hcd ?hr ?hb ?hbl ?hl ?_ ?c1 ?c2 ?c3 ?c4; (case kX => exact Bs.X (by assumption)); (case kT => exact Tp.nolimit (Bs.T (by assumption))); (case kW => assumption); (case ho => k_is); (case hcd => k_is); (case hr => exact Rm.room (by assumption)); (case hb => exact BindsTo.of_eq rfl); (case hbl => simp only [List.map_cons, List.map_nil, List.zip_cons_cons, List.zip_nil_left, List.zip_nil_right]; exact rfl); (case hl => exact locs rfl); (case c1 => exact rfl); (case c2 => exact rfl); (case c3 => exact rfl); (case c4 => decide)))
local macro_rules | `(tactic| walk_at "v_mem") => `(tactic| first | exact List.Mem.head _ | assumption | (apply List.mem_append_left; assumption) | (apply List.mem_append_right; walk_at "v_mem") | (apply List.Mem.tail; walk_at "v_mem"))
local macro_rules | `(tactic| walk_at "v_loc") => `(tactic| (refine' rLoc ?W ?v ?_ ?l ?a ?b ?d; (case W => assumption); (case v => first | exact rfl | assumption); (case l => exact rfl); (case a => exact rfl); (case b => exact rfl); (case d => decide)))
local macro_rules | `(tactic| walk_at "v_glob") => `(tactic| (refine' rGlob ?W ?X ?T ?e ?_ ?l ?a ?b ?d; (case W => assumption); (case X => exact Bs.X (by assumption)); (case T => exact Bs.T (by assumption)); (case e => k_is); (case l => exact rfl); (case a => exact rfl); (case b => exact rfl); (case d => decide)))
local macro_rules | `(tactic| walk_at "v_boot") => `(tactic| (refine' rBoot ?W ?X ?T ?e ?v ?n ?_ ?l ?j ?a ?b ?d; (case W => assumption); (case X => exact Bs.X (by assumption)); (case T => exact Bs.T (by assumption)); (case e => k_is); (case l => exact rfl); (case j => exact rfl); (case a => exact rfl); (case b => exact rfl); (case d => decide); (case v => boot_by_name); (case n => decide)))
local macro_rules | `(tactic| walk_at "v_get") => `(tactic| (refine' rGet ?W ?X ?i ?d ?g ?h ?a ?n ?l ?v ?_; (case W => assumption); (case X => exact Bs.X (by assumption)); (case i => walk_at "v_mem"); (case d => walk_at "v_mem"); (case g => k_is); (case h => k_is); (case a => k_is); (case n => k_is); (case l => k_get); (case v => k_handed); intro _))
local macro_rules | `(tactic| walk_at "v_meth") => `(tactic| (refine' rMeth ?W ?X ?i ?d ?g ?f ?t ?l ?_; (case W => assumption); (case X => exact Bs.X (by assumption)); (case i => walk_at "v_mem"); (case d => walk_at "v_mem"); (case g => k_is); (case f => k_is); (case t => k_is); (case l => k_get)))
local macro_rules | `(tactic| walk_at "v_and") => `(tactic| refine ⟨Frag.In.keeps (Bs.X (by assumption)) (Cx.stays (Fx.C (by assumption))), ?_⟩)
local macro_rules | `(tactic| walk_at "v_cwK") => `(tactic| first
  | (refine' callWith_K ?k1 ?k2 ?_; (case k1 => exact Bs.X (by assumption)); (case k2 => k_is))
  | (refine' callWith_K0 ?k1 ?k2 ?_; (case k1 => exact Frag.In.keeps (Bs.X (by assumption)) (Cx.stays (Fx.C (by assumption)))); (case k2 => k_is)))
local macro_rules | `(tactic| walk_at "v_tup") => `(tactic| (refine' rTup ?W ?_; (case W => assumption); intro _ _ _))
local macro_rules | `(tactic| walk_at "v_lst") => `(tactic| (refine' rList ?W ?_; (case W => assumption); intro _ _ _))
local macro_rules | `(tactic| walk_at "v_cell") => `(tactic| (refine' rCell ?W ?c ?m ?d ?_ ?a ?b ?e; (case W => assumption); (case c => exact rfl); (case m => walk_at "v_mem"); (case d => assumption); (case a => exact rfl); (case b => exact rfl); (case e => decide)))
local macro_rules | `(tactic| walk_at "v_enterC") => `(tactic| (refine' enterC (args := ⟨_, _⟩) ?kX ?kT ?kW ?ho ?hcd ?hr ?hb ?hbl ?hl ?hnd ?_ ?c1 ?c2 ?c3; (case kX => exact Bs.X (by assumption)); (case kT => exact Tp.nolimit (Bs.T (by assumption))); (case kW => assumption); (case ho => k_is); (case hcd => k_is); (case hr => exact Rm.room (by assumption)); (case hb => exact BindsTo.of_eq rfl); (case hbl => simp only [List.map_cons, List.map_nil, List.zip_cons_cons, List.zip_nil_left, List.zip_nil_right]; exact rfl); (case hl => exact rfl); (case hnd => decide); (case c1 => exact rfl); (case c2 => exact rfl); (case c3 => exact rfl)))
local macro_rules | `(tactic| walk_at "v_st") => `(tactic| (refine' rSt ?W ?_ ?l ?a ?b; (case W => assumption); (case l => exact rfl); (case a => exact rfl); (case b => exact rfl); intro _ _ _))
local macro_rules | `(tactic| walk_at "v_unpT") => `(tactic| (refine' rUnpT ?h ?W ?m ?_ ?n; (case h => assumption); (case W => assumption); (case m => walk_at "v_mem"); (case n => exact rfl); intro _ _; (try dsimp only [List.reverse_cons, List.reverse_nil, List.nil_append, List.cons_append])))
local macro_rules | `(tactic| walk_at "v0") => `(tactic| first
  | with_reducible first | refine wpAny_execs_cons ?_ | refine wpAny_execs_nil ?_ | refine wpAny_Return_some ?_ | refine wpAny_If ?_ | refine Subscript_ ?_
  | ((with_reducible show wpAny _ _ (eval (Expr.Call (Expr.Attribute _ _ _) _ [] _) _) _ _ _); refine MethodCall_ ?_)
  | with_reducible refine Attribute_Name_ ?_
  | ((with_reducible show wpAny _ _ (eval (Expr.Attribute _ _ _) _) _ _ _); refine Attribute_any_ ?_)
  | ((with_reducible show wpAny _ _ (eval (Expr.Call (Expr.Name _ _) _ [] _) _) _ _ _); refine Call_ ?_)
  | ((with_reducible show wpAny _ _ (PySem.isTrue (Expr.Compare _ [_] [_] _) _ _) _ _ _); refine wpAny_isTrue_Compare1 ?_)
  | ((with_reducible show wpAny _ _ (eval (Expr.Compare _ [_] [_] _) _) _ _ _); refine wpAny_Compare1 ?_)
  | with_reducible first | refine isTrue_not ?_ | refine PyProof.Rows.isTrue_or ?_ | refine PyProof.Rows.isTrue_and ?_ | refine PyProof.Rows.isTrue_or_nil ?_ | refine PyProof.Rows.isTrue_and_nil ?_
  | ((with_reducible show wpAny _ _ (eval (Expr.BoolOp BoolOp.Or (_ :: _ :: _) _) _) _ _ _); refine BoolOp_or ?_)
  | ((with_reducible show wpAny _ _ (eval (Expr.BoolOp BoolOp.And (_ :: _ :: _) _) _) _ _ _); refine BoolOp_and ?_)
  | ((with_reducible show wpAny _ _ (eval (Expr.BoolOp _ [_] _) _) _ _ _); refine BoolOp_one ?_)
  | ((with_reducible show wpAny _ _ (eval (Expr.UnaryOp _ _ _) _) _ _ _); refine UnaryOp_ ?_)
  | ((with_reducible show wpAny _ _ (PySem.isTrue (Expr.Name _ _) _ _) _ _ _); refine isTrue_plain ?_)
  | ((with_reducible show wpAny _ _ (PySem.isTrue (Expr.Subscript _ _ _) _ _) _ _ _); refine isTrue_plain ?_)
  | ((with_reducible show wpAny _ _ (PySem.isTrue (Expr.Call _ _ _ _) _ _) _ _ _); refine isTrue_plain ?_)
  | with_reducible first | refine Tuple_ ?_ | refine List_ ?_
  | ((with_reducible show wpAny _ _ (spliced (backTo _ (starEach (_ :: _) _))) _ _ _); refine spliced_more ?_)
  | with_reducible first | refine spliced_none ?_ | refine wpAny_BinOp ?_ | refine IfExp_ ?_
  | ((with_reducible show wpAny _ _ (exec (Stmt.Expr _ _) _) _ _ _); refine wpAny_Expr_any ?_)
  | ((with_reducible show wpAny _ _ (exec (Stmt.Assign [Expr.Name _ _] _ _) _) _ _ _); refine wpAny_Assign_Name ?_)
  | ((with_reducible show wpAny _ _ (exec (Stmt.Assign [Expr.Tuple _ _ _] _ _) _) _ _ _); first | refine assign_sw2 ?_ | refine assign_sw3 ?_ | refine Assign_Tuple ?_)
  | ((with_reducible show wpAny _ _ (assignInOrder _ _) _ _ _); first | refine aio_bind ?_ | refine aio_name ?_ | refine aio_nil ?_)
  | ((with_reducible show wpAny _ _ (exec (Stmt.Assign [Expr.Subscript _ _ _] _ _) _) _ _ _); refine wpAny_Assign_Subscript ?_ ?_; rotate_left; with_unfolding_all rfl)
  | ((with_reducible show wpAny _ _ (exec (Stmt.Assign [Expr.Attribute _ _ _] _ _) _) _ _ _); refine plainObj_wpAny_Assign_Attribute ?_ ?_; rotate_left; with_unfolding_all rfl)
  | with_reducible first | refine wpAny_truthy_bool ?_ | refine PyProof.Rows.not_of ?_ | refine eq_int ?_ | refine ne_int ?_ | refine eq_str ?_ | refine call_int_bool ?_ | refine PyProof.Rows.ne_bool ?_ | refine PyProof.Rows.eq_bool ?_ | refine PySem.P.lt_int ?_ | refine PySem.P.le_int ?_ | refine PySem.P.gt_int ?_ | refine PySem.P.ge_int ?_ | refine PySem.P.add_int ?_ | refine PySem.P.sub_int ?_
  | ((with_reducible show wpAny _ _ (binaryOp .Mult (Value.int _ _) (Value.int _ _)) _ _ _); refine PySem.P.mul_int ?_ (by first | exact IntMulOk.of_right (PySem.intBits_le_64 (by omega) (by omega)) | exact IntMulOk.of_left (PySem.intBits_le_64 (by omega) (by omega)) | assumption))
  | ((with_reducible show wpAny _ _ (binaryOp .Mod (Value.int _ _) (Value.int _ _)) _ _ _); refine mod_int' (by first | decide | omega) ?_)
  | with_reducible refine Constant_bool ?_
  | (with_reducible refine rInt ?_; intro _ _)
  | (with_reducible refine rStr ?_; intro _ _)
  | ((with_reducible show wpAny _ _ (callWith _ (Value.builtin _) _ _ _) _ _ _); first | refine PyProof.Rows.callWith_builtin1 ?_ | refine callWith_method1 ?_ | refine callWith_method0 ?_)
  | ((with_reducible show wpAny _ _ (callWith _ (Value.type _) _ _ _) _ _ _); refine PyProof.Rows.callWith_type1 ?_)
  | ((with_reducible show wpAny _ _ (eval (Expr.Name _ _) _) _ _ _); first | walk_at "v_loc" | walk_at "v_glob" | walk_at "v_boot" | walk_at "v_cell")
  | ((with_reducible show wpAny _ _ (getAttr (Value.ref _) _ _) _ _ _); walk_at "v_get")
  | ((with_reducible show wpAny _ _ (getMethod (Value.ref _) _ _) _ _ _); walk_at "v_meth")
  | ((with_reducible show wpAny _ _ (callWith _ (Value.ref _) _ _ _) _ _ _); walk_at "v_cwK")
  | ((with_reducible show wpAny _ _ (newTuple _) _ _ _); walk_at "v_tup")
  | ((with_reducible show wpAny _ _ (newList _) _ _ _); walk_at "v_lst")
  | ((with_reducible show wpAny _ _ (storeName _ _ _) _ _ _); walk_at "v_st")
  | ((with_reducible show Frag.In _ _ ∧ _); walk_at "v_and"))
local macro_rules | `(tactic| walk_at "v_asg") => `(tactic| (refine' rAsg ?W ?_ ?l ?a ?b; (case W => assumption); (case l => exact rfl); (case a => exact rfl); (case b => exact rfl); intro _ _ _))
local macro_rules | `(tactic| walk_at "v_elt") => `(tactic| (refine no_ifs ?_; rw [if_pos rfl]))
local macro_rules | `(tactic| walk_at "v_drop") => `(tactic| (repeat (first | exact List.Sublist.refl _ | refine List.Sublist.cons _ ?_)))
local macro_rules | `(tactic| walk_at "v") => `(tactic| (walk_at "v0"; (try dsimp only [List.cons_append, List.nil_append])))
local macro_rules | `(tactic| walk_at "vv") => `(tactic| repeat walk_at "v")
local macro_rules | `(tactic| walk_at "v_pt") => `(tactic| (repeat (first | exact Pt.head | apply Pt.app | apply Pt.tail)))
local macro_rules | `(tactic| walk_at "v_appm") => `(tactic| (refine' rMethAppend ?W ?m ?_; (case W => assumption); (case m => walk_at "v_mem")))
local macro_rules | `(tactic| walk_at "v_b") => `(tactic| first | decide | exact Nat.lt_succ_self _ | exact Nat.le_trans (by assumption) (by decide) | exact roomy (by assumption) (by assumption) (by decide) | omega)
local macro_rules | `(tactic| walk_at "v_set") => `(tactic| (refine' rSetA ?W ?X ?i ?d ?s ?p ?t ?h ?l ?e ?pt ?z ?_; (case W => assumption); (case X => exact Bs.X (by assumption)); (case i => walk_at "v_mem"); (case d => walk_at "v_mem"); (case s => k_is); (case p => k_is); (case t => k_is); (case h => k_is); (case l => k_get); (case e => k_put); (case pt => walk_at "v_pt"); (case z => exact Nat.le_of_ble_eq_true rfl); intro _ _))
local macro_rules | `(tactic| walk_at "v_enterK") => `(tactic| (refine' enterK (args := ⟨_, _⟩) ?kX ?kT ?kW ?ho ?hcd ?hr ?hb ?hbl ?hl ?_ ?c1 ?c2 ?c3 ?c4; (case kX => exact Bs.X (by assumption)); (case kT => exact Tp.nolimit (Bs.T (by assumption))); (case kW => assumption); (case ho => k_is); (case hcd => k_is); (case hr => exact Rm.room (by assumption)); (case hb => exact BindsTo.of_eq rfl); (case hbl => simp only [List.map_cons, List.map_nil, List.zip_cons_cons, List.zip_nil_left, List.zip_nil_right]; exact rfl); (case hl => exact locs rfl); (case c1 => exact rfl); (case c2 => exact rfl); (case c3 => exact rfl); (case c4 => decide)))
section
theorem lt_of_get {α : Type} {B : List α} {i : Nat} {t : α} (h : B[i]? = some t) : i < B.length := (List.getElem?_eq_some_iff.mp h).1
section
variable {w : World} {A : Around} {E : Value → Shared → Prop} {gs : Array GenState} {dr : Drawn} {os : OsState} {tk : Tok}
  {b₀ h : Heap} {L : Addr} {m mg mb : Str → Option Value} {mean : ExcName → Option Value} {pre : List (Addr × Obj)} {α : BA} {σ : BC} {B : List Tm} {Q : Value → Shared → Prop}

theorem op_c {i : Nat} {t : Tm} {ti : Tok} (G : Bs w b₀ mean mg mb) (r : Rm A 1) (W : Fx b₀ h L m (pre ++ bankLed w.params 388 α σ)) (O : Ok prg w σ B) (hi : B[i]? = some t) (hb : B.length ≤ 16000000)
    (k : ∀ h' tk' to, Fx b₀ h' L m (pre ++ bankLed w.params 388 α σ) → Q (.str t.op.str to) ⟨h', gs, dr, tk', os⟩) :
    wpAny (model prg w) A (call (.ref 175) [.ref α.self, .int i ti]) Q E ⟨h, gs, dr, tk, os⟩ := by
  walk_at "v_enter"
  intro oL L' h₁ tk₁ W
  walk_at "vv"
  obtain ⟨to, hv⟩ := O.op i t hi
  refine rItemL W (by walk_at "v_mem") hv (by have := lt_of_get hi; walk_at "v_b") ?_
  exact back_ W fun W => k _ _ _ W

theorem args_c {i : Nat} {t : Tm} {ti : Tok} (G : Bs w b₀ mean mg mb) (r : Rm A 1) (W : Fx b₀ h L m (pre ++ bankLed w.params 388 α σ)) (O : Ok prg w σ B) (hi : B[i]? = some t) (hb : B.length ≤ 16000000)
    (k : ∀ h' tk' a, IsArgs σ.tups a t.args → Fx b₀ h' L m (pre ++ bankLed w.params 388 α σ) → Q (.ref a) ⟨h', gs, dr, tk', os⟩) :
    wpAny (model prg w) A (call (.ref 182) [.ref α.self, .int i ti]) Q E ⟨h, gs, dr, tk, os⟩ := by
  walk_at "v_enter"
  intro oL L' h₁ tk₁ W
  walk_at "vv"
  obtain ⟨a, hv, ha⟩ := O.ar i t hi
  refine rItemL W (by walk_at "v_mem") hv (by have := lt_of_get hi; walk_at "v_b") ?_
  exact back_ W fun W => k _ _ _ ha W

theorem want_c {i : Nat} {t : Tm} {ti ts tx : Tok} {x : Str} (G : Bs w b₀ mean mg mb) (r : Rm A 1) (W : Fx b₀ h L m (pre ++ bankLed w.params 388 α σ)) (O : Ok prg w σ B) (hi : B[i]? = some t) (hb : B.length ≤ 16000000)
    (k : ∀ h' tk', Fx b₀ h' L m (pre ++ bankLed w.params 388 α σ) → Q .none ⟨h', gs, dr, tk', os⟩) :
    wpAny (model prg w) A (call (.ref 238) [.ref α.self, .int i ti, .int 0 ts, .str x tx]) Q E ⟨h, gs, dr, tk, os⟩ := by
  walk_at "v_enter"
  intro oL L' h₁ tk₁ W
  walk_at "vv"
  obtain ⟨to, hv⟩ := O.so i t hi
  refine rItemL W (by walk_at "v_mem") hv (by have := lt_of_get hi; walk_at "v_b") ?_
  walk_at "vv"
  rw [if_neg (by decide)]
  walk_at "vv"
  exact back_ W fun W => k _ _ W

theorem tups_in {l : List (Addr × Obj)} {C : Addr} {P : Params} {p : Addr × Obj} (hp : p ∈ σ.tups) : p ∈ l ++ bankLed P C α σ :=
  List.mem_append_right _ (.tail _ (.tail _ (.tail _ (.tail _ (.tail _ (.tail _ (.tail _ (.tail _ (.tail _ (.tail _ hp))))))))))

section
variable (P : Params) (C : Addr)
abbrev bankEsT (α : BA) (tl : List DictEntry) : List DictEntry :=
  ent P "sort_names" (α.t 0) (.ref α.sn) :: ent P "sort_widths" (α.t 1) (.ref α.sw) :: ent P "fun_names" (α.t 2) (.ref α.fn) :: ent P "fun_args" (α.t 3) (.ref α.fa) :: ent P "fun_results" (α.t 4) (.ref α.fr) ::
  ent P "fresh_count" (α.t 5) (.int 0 (α.t 6)) :: ent P "term_ops" (α.t 7) (.ref α.op) :: ent P "term_args" (α.t 8) (.ref α.ar) :: ent P "term_sorts" (α.t 9) (.ref α.so) :: ent P "term_datas" (α.t 10) (.ref α.da) ::
  ent P "numbers" (α.t 11) (.ref α.nu) :: tl
abbrev bankLedT (α : BA) (σ : BC) (tl : List DictEntry) : List (Addr × Obj) :=
  (α.self, instObj C α.d) :: (α.d, dictOf (bankEsT P α tl) α.n) :: (α.fn, listOf σ.fnV (σ.k 0)) :: (α.fa, listOf σ.faV (σ.k 1)) :: (α.fr, listOf σ.frV (σ.k 2)) ::
  (α.op, listOf σ.opV (σ.k 3)) :: (α.ar, listOf σ.arV (σ.k 4)) :: (α.so, listOf σ.soV (σ.k 5)) :: (α.da, listOf σ.daV (σ.k 6)) :: (α.nu, dictOf σ.nuV (σ.k 7)) :: σ.tups
end
theorem getT_nu {P : Params} {α : BA} {tl : List DictEntry} : getL "numbers" (bankEsT P α tl) = some (some (.ref α.nu)) := by kernel_rfl
theorem getT_op {P : Params} {α : BA} {tl : List DictEntry} : getL "term_ops" (bankEsT P α tl) = some (some (.ref α.op)) := by kernel_rfl
theorem getT_ar {P : Params} {α : BA} {tl : List DictEntry} : getL "term_args" (bankEsT P α tl) = some (some (.ref α.ar)) := by kernel_rfl
theorem getT_so {P : Params} {α : BA} {tl : List DictEntry} : getL "term_sorts" (bankEsT P α tl) = some (some (.ref α.so)) := by kernel_rfl
theorem getT_da {P : Params} {α : BA} {tl : List DictEntry} : getL "term_datas" (bankEsT P α tl) = some (some (.ref α.da)) := by kernel_rfl
theorem tups_inT {σ : BC} {α : BA} {tl : List DictEntry} {l : List (Addr × Obj)} {C : Addr} {P : Params} {p : Addr × Obj} (hp : p ∈ σ.tups) : p ∈ l ++ bankLedT P C α σ tl :=
  List.mem_append_right _ (.tail _ (.tail _ (.tail _ (.tail _ (.tail _ (.tail _ (.tail _ (.tail _ (.tail _ (.tail _ hp))))))))))
local macro_rules | `(tactic| walk_at "v_get") => `(tactic| (refine' rGet ?W ?X ?i ?d ?g ?h ?a ?n ?l ?v ?_; (case W => assumption); (case X => exact Bs.X (by assumption)); (case i => walk_at "v_mem"); (case d => walk_at "v_mem"); (case g => k_is); (case h => k_is); (case a => k_is); (case n => k_is); (case l => first | k_get | exact getT_nu | exact getT_op | exact getT_ar | exact getT_so | exact getT_da); (case v => k_handed); intro _))
theorem make_g {tl : List DictEntry} {t : Tm} {to ts td : Tok} {a : Addr} (G : Bs w b₀ mean mg mb) (r : Rm A 2) (W : Fx b₀ h L m (pre ++ bankLedT w.params 388 α σ tl)) (O : Ok prg w σ B) (hop : t.op ≠ .nil) (ha : IsArgs σ.tups a t.args) (hb : B.length ≤ 16000000)
    (k : ∀ h' tk' σ' tn, Ok prg w σ' (mk B t).2 → (σ'.fnV = σ.fnV ∧ σ'.faV = σ.faV ∧ σ'.frV = σ.frV) → Fx b₀ h' L m (pre ++ bankLedT w.params 388 α σ' tl) → Q (.int (mk B t).1 tn) ⟨h', gs, dr, tk', os⟩) :
    wpAny (model prg w) A (call (.ref 217) [.ref α.self, .str t.op.str to, .ref a, .int 0 ts, .int t.data td]) Q E ⟨h, gs, dr, tk, os⟩ := by
  walk_at "v_enter"
  intro oL L' h₁ tk₁ W
  walk_at "vv"
  refine rMethGet (by assumption) (by walk_at "v_mem") ?_
  walk_at "vv"
  rename_i key h₂ W₂ h₃ tk₃ W tk₄ tz tk₅
  obtain ⟨xs, e1, hks, hnd, hlen, h2, h3, h4⟩ := O.keys W.C (fun p hp => List.Mem.tail _ (List.Mem.tail _ (tups_inT hp)))
  have hmK : (key, tupO [.str t.op.str to, .ref a, .int 0 ts, .int t.data td]) ∈ (key, tupO [.str t.op.str to, .ref a, .int 0 ts, .int t.data td]) :: σ.tups := .head _
  have hK : IsKT prg w h₃ t.key key := IsKey.key (k := t) ⟨to, a, ts, td, hmK, ha.mono fun p hp => .tail _ hp⟩ W.C
    fun p hp => by rcases List.mem_cons.mp hp with rfl | hp; exact .head _; exact .tail _ (.tail _ (tups_inT hp))
  have hnu : (α.nu, dictOf (xs.map (entryOfKey (ktKind prg w))) (σ.k 7)) ∈ bankLedT w.params 388 α σ tl := by rw [← e1]; walk_at "v_mem"
  refine rGetKT (by have := r.un; show A.units + 3 + 2 < 9900; omega) G.T.nolimit W (List.Mem.tail _ (List.Mem.tail _ (List.mem_append_right _ hnu))) hks hnd hK ?_
  intro tk₆
  by_cases ht : t ∈ B
  · obtain ⟨j, hj, hidx, hB⟩ := O.idx ht hop
    obtain ⟨tn, he⟩ := atKey_in h2 hnd h3 hj
    rw [he, Option.getD_some]
    walk_at "vv"
    rw [if_neg (by simp only [beq_iff_eq]; omega)]
    walk_at "vv"
    refine backD [_] (by assumption) fun W => ?_
    have em : mk B t = (B.idxOf t, B) := if_pos ht
    rw [em] at k
    rw [hidx] at k
    exact k _ _ σ tn O ⟨rfl, rfl, rfl⟩ W
  · have hout : atKey xs t.key = none := atKey_out h2 fun h => ht (List.mem_of_mem_tail h)
    rw [hout, Option.map_none, Option.getD_none]
    walk_at "vv"
    rw [if_pos (by decide)]
    walk_at "vv"
    refine rLenL (by assumption) (by walk_at "v_mem") (by have := O.nop; walk_at "v_b") ?_
    intro tn tk₇
    walk_at "vv"
    walk_at "v_appm"
    walk_at "vv"
    refine rAppend (by assumption) (by walk_at "v_pt") (by have := O.nop; walk_at "v_b") ?_
    intro h₄ W₄
    walk_at "vv"
    walk_at "v_appm"
    walk_at "vv"
    refine rAppend (by assumption) (by walk_at "v_pt") (by have := O.nar; walk_at "v_b") ?_
    intro h₅ W₅
    walk_at "vv"
    walk_at "v_appm"
    walk_at "vv"
    refine rAppend (by assumption) (by walk_at "v_pt") (by have := O.nso; walk_at "v_b") ?_
    intro h₆ W₆
    walk_at "vv"
    walk_at "v_appm"
    walk_at "vv"
    refine rAppend (by assumption) (by walk_at "v_pt") (by have := O.nda; walk_at "v_b") ?_
    intro h₇ W₇
    walk_at "vv"
    rw [e1] at W₇
    have hks' : ∀ x ∈ xs, IsKT prg w h₇ x.1 x.2.1 := fun x hx => by
      obtain ⟨t', e, hk⟩ := h4 x hx
      rw [e]; exact hk.key W₇.C (fun p hp => by walk_at "v_mem")
    have hK' : IsKT prg w h₇ t.key key := IsKey.key (k := t) ⟨to, a, ts, td, hmK, ha.mono fun p hp => .tail _ hp⟩ W₇.C
      fun p hp => by rcases List.mem_cons.mp hp with rfl | hp <;> walk_at "v_mem"
    refine rSetKT (n := σ.k 7) (by have := r.un; show A.units + 3 + 2 < 9900; omega) W₇ (fun n' => by walk_at "v_pt") hks' hnd hK' (by walk_at "v_b") ?_
    intro h₈ n₈ tk₈ W₈
    walk_at "vv"
    let σ' : BC := ⟨σ.fnV, σ.faV, σ.frV, σ.opV.push (.str t.op.str to), σ.arV.push (.ref a), σ.soV.push (.int 0 ts), σ.daV.push (.int t.data td), (storedH xs t.key key (.int (B.length : Int) tn)).map (entryOfKey (ktKind prg w)),
      fun i => if i = 0 then σ.k 0 else if i = 1 then σ.k 1 else if i = 2 then σ.k 2 else if i = 3 then σ.k 3 + 1 else if i = 4 then σ.k 4 + 1 else if i = 5 then σ.k 5 + 1 else if i = 6 then σ.k 6 + 1 else n₈, (key, tupO [.str t.op.str to, .ref a, .int 0 ts, .int t.data td]) :: σ.tups⟩
    have em : mk B t = (B.length, B ++ [t]) := if_neg ht
    rw [em] at k
    have hsz := O.nop
    rw [hsz] at W₈
    have W₉ : Fx b₀ h₈ L' _ ((L, oL) :: (pre ++ bankLedT w.params 388 α σ' tl)) := W₈.perm (absorb_perm ((L, oL) :: pre) [_, _, _, _, _, _, _, _, _, _] σ.tups _)
    rw [hsz]
    refine back_ W₉ fun W => k _ _ σ' tn (O.push ht hop rfl rfl rfl rfl (fun p hp => .tail _ hp) (ha.mono fun p hp => .tail _ hp) ⟨to, a, ts, td, .head _, ha.mono fun p hp => .tail _ hp⟩ e1 hlen h2 h3 h4 rfl) ⟨rfl, rfl, rfl⟩ W

theorem make_c2 {t : Tm} {to ts td : Tok} {a : Addr} (G : Bs w b₀ mean mg mb) (r : Rm A 2) (W : Fx b₀ h L m (pre ++ bankLed w.params 388 α σ)) (O : Ok prg w σ B) (hop : t.op ≠ .nil) (ha : IsArgs σ.tups a t.args) (hb : B.length ≤ 16000000)
    (k : ∀ h' tk' σ' tn, Ok prg w σ' (mk B t).2 → (σ'.fnV = σ.fnV ∧ σ'.faV = σ.faV ∧ σ'.frV = σ.frV) → Fx b₀ h' L m (pre ++ bankLed w.params 388 α σ') → Q (.int (mk B t).1 tn) ⟨h', gs, dr, tk', os⟩) :
    wpAny (model prg w) A (call (.ref 217) [.ref α.self, .str t.op.str to, .ref a, .int 0 ts, .int t.data td]) Q E ⟨h, gs, dr, tk, os⟩ :=
  make_g (tl := [ent w.params "true_number" (α.t 12) (.int 1 (α.t 13)), ent w.params "false_number" (α.t 14) (.int 2 (α.t 15))]) G r W O hop ha hb k
theorem make_c {t : Tm} {to ts td : Tok} {a : Addr} (G : Bs w b₀ mean mg mb) (r : Rm A 2) (W : Fx b₀ h L m (pre ++ bankLed w.params 388 α σ)) (O : Ok prg w σ B) (hop : t.op ≠ .nil) (ha : IsArgs σ.tups a t.args) (hb : B.length ≤ 16000000)
    (k : ∀ h' tk' σ' tn, Ok prg w σ' (mk B t).2 → Fx b₀ h' L m (pre ++ bankLed w.params 388 α σ') → Q (.int (mk B t).1 tn) ⟨h', gs, dr, tk', os⟩) :
    wpAny (model prg w) A (call (.ref 217) [.ref α.self, .str t.op.str to, .ref a, .int 0 ts, .int t.data td]) Q E ⟨h, gs, dr, tk, os⟩ :=
  make_c2 G r W O hop ha hb fun h' tk' σ' tn O' _ W' => k h' tk' σ' tn O' W'

end
end
section
section
variable {w : World} {A : Around} {E : Value → Shared → Prop} {gs : Array GenState} {dr : Drawn} {os : OsState} {tk : Tok}
  {b₀ h : Heap} {L : Addr} {m mg mb : Str → Option Value} {mean : ExcName → Option Value} {pre : List (Addr × Obj)} {α : BA} {σ : BC} {B : List Tm} {Q : Value → Shared → Prop}

theorem want_all_c {a : Addr} {vs : List Value} {l : List Nat} {ts tx : Tok} {x : Str} (G : Bs w b₀ mean mg mb) (r : Rm A 2) (W : Fx b₀ h L m (pre ++ bankLed w.params 388 α σ)) (O : Ok prg w σ B)
    (hm : (a, tupO vs) ∈ pre ++ bankLed w.params 388 α σ) (hi : IntsAre vs (l.map fun n : Nat => (n : Int))) (hl : ∀ i ∈ l, i < B.length) (hb : B.length ≤ 16000000)
    (k : ∀ h' tk', Fx b₀ h' L m (pre ++ bankLed w.params 388 α σ) → Q .none ⟨h', gs, dr, tk', os⟩) :
    wpAny (model prg w) A (call (.ref 245) [.ref α.self, .ref a, .int 0 ts, .str x tx]) Q E ⟨h, gs, dr, tk, os⟩ := by
  walk_at "v_enter"
  intro oL L' h₁ tk₁ W
  walk_at "vv"
  refine wpAny_For ?_
  walk_at "vv"
  refine for_tup r.hh W (.tail _ hm) (fun _ m' led' => led' = (L, oL) :: (pre ++ bankLed w.params 388 α σ) ∧ ∃ tv, m' = fun y => if y = Str.ofString "t" then tv else List.lookup y [(Str.ofString "self", Value.ref α.self), (Str.ofString "some", Value.ref a), (Str.ofString "s", Value.int 0 ts), (Str.ofString "where", Value.str x tx)].reverse) ?_ ?_ ?_ ?_
  · exact ⟨rfl, none, upd0 (by rfl)⟩
  · rintro i m' led' ⟨rfl, _⟩
    exact .tail _ hm
  · rintro i v m₁ led₁ hv ⟨rfl, tv, rfl⟩ it h₃ tk₃ E' W
    rw [upd2] at W
    obtain ⟨n, t, rfl, hn⟩ := ints_get hi hv
    rw [List.getElem?_map] at hn
    walk_at "vv"
    obtain ⟨j, hj, rfl⟩ : ∃ j, l[i]? = some j ∧ (j : Int) = n := by
      cases hl' : l[i]? with
      | none => rw [hl'] at hn; cases hn
      | some j => rw [hl'] at hn; exact ⟨j, rfl, by simpa using hn⟩
    have hjB := hl j (List.mem_of_getElem? hj)
    refine want_c (pre := it :: (L, oL) :: pre) G r.deeper W O (List.getElem?_eq_getElem hjB) hb ?_
    intro h₄ tk₄ W
    walk_at "vv"
    exact LpEnd.intro W ⟨rfl, _, rfl⟩
  · rintro h' tk' m' led' W ⟨rfl, _⟩
    walk_at "vv"
    exact back_ W fun W => k _ _ W
end
end
section
section
variable {w : World} {A : Around} {E : Value → Shared → Prop} {gs : Array GenState} {dr : Drawn} {os : OsState} {tk : Tok}
  {b₀ h : Heap} {L : Addr} {m mg mb : Str → Option Value} {mean : ExcName → Option Value} {pre : List (Addr × Obj)} {α : BA} {σ : BC} {B : List Tm} {Q : Value → Shared → Prop}

theorem not_c {t : Nat} {ti : Tok} (G : Bs w b₀ mean mg mb) (r : Rm A 3) (W : Fx b₀ h L m (pre ++ bankLed w.params 388 α σ)) (O : Ok prg w σ B) (ht : t < B.length) (hn : opAt B t = .neg → argsAt B t ≠ []) (hb : B.length ≤ 16000000)
    (k : ∀ h' tk' σ' tn, Ok prg w σ' (notOf B t).2 → Fx b₀ h' L m (pre ++ bankLed w.params 388 α σ') → Q (.int (notOf B t).1 tn) ⟨h', gs, dr, tk', os⟩) :
    wpAny (model prg w) A (call (.ref 301) [.ref α.self, .int t ti]) Q E ⟨h, gs, dr, tk, os⟩ := by
  have hx := List.getElem?_eq_getElem ht
  generalize B[t] = x at hx
  rw [opAt_of hx, argsAt_of hx] at hn
  walk_at "v_enter"
  intro oL L' h₁ tk₁ W
  walk_at "vv"
  refine want_c (pre := (L, oL) :: pre) G (r.deeper.le (by walk_at "v_b")) W O hx hb ?_
  intro h₂ tk₂ W
  walk_at "vv"
  obtain ⟨to, hv⟩ := O.op t x hx
  refine rItemL W (by walk_at "v_mem") hv (by walk_at "v_b") ?_
  walk_at "vv"
  rw [opq_neg]
  by_cases hop : x.op = .neg
  · rw [if_pos (by simpa using hop)]
    walk_at "vv"
    obtain ⟨a, hv, vs, hm, hi⟩ := O.ar t x hx
    refine rItemL W (by walk_at "v_mem") hv (by walk_at "v_b") ?_
    walk_at "vv"
    have hn' := hn hop
    have em : notOf B t = (x.args.headD 0, B) := by unfold notOf; rw [opAt_of hx, argsAt_of hx, if_pos hop]
    rw [em] at k
    cases hxa : x.args with
    | nil => exact absurd hxa hn'
    | cons s0 rest =>
      rw [hxa] at hi k
      cases hi with
      | cons n tn hi =>
        refine rItemT (j := 0) W (.tail _ (tups_in hm)) (by decide) (by decide) (seqIdx (j := 0) (by simp)) rfl ?_
        exact back_ W fun W => k _ _ _ _ O W
  · rw [if_neg (by simpa using hop)]
    walk_at "vv"
    by_cases h1 : t = 1
    · subst h1
      rw [if_pos (by decide)]
      walk_at "vv"
      have em : notOf B 1 = (2, B) := by unfold notOf; rw [opAt_of hx, if_neg hop, if_pos rfl]
      rw [em] at k
      exact back_ W fun W => k _ _ _ _ O W
    rw [if_neg (by simp only [beq_iff_eq]; omega)]
    walk_at "vv"
    by_cases h2 : t = 2
    · subst h2
      rw [if_pos (by decide)]
      walk_at "vv"
      have em : notOf B 2 = (1, B) := by unfold notOf; rw [opAt_of hx, if_neg hop, if_neg (by decide), if_pos rfl]
      rw [em] at k
      exact back_ W fun W => k _ _ _ _ O W
    rw [if_neg (by simp only [beq_iff_eq]; omega)]
    walk_at "vv"
    have em : notOf B t = mk B ⟨.neg, [t], 0⟩ := by unfold notOf; rw [opAt_of hx, if_neg hop, if_neg h1, if_neg h2]
    rw [em] at k
    rename Fx _ _ _ _ _ => W
    refine make_c (pre := (L, oL) :: pre) (t := ⟨.neg, [t], 0⟩) G (r.deeper.le (by walk_at "v_b")) (Fx.absorb (pre := (L, oL) :: pre) W) (O.add _) (fun e => nomatch e) ⟨_, .head _, .cons _ _ .nil⟩ hb ?_
    intro h₃ tk₃ σ' tn O W
    exact back_ W fun W => k _ _ _ _ O W
end
end
section
section
variable {w : World} {A : Around} {E : Value → Shared → Prop} {gs : Array GenState} {dr : Drawn} {os : OsState} {tk : Tok}
  {b₀ h : Heap} {L : Addr} {m mg mb : Str → Option Value} {mean : ExcName → Option Value} {pre : List (Addr × Obj)} {α : BA} {σ : BC} {B : List Tm} {Q : Value → Shared → Prop}

theorem true_c (G : Bs w b₀ mean mg mb) (r : Rm A 1) (W : Fx b₀ h L m (pre ++ bankLed w.params 388 α σ)) (k : ∀ h' tk' tn, Fx b₀ h' L m (pre ++ bankLed w.params 388 α σ) → Q (.int 1 tn) ⟨h', gs, dr, tk', os⟩) :
    wpAny (model prg w) A (call (.ref 252) [.ref α.self]) Q E ⟨h, gs, dr, tk, os⟩ := by
  walk_at "v_enter"
  intro oL L' h₁ tk₁ W
  walk_at "vv"
  exact back_ W fun W => k _ _ _ W
theorem false_c (G : Bs w b₀ mean mg mb) (r : Rm A 1) (W : Fx b₀ h L m (pre ++ bankLed w.params 388 α σ)) (k : ∀ h' tk' tn, Fx b₀ h' L m (pre ++ bankLed w.params 388 α σ) → Q (.int 2 tn) ⟨h', gs, dr, tk', os⟩) :
    wpAny (model prg w) A (call (.ref 259) [.ref α.self]) Q E ⟨h, gs, dr, tk, os⟩ := by
  walk_at "v_enter"
  intro oL L' h₁ tk₁ W
  walk_at "vv"
  exact back_ W fun W => k _ _ _ W

theorem and_c {a : Addr} {l : List Nat} (G : Bs w b₀ mean mg mb) (r : Rm A 4) (W : Fx b₀ h L m (pre ++ bankLed w.params 388 α σ)) (O : Ok prg w σ B) (ha : IsArgs σ.tups a l) (hl : ∀ i ∈ l, i < B.length) (h2 : 2 ≤ l.length) (h3 : l.length ≤ 16000000) (hb : B.length ≤ 16000000)
    (k : ∀ h' tk' σ' tn, Ok prg w σ' (mk B ⟨.con, l, 0⟩).2 → Fx b₀ h' L m (pre ++ bankLed w.params 388 α σ') → Q (.int (mk B ⟨.con, l, 0⟩).1 tn) ⟨h', gs, dr, tk', os⟩) :
    wpAny (model prg w) A (call (.ref 308) [.ref α.self, .ref a]) Q E ⟨h, gs, dr, tk, os⟩ := by
  obtain ⟨vs, hm, hi⟩ := id ha
  have hlen := ints_len hi
  rw [List.length_map] at hlen
  walk_at "v_enter"
  intro oL L' h₁ tk₁ W
  walk_at "vv"
  refine want_all_c (pre := (L, oL) :: pre) G (r.deeper.le (by walk_at "v_b")) W O (.tail _ (tups_in hm)) hi hl hb ?_
  intro h₂ tk₂ W
  walk_at "vv"
  refine rLenT W (.tail _ (tups_in hm)) (by walk_at "v_b") ?_
  intro t₃ tk₃
  walk_at "vv"
  rw [if_neg (by simp only [beq_iff_eq]; omega)]
  walk_at "vv"
  refine rLenT W (.tail _ (tups_in hm)) (by walk_at "v_b") ?_
  intro t₄ tk₄
  walk_at "vv"
  rw [if_neg (by simp only [beq_iff_eq]; omega)]
  walk_at "vv"
  refine call_tuple_tup (isTup_of W.C (.tail _ (tups_in hm))) ?_
  walk_at "vv"
  refine make_c (pre := (L, oL) :: pre) (t := ⟨.con, l, 0⟩) G (r.deeper.le (by walk_at "v_b")) W O (fun e => nomatch e) ha hb ?_
  intro h₅ tk₅ σ' tn O W
  exact back_ W fun W => k _ _ _ _ O W

theorem or_c {a : Addr} {l : List Nat} (G : Bs w b₀ mean mg mb) (r : Rm A 4) (W : Fx b₀ h L m (pre ++ bankLed w.params 388 α σ)) (O : Ok prg w σ B) (ha : IsArgs σ.tups a l) (hl : ∀ i ∈ l, i < B.length) (h2 : 2 ≤ l.length) (h3 : l.length ≤ 16000000) (hb : B.length ≤ 16000000)
    (k : ∀ h' tk' σ' tn, Ok prg w σ' (mk B ⟨.dis, l, 0⟩).2 → Fx b₀ h' L m (pre ++ bankLed w.params 388 α σ') → Q (.int (mk B ⟨.dis, l, 0⟩).1 tn) ⟨h', gs, dr, tk', os⟩) :
    wpAny (model prg w) A (call (.ref 315) [.ref α.self, .ref a]) Q E ⟨h, gs, dr, tk, os⟩ := by
  obtain ⟨vs, hm, hi⟩ := id ha
  have hlen := ints_len hi
  rw [List.length_map] at hlen
  walk_at "v_enter"
  intro oL L' h₁ tk₁ W
  walk_at "vv"
  refine want_all_c (pre := (L, oL) :: pre) G (r.deeper.le (by walk_at "v_b")) W O (.tail _ (tups_in hm)) hi hl hb ?_
  intro h₂ tk₂ W
  walk_at "vv"
  refine rLenT W (.tail _ (tups_in hm)) (by walk_at "v_b") ?_
  intro t₃ tk₃
  walk_at "vv"
  rw [if_neg (by simp only [beq_iff_eq]; omega)]
  walk_at "vv"
  refine rLenT W (.tail _ (tups_in hm)) (by walk_at "v_b") ?_
  intro t₄ tk₄
  walk_at "vv"
  rw [if_neg (by simp only [beq_iff_eq]; omega)]
  walk_at "vv"
  refine call_tuple_tup (isTup_of W.C (.tail _ (tups_in hm))) ?_
  walk_at "vv"
  refine make_c (pre := (L, oL) :: pre) (t := ⟨.dis, l, 0⟩) G (r.deeper.le (by walk_at "v_b")) W O (fun e => nomatch e) ha hb ?_
  intro h₅ tk₅ σ' tn O W
  exact back_ W fun W => k _ _ _ _ O W

theorem pair_ints {a b : Nat} {ta tb : Tok} : IntsAre [.int a ta, .int b tb] ([a, b].map fun n : Nat => (n : Int)) := .cons _ _ (.cons _ _ .nil)

theorem xor_c {a b : Nat} {ta tb : Tok} (G : Bs w b₀ mean mg mb) (r : Rm A 4) (W : Fx b₀ h L m (pre ++ bankLed w.params 388 α σ)) (O : Ok prg w σ B) (ha : a < B.length) (hb' : b < B.length) (hb : B.length ≤ 16000000)
    (k : ∀ h' tk' σ' tn, Ok prg w σ' (mk B ⟨.xr, [a, b], 0⟩).2 → Fx b₀ h' L m (pre ++ bankLed w.params 388 α σ') → Q (.int (mk B ⟨.xr, [a, b], 0⟩).1 tn) ⟨h', gs, dr, tk', os⟩) :
    wpAny (model prg w) A (call (.ref 322) [.ref α.self, .int a ta, .int b tb]) Q E ⟨h, gs, dr, tk, os⟩ := by
  walk_at "v_enter"
  intro oL L' h₁ tk₁ W
  walk_at "vv"
  rename Fx _ _ _ _ _ => W
  refine want_all_c (pre := _ :: (L, oL) :: pre) G (r.deeper.le (by walk_at "v_b")) W O (.head _) pair_ints (by intro i hi; rcases List.mem_cons.mp hi with rfl | hi; exact ha; rw [List.mem_singleton.mp hi]; exact hb') hb ?_
  intro h₂ tk₂ W
  have W := Fx.absorb (pre := (L, oL) :: pre) W
  walk_at "vv"
  rename Fx _ _ _ _ _ => W
  refine make_c (pre := (L, oL) :: pre) (t := ⟨.xr, [a, b], 0⟩) G (r.deeper.le (by walk_at "v_b")) (Fx.absorb (pre := (L, oL) :: pre) W) ((O.add _).add _) (fun e => nomatch e) ⟨_, .head _, pair_ints⟩ hb ?_
  intro h₅ tk₅ σ' tn O W
  exact back_ W fun W => k _ _ _ _ O W

theorem imp_c {a b : Nat} {ta tb : Tok} (G : Bs w b₀ mean mg mb) (r : Rm A 4) (W : Fx b₀ h L m (pre ++ bankLed w.params 388 α σ)) (O : Ok prg w σ B) (ha : a < B.length) (hb' : b < B.length) (hb : B.length ≤ 16000000)
    (k : ∀ h' tk' σ' tn, Ok prg w σ' (mk B ⟨.imp, [a, b], 0⟩).2 → Fx b₀ h' L m (pre ++ bankLed w.params 388 α σ') → Q (.int (mk B ⟨.imp, [a, b], 0⟩).1 tn) ⟨h', gs, dr, tk', os⟩) :
    wpAny (model prg w) A (call (.ref 329) [.ref α.self, .int a ta, .int b tb]) Q E ⟨h, gs, dr, tk, os⟩ := by
  walk_at "v_enter"
  intro oL L' h₁ tk₁ W
  walk_at "vv"
  rename Fx _ _ _ _ _ => W
  refine want_all_c (pre := _ :: (L, oL) :: pre) G (r.deeper.le (by walk_at "v_b")) W O (.head _) pair_ints (by intro i hi; rcases List.mem_cons.mp hi with rfl | hi; exact ha; rw [List.mem_singleton.mp hi]; exact hb') hb ?_
  intro h₂ tk₂ W
  have W := Fx.absorb (pre := (L, oL) :: pre) W
  walk_at "vv"
  rename Fx _ _ _ _ _ => W
  refine make_c (pre := (L, oL) :: pre) (t := ⟨.imp, [a, b], 0⟩) G (r.deeper.le (by walk_at "v_b")) (Fx.absorb (pre := (L, oL) :: pre) W) ((O.add _).add _) (fun e => nomatch e) ⟨_, .head _, pair_ints⟩ hb ?_
  intro h₅ tk₅ σ' tn O W
  exact back_ W fun W => k _ _ _ _ O W

theorem eq_c {a b : Nat} {ta tb : Tok} (G : Bs w b₀ mean mg mb) (r : Rm A 4) (W : Fx b₀ h L m (pre ++ bankLed w.params 388 α σ)) (O : Ok prg w σ B) (ha : a < B.length) (hb' : b < B.length) (hb : B.length ≤ 16000000)
    (k : ∀ h' tk' σ' tn, Ok prg w σ' (eqOf B a b).2 → Fx b₀ h' L m (pre ++ bankLed w.params 388 α σ') → Q (.int (eqOf B a b).1 tn) ⟨h', gs, dr, tk', os⟩) :
    wpAny (model prg w) A (call (.ref 343) [.ref α.self, .int a ta, .int b tb]) Q E ⟨h, gs, dr, tk, os⟩ := by
  walk_at "v_enter"
  intro oL L' h₁ tk₁ W
  walk_at "vv"
  obtain ⟨to, hv⟩ := O.so a _ (List.getElem?_eq_getElem ha)
  refine rItemL W (by walk_at "v_mem") hv (by walk_at "v_b") ?_
  walk_at "vv"
  refine want_c (pre := (L, oL) :: pre) G (r.deeper.le (by walk_at "v_b")) W O (List.getElem?_eq_getElem hb') hb ?_
  intro h₂ tk₂ W
  walk_at "vv"
  by_cases hab : a = b
  · subst hab
    rw [if_pos (by simp)]
    walk_at "vv"
    have em : eqOf B a a = (1, B) := if_pos rfl
    rw [em] at k
    exact back_ W fun W => k _ _ _ _ O W
  rw [if_neg (by simp only [beq_iff_eq]; omega)]
  walk_at "vv"
  refine rMin2 r.hh W ?_
  intro h₃ tk₃ t₃ W
  walk_at "vv"
  refine rMax2 r.hh W ?_
  intro h₄ tk₄ t₄ W
  walk_at "vv"
  have em : eqOf B a b = mk B ⟨.eq, [min a b, max a b], 0⟩ := if_neg hab
  rw [em] at k
  rename Fx _ _ _ _ _ => W
  refine make_c (pre := (L, oL) :: pre) (t := ⟨.eq, [min a b, max a b], 0⟩) G (r.deeper.le (by walk_at "v_b")) (Fx.absorb (pre := (L, oL) :: pre) W) (O.add _) (fun e => nomatch e) ⟨_, .head _, ?_⟩ hb ?_
  · have e1 : (min (a : Int) (b : Int)) = ((min a b : Nat) : Int) := by omega
    have e2 : (max (a : Int) (b : Int)) = ((max a b : Nat) : Int) := by omega
    rw [e1, e2]
    exact pair_ints
  intro h₅ tk₅ σ' tn O W
  exact back_ W fun W => k _ _ _ _ O W

theorem iff_c {a b : Nat} {ta tb : Tok} (G : Bs w b₀ mean mg mb) (r : Rm A 5) (W : Fx b₀ h L m (pre ++ bankLed w.params 388 α σ)) (O : Ok prg w σ B) (ha : a < B.length) (hb' : b < B.length) (hb : B.length ≤ 16000000)
    (k : ∀ h' tk' σ' tn, Ok prg w σ' (eqOf B a b).2 → Fx b₀ h' L m (pre ++ bankLed w.params 388 α σ') → Q (.int (eqOf B a b).1 tn) ⟨h', gs, dr, tk', os⟩) :
    wpAny (model prg w) A (call (.ref 336) [.ref α.self, .int a ta, .int b tb]) Q E ⟨h, gs, dr, tk, os⟩ := by
  walk_at "v_enter"
  intro oL L' h₁ tk₁ W
  walk_at "vv"
  rename Fx _ _ _ _ _ => W
  refine want_all_c (pre := _ :: (L, oL) :: pre) G (r.deeper.le (by walk_at "v_b")) W O (.head _) pair_ints (by intro i hi; rcases List.mem_cons.mp hi with rfl | hi; exact ha; rw [List.mem_singleton.mp hi]; exact hb') hb ?_
  intro h₂ tk₂ W
  have W := Fx.absorb (pre := (L, oL) :: pre) W
  walk_at "vv"
  refine eq_c (pre := (L, oL) :: pre) G (r.deeper.le (by walk_at "v_b")) W (O.add _) ha hb' hb ?_
  intro h₅ tk₅ σ' tn O W
  exact back_ W fun W => k _ _ _ _ O W

theorem ite_c {c a b : Nat} {tc ta tb : Tok} (G : Bs w b₀ mean mg mb) (r : Rm A 4) (W : Fx b₀ h L m (pre ++ bankLed w.params 388 α σ)) (O : Ok prg w σ B) (hc : c < B.length) (ha : a < B.length) (hb' : b < B.length) (hb : B.length ≤ 16000000)
    (k : ∀ h' tk' σ' tn, Ok prg w σ' (mk B ⟨.ite, [c, a, b], 0⟩).2 → Fx b₀ h' L m (pre ++ bankLed w.params 388 α σ') → Q (.int (mk B ⟨.ite, [c, a, b], 0⟩).1 tn) ⟨h', gs, dr, tk', os⟩) :
    wpAny (model prg w) A (call (.ref 357) [.ref α.self, .int c tc, .int a ta, .int b tb]) Q E ⟨h, gs, dr, tk, os⟩ := by
  walk_at "v_enter"
  intro oL L' h₁ tk₁ W
  walk_at "vv"
  refine want_c (pre := (L, oL) :: pre) G (r.deeper.le (by walk_at "v_b")) W O (List.getElem?_eq_getElem hc) hb ?_
  intro h₂ tk₂ W
  walk_at "vv"
  obtain ⟨to, hv⟩ := O.so a _ (List.getElem?_eq_getElem ha)
  refine rItemL W (by walk_at "v_mem") hv (by walk_at "v_b") ?_
  walk_at "vv"
  refine want_c (pre := (L, oL) :: pre) G (r.deeper.le (by walk_at "v_b")) W O (List.getElem?_eq_getElem hb') hb ?_
  intro h₃ tk₃ W
  walk_at "vv"
  rename Fx _ _ _ _ _ => W
  refine rItemL W (by walk_at "v_mem") hv (by walk_at "v_b") ?_
  walk_at "vv"
  refine make_c (pre := (L, oL) :: pre) (t := ⟨.ite, [c, a, b], 0⟩) G (r.deeper.le (by walk_at "v_b")) (Fx.absorb (pre := (L, oL) :: pre) W) (O.add _) (fun e => nomatch e) ⟨_, .head _, .cons _ _ pair_ints⟩ hb ?_
  intro h₅ tk₅ σ' tn O W
  exact back_ W fun W => k _ _ _ _ O W
end
end
section
section
variable {w : World} {A : Around} {E : Value → Shared → Prop} {gs : Array GenState} {dr : Drawn} {os : OsState} {tk : Tok}
  {b₀ h : Heap} {L : Addr} {m mg mb : Str → Option Value} {mean : ExcName → Option Value} {pre : List (Addr × Obj)} {α : BA} {σ : BC} {B : List Tm} {Q : Value → Shared → Prop} {ρ : RA}

theorem negd_c {t : Nat} {ti : Tok} (G : Bs w b₀ mean mg mb) (r : Rm A 4) (W : Fx b₀ h L m (pre ++ bankLed w.params 388 α σ)) (H : HR w.params 513 α ρ pre) (O : Ok prg w σ B) (ht : t < B.length) (hn : opAt B t = .neg → argsAt B t ≠ []) (hb : B.length ≤ 16000000)
    (k : ∀ h' tk' σ' tn, Ok prg w σ' (notOf B t).2 → Fx b₀ h' L m (pre ++ bankLed w.params 388 α σ') → Q (.int (notOf B t).1 tn) ⟨h', gs, dr, tk', os⟩) :
    wpAny (model prg w) A (call (.ref 444) [.ref ρ.self, .int t ti]) Q E ⟨h, gs, dr, tk, os⟩ := by
  obtain ⟨hi, hd⟩ := H
  walk_at "v_enter"
  intro oL L' h₁ tk₁ W
  walk_at "vv"
  refine not_c (pre := (L, oL) :: pre) G (r.deeper.le (by walk_at "v_b")) W O ht hn hb ?_
  intro h₂ tk₂ σ' tn O W
  exact back_ W fun W => k _ _ _ _ O W

theorem op_c2 {t : Nat} {ti : Tok} (G : Bs w b₀ mean mg mb) (r : Rm A 1) (W : Fx b₀ h L m (pre ++ bankLed w.params 388 α σ)) (O : Ok prg w σ B) (ht : t < B.length) (hb : B.length ≤ 16000000)
    (k : ∀ h' tk' to, Fx b₀ h' L m (pre ++ bankLed w.params 388 α σ) → Q (.str (opAt B t).str to) ⟨h', gs, dr, tk', os⟩) :
    wpAny (model prg w) A (call (.ref 175) [.ref α.self, .int t ti]) Q E ⟨h, gs, dr, tk, os⟩ := by
  have hx := List.getElem?_eq_getElem ht
  generalize B[t] = x at hx
  rw [opAt_of hx] at k
  exact op_c G r W O hx hb k
theorem args_c2 {t : Nat} {ti : Tok} (G : Bs w b₀ mean mg mb) (r : Rm A 1) (W : Fx b₀ h L m (pre ++ bankLed w.params 388 α σ)) (O : Ok prg w σ B) (ht : t < B.length) (hb : B.length ≤ 16000000)
    (k : ∀ h' tk' a, IsArgs σ.tups a (argsAt B t) → Fx b₀ h' L m (pre ++ bankLed w.params 388 α σ) → Q (.ref a) ⟨h', gs, dr, tk', os⟩) :
    wpAny (model prg w) A (call (.ref 182) [.ref α.self, .int t ti]) Q E ⟨h, gs, dr, tk, os⟩ := by
  have hx := List.getElem?_eq_getElem ht
  generalize B[t] = x at hx
  rw [argsAt_of hx] at k
  exact args_c G r W O hx hb k
theorem neg_args (wf : Wf B) {t : Nat} (h : opAt B t = .neg) : argsAt B t ≠ [] := by
  obtain ⟨s, _, e, _⟩ := neg_of wf h
  rw [e]; exact fun e => nomatch e

theorem same_c {a b : Nat} {ta tb : Tok} (G : Bs w b₀ mean mg mb) (r : Rm A 6) (W : Fx b₀ h L m (pre ++ bankLed w.params 388 α σ)) (H : HR w.params 513 α ρ pre) (O : Ok prg w σ B) (wf : Wf B) (ha : a < B.length) (hb' : b < B.length) (hb : B.length ≤ 15000000)
    (k : ∀ h' tk' σ' tn, Ok prg w σ' (sameOf B a b).2 → Fx b₀ h' L m (pre ++ bankLed w.params 388 α σ') → Q (.int (sameOf B a b).1 tn) ⟨h', gs, dr, tk', os⟩) :
    wpAny (model prg w) A (call (.ref 458) [.ref ρ.self, .int a ta, .int b tb]) Q E ⟨h, gs, dr, tk, os⟩ := by
  obtain ⟨hi, hd⟩ := id H
  walk_at "v_enter"
  intro oL L' h₁ tk₁ W
  have hh := r.hh
  have H' : HR w.params 513 α ρ ((L, oL) :: pre) := ⟨.tail _ hi, .tail _ hd⟩
  walk_at "v"
  walk_at "v"
  walk_at "v"
  walk_at "v"
  walk_at "v"
  -- the first look
  refine wpAny_mono (Q := fun f s' => f = .next ∧ ∃ h' tk' m' σ' ta', s' = ⟨h', gs, dr, tk', os⟩ ∧ Ok prg w σ' B ∧ Fx b₀ h' L' m' ((L, oL) :: (pre ++ bankLed w.params 388 α σ')) ∧ m' "self" = some (.ref ρ.self) ∧ m' "b" = some (.int b tb) ∧
    m' "a" = some (.int (bareOf B a) ta') ∧ m' "is_odd" = some (.bool (decide (opAt B a = .neg)))) ?_ ?_ fun _ _ e => e
  · walk_at "vv"
    refine op_c2 (pre := (L, oL) :: pre) G (r.deeper.le (by walk_at "v_b")) (by assumption) O ha (by walk_at "v_b") ?_
    intro h₂ tk₂ to₂ W
    walk_at "vv"
    rw [opq_neg]
    by_cases hop : opAt B a = .neg
    · rw [if_pos (by simpa using hop)]
      walk_at "vv"
      refine negd_c (pre := (L, oL) :: pre) G (r.deeper.le (by walk_at "v_b")) (by assumption) H' O ha (neg_args wf) (by walk_at "v_b") ?_
      intro h₃ tk₃ σ' tn O W
      rw [notOf_neg hop] at O ⊢
      walk_at "vv"
      walk_at "v_unpT"
      walk_at "vv"
      rename Fx _ _ _ _ _ => W
      exact ⟨rfl, _, _, _, σ', tn, rfl, O, W.sub (List.sublist_cons_self _ _), rfl, rfl, rfl, by rw [decide_eq_true hop]; rfl⟩
    · rw [if_neg (by simpa using hop)]
      walk_at "vv"
      have e : bareOf B a = a := if_neg hop
      rw [e]
      exact ⟨rfl, _, _, _, σ, ta, rfl, O, W, rfl, rfl, rfl, by rw [decide_eq_false hop]; rfl⟩
  rintro f s' ⟨rfl, h₂, tk₂, m₂, σ₂, ta₂, rfl, O₂, W₂, l1, l2, l3, l4⟩
  dsimp only
  walk_at "v"
  -- the second look
  refine wpAny_mono (Q := fun f s' => f = .next ∧ ∃ h' tk' m' σ' ta' tb', s' = ⟨h', gs, dr, tk', os⟩ ∧ Ok prg w σ' B ∧ Fx b₀ h' L' m' ((L, oL) :: (pre ++ bankLed w.params 388 α σ')) ∧ m' "self" = some (.ref ρ.self) ∧ m' "b" = some (.int (bareOf B b) tb') ∧
    m' "a" = some (.int (bareOf B a) ta') ∧ m' "is_odd" = some (.bool (decide (opAt B a = .neg) != decide (opAt B b = .neg)))) ?_ ?_ fun _ _ e => e
  · walk_at "vv"
    refine op_c2 (pre := (L, oL) :: pre) G (r.deeper.le (by walk_at "v_b")) (by assumption) O₂ hb' (by walk_at "v_b") ?_
    intro h₃ tk₃ to₃ W
    walk_at "vv"
    rw [opq_neg]
    by_cases hop : opAt B b = .neg
    · rw [if_pos (by simpa using hop)]
      walk_at "vv"
      refine negd_c (pre := (L, oL) :: pre) G (r.deeper.le (by walk_at "v_b")) (by assumption) H' O₂ hb' (neg_args wf) (by walk_at "v_b") ?_
      intro h₄ tk₄ σ' tn O W
      rw [notOf_neg hop] at O ⊢
      walk_at "vv"
      walk_at "v_unpT"
      walk_at "vv"
      rename Fx _ _ _ _ _ => W
      exact ⟨rfl, _, _, _, σ', ta₂, tn, rfl, O, W.sub (List.sublist_cons_self _ _), l1, rfl, l3, by rw [decide_eq_true hop, Bool.bne_true]; rfl⟩
    · rw [if_neg (by simpa using hop)]
      walk_at "vv"
      have e : bareOf B b = b := if_neg hop
      rw [e]
      exact ⟨rfl, _, _, m₂, σ₂, ta₂, tb, rfl, O₂, W, l1, l2, l3, by rw [decide_eq_false hop, Bool.bne_false]; exact l4⟩
  clear W₂ O₂ l1 l2 l3 l4
  rintro f s' ⟨rfl, h₂, tk₂, m₂, σ₂, ta₂, tb₂, rfl, O₂, W₂, l1, l2, l3, l4⟩
  dsimp only
  have hA := bareOf_lt wf ha
  have hB := bareOf_lt wf hb'
  have hsame : sameOf B a b = if decide (opAt B a = .neg) != decide (opAt B b = .neg) then notOf (sameMid B (bareOf B a) (bareOf B b)).2 (sameMid B (bareOf B a) (bareOf B b)).1 else sameMid B (bareOf B a) (bareOf B b) := rfl
  rw [hsame] at k
  generalize (decide (opAt B a = .neg) != decide (opAt B b = .neg)) = odd at l4 k
  generalize bareOf B a = a₁ at l3 hA k
  generalize bareOf B b = b₁ at l2 hB k
  walk_at "v"
  -- the swap
  refine wpAny_mono (Q := fun f s' => f = .next ∧ ∃ h' tk' m' ta' tb', s' = ⟨h', gs, dr, tk', os⟩ ∧ Fx b₀ h' L' m' ((L, oL) :: (pre ++ bankLed w.params 388 α σ₂)) ∧ m' "self" = some (.ref ρ.self) ∧
    m' "b" = some (.int (if a₁ = 1 ∨ a₁ = 2 then a₁ else b₁) tb') ∧ m' "a" = some (.int (if a₁ = 1 ∨ a₁ = 2 then b₁ else a₁) ta') ∧ m' "is_odd" = some (.bool odd)) ?_ ?_ fun _ _ e => e
  · walk_at "vv"
    by_cases h1 : a₁ = 1 ∨ a₁ = 2
    · by_cases h2 : a₁ = 1
      · rw [if_pos (by simp only [beq_iff_eq]; omega)]
        walk_at "vv"
        rw [if_pos (by rfl)]
        walk_at "vv"
        walk_at "v_unpT"
        walk_at "vv"
        rename Fx _ _ _ _ _ => W
        rw [if_pos h1, if_pos h1]
        exact ⟨rfl, _, _, _, tb₂, ta₂, rfl, W.sub (List.sublist_cons_self _ _), l1, rfl, rfl, l4⟩
      · rw [if_neg (by simp only [beq_iff_eq]; omega)]
        walk_at "vv"
        rw [if_pos (by simp only [beq_iff_eq]; omega)]
        rw [if_pos (by rfl)]
        walk_at "vv"
        walk_at "v_unpT"
        walk_at "vv"
        rename Fx _ _ _ _ _ => W
        rw [if_pos h1, if_pos h1]
        exact ⟨rfl, _, _, _, tb₂, ta₂, rfl, W.sub (List.sublist_cons_self _ _), l1, rfl, rfl, l4⟩
    · rw [if_neg (by simp only [beq_iff_eq]; omega)]
      walk_at "vv"
      rw [if_neg (by simp only [beq_iff_eq]; omega)]
      walk_at "vv"
      rw [if_neg (by decide)]
      walk_at "vv"
      rw [if_neg h1, if_neg h1]
      exact ⟨rfl, _, _, m₂, ta₂, tb₂, rfl, W₂, l1, l2, l3, l4⟩
  clear W₂ l1 l2 l3 l4
  rintro f s' ⟨rfl, h₂, tk₂, m₂, ta₂, tb₂, rfl, W₂, l1, l2, l3, l4⟩
  dsimp only
  have hmid : sameMid B a₁ b₁ = if (if a₁ = 1 ∨ a₁ = 2 then a₁ else b₁) = 1 then ((if a₁ = 1 ∨ a₁ = 2 then b₁ else a₁), B) else if (if a₁ = 1 ∨ a₁ = 2 then a₁ else b₁) = 2 then notOf B (if a₁ = 1 ∨ a₁ = 2 then b₁ else a₁) else eqOf B (if a₁ = 1 ∨ a₁ = 2 then b₁ else a₁) (if a₁ = 1 ∨ a₁ = 2 then a₁ else b₁) := by
    unfold sameMid
    by_cases h1 : a₁ = 1 ∨ a₁ = 2
    · simp only [if_pos h1]
      by_cases h2 : a₁ = 1
      · rw [if_pos h2, if_pos h2]
      · rw [if_neg h2, if_neg h2, if_pos (by walk_at "v_b")]
    · simp only [if_neg h1]
  have hwf := sameMid_wf wf hA hB
  have hln := sameMid_len B a₁ b₁
  have hA2 : (if a₁ = 1 ∨ a₁ = 2 then b₁ else a₁) < B.length := by split <;> assumption
  have hB2 : (if a₁ = 1 ∨ a₁ = 2 then a₁ else b₁) < B.length := by split <;> assumption
  have c1 : ((if a₁ = 1 ∨ a₁ = 2 then (a₁ : Int) else (b₁ : Int))) = ((if a₁ = 1 ∨ a₁ = 2 then a₁ else b₁ : Nat) : Int) := by split <;> rfl
  have c2 : ((if a₁ = 1 ∨ a₁ = 2 then (b₁ : Int) else (a₁ : Int))) = ((if a₁ = 1 ∨ a₁ = 2 then b₁ else a₁ : Nat) : Int) := by split <;> rfl
  rw [c1] at l2
  rw [c2] at l3
  generalize (if a₁ = 1 ∨ a₁ = 2 then b₁ else a₁ : Nat) = a₂ at l3 hmid hA2
  generalize (if a₁ = 1 ∨ a₁ = 2 then a₁ else b₁ : Nat) = b₂ at l2 hmid hB2
  generalize sameMid B a₁ b₁ = p at k hmid hwf hln
  walk_at "v"
  -- the middle
  refine wpAny_mono (Q := fun f s' => f = .next ∧ ∃ h' tk' m' σ' tr, s' = ⟨h', gs, dr, tk', os⟩ ∧ Ok prg w σ' p.2 ∧ Fx b₀ h' L' m' ((L, oL) :: (pre ++ bankLed w.params 388 α σ')) ∧ m' "self" = some (.ref ρ.self) ∧
    m' "result" = some (.int p.1 tr) ∧ m' "is_odd" = some (.bool odd)) ?_ ?_ fun _ _ e => e
  · walk_at "vv"
    by_cases h1 : b₂ = 1
    · rw [if_pos (by simp only [beq_iff_eq]; omega)]
      walk_at "vv"
      rw [if_pos (by rfl)]
      walk_at "vv"
      rw [if_pos (by simp only [beq_iff_eq]; omega)]
      walk_at "vv"
      rw [if_pos h1] at hmid
      subst hmid
      rename Fx _ _ _ _ _ => W
      exact ⟨rfl, _, _, _, σ₂, ta₂, rfl, O₂, W, l1, rfl, l4⟩
    · rw [if_neg (by simp only [beq_iff_eq]; omega)]
      walk_at "vv"
      rw [if_neg h1] at hmid
      by_cases h2 : b₂ = 2
      · rw [if_pos (by simp only [beq_iff_eq]; omega)]
        rw [if_pos (by rfl)]
        walk_at "vv"
        rw [if_neg (by simp only [beq_iff_eq]; omega)]
        walk_at "vv"
        refine negd_c (pre := (L, oL) :: pre) G (r.deeper.le (by walk_at "v_b")) (by assumption) H' O₂ hA2 (neg_args wf) (by walk_at "v_b") ?_
        intro h₄ tk₄ σ' tn O W
        walk_at "vv"
        rename Fx _ _ _ _ _ => W
        rw [if_pos h2] at hmid
        subst hmid
        exact ⟨rfl, _, _, _, σ', tn, rfl, O, W, l1, rfl, l4⟩
      · rw [if_neg (by simp only [beq_iff_eq]; omega)]
        walk_at "vv"
        rw [if_neg (by decide)]
        walk_at "vv"
        refine iff_c (pre := (L, oL) :: pre) G (r.deeper.le (by walk_at "v_b")) (by assumption) O₂ hA2 hB2 (by walk_at "v_b") ?_
        intro h₄ tk₄ σ' tn O W
        walk_at "vv"
        rename Fx _ _ _ _ _ => W
        rw [if_neg h2] at hmid
        subst hmid
        exact ⟨rfl, _, _, _, σ', tn, rfl, O, W, l1, rfl, l4⟩
  clear W₂ O₂ l1 l2 l3 l4
  rintro f s' ⟨rfl, h₂, tk₂, m₂, σ₂, tr₂, rfl, O₂, W₂, l1, l2, l4⟩
  dsimp only
  walk_at "vv"
  cases odd with
  | true =>
    rw [if_pos rfl]
    walk_at "vv"
    refine negd_c (pre := (L, oL) :: pre) G (r.deeper.le (by walk_at "v_b")) (by assumption) H' O₂ hwf.2 (neg_args hwf.1) (by walk_at "v_b") ?_
    intro h₄ tk₄ σ' tn O W
    rw [if_pos rfl] at k
    exact back_ W fun W => k _ _ _ _ O W
  | false =>
    rw [if_neg (by decide)]
    walk_at "vv"
    rw [if_neg (by decide)] at k
    exact back_ W₂ fun W => k _ _ _ _ O₂ W
end
end
section
/-- the tub: its dict object -/
def TubO (w : World) (Cl : Addr) (at' : Int) (o : Obj) : Prop := ∃ t, o.IsDictOf (PySem.strKind prg w) [(Str.ofString "cells", .ref Cl), (Str.ofString "at", .int at' t)]
theorem stored_at (c v v' : Value) : stored [(Str.ofString "cells", c), (Str.ofString "at", v)] (Str.ofString "at") v' = [(Str.ofString "cells", c), (Str.ofString "at", v')] := by
  have h1 : (Str.ofString "cells" = Str.ofString "at") = False := by decide +kernel
  simp [stored, h1]
theorem vat_at (c v : Value) : valueAt [(Str.ofString "cells", c), (Str.ofString "at", v)] (Str.ofString "at") = some v := by
  have h1 : (Str.ofString "cells" = Str.ofString "at") = False := by decide +kernel
  simp [valueAt, h1]
theorem vat_cells (c v : Value) : valueAt [(Str.ofString "cells", c), (Str.ofString "at", v)] (Str.ofString "cells") = some c := by simp [valueAt]
theorem skey (w : World) (x : Str) (t : Tok) : (PySem.strKind prg w).is x (.str x t) = true := by simp [PySem.strKind, Value.isStrOf]
theorem ikey (w : World) (x : Int) (t : Tok) : (PySem.intKind prg w).is x (.int x t) = true := by simp [PySem.intKind, Value.isInt]

theorem Pt.mem' {d : Addr} {o o' : Obj} {l l' : List (Addr × Obj)} (x : Pt d o o' l l') : (d, o') ∈ l' := by obtain ⟨pre, post, rfl, rfl⟩ := x.split; simp
section
variable {w : World} {A : Around} {E : Value → Shared → Prop} {gs : Array GenState} {dr : Drawn} {os : OsState} {tk : Tok}
  {b₀ h : Heap} {L : Addr} {m mg mb : Str → Option Value} {mean : ExcName → Option Value} {Q : Value → Shared → Prop}

theorem beaker_c {D Cl : Addr} {oT : Obj} {vs : List Value} {ns : List Int} {n : Nat} {aT : Nat} {many : Int} {tm : Tok} {led : List (Addr × Obj)} {led' : Obj → List (Addr × Obj)} (G : Bs w b₀ mean mg mb) (r : Rm A 1)
    (W : Fx b₀ h L m led) (hT : TubO w Cl aT oT) (p : ∀ o', Pt D oT o' led (led' o')) (hc : (Cl, listOf vs.toArray n) ∈ led) (hc' : ∀ o', (Cl, listOf vs.toArray n) ∈ led' o') (hI : IntsAre vs ns) (hlen : vs.length ≤ 100) (hat : aT ≤ 1000) (hm : 0 < many)
    (k : ∀ h' tk' oT' v t, TubO w Cl (aT + 1 : Nat) oT' → 0 ≤ v → v < many → Fx b₀ h' L m (led' oT') → Q (.int v t) ⟨h', gs, dr, tk', os⟩) :
    wpAny (model prg w) A (call (.ref 524) [.ref D, .int many tm]) Q E ⟨h, gs, dr, tk, os⟩ := by
  obtain ⟨t0, hT⟩ := hT
  walk_at "v_enter"
  intro oL L' h₁ tk₁ W
  walk_at "vv"
  refine rItemD W (.tail _ (p oT).mem) hT (skey w _ _) (vat_at _ _) fun tk₂ => ?_
  walk_at "vv"
  refine rSetD (led' := fun o' => (L, oL) :: led' o') (by assumption) (fun o' => .tail (p o')) hT (skey w _ _) (by simp) ?_
  intro h₂ oT' tk₃ W hT'
  rw [stored_at] at hT'
  walk_at "vv"
  refine rItemD W (.tail _ (p oT').mem') hT' (skey w _ _) (vat_cells _ _) fun tk₄ => ?_
  walk_at "vv"
  refine rLenL (by assumption) (.tail _ (hc' oT')) (by simp; omega) ?_
  intro t₅ tk₅
  walk_at "vv"
  have hat' : ((aT : Int)) ≤ 1000 := by omega
  refine ite_cut (fun v s' => ∃ X t tk', v = .int X t ∧ s' = ⟨h₂, gs, dr, tk', os⟩) (fun hlt => ?_) (fun hlt => ?_) ?_
  · walk_at "vv"
    refine rItemD (by assumption) (.tail _ (p oT').mem') hT' (skey w _ _) (vat_cells _ _) fun tk₆ => ?_
    walk_at "vv"
    have hlt' : aT < vs.length := by have := of_decide_eq_true hlt; simp at this; omega
    obtain ⟨x, tx, ex, -⟩ := ints_get hI (List.getElem?_eq_getElem hlt')
    refine rItemL (i := aT) (v := .int x tx) (by assumption) (.tail _ (hc' oT')) (by simp [List.getElem?_eq_getElem hlt', ex]) (by walk_at "v_b") ?_
    exact ⟨_, _, _, rfl, rfl⟩
  · walk_at "vv"
    exact ⟨_, _, _, rfl, rfl⟩
  rintro v s' ⟨X, t, tk', rfl, rfl⟩
  walk_at "vv"
  refine back_ (by assumption) fun W => k _ _ _ _ _ ⟨_, hT'⟩ ?_ ?_ W
  · exact Int.fmod_nonneg_of_pos _ hm
  · exact Int.fmod_lt_of_pos _ hm
end
end
section
section
variable {w : World} {A : Around} {E : Value → Shared → Prop} {gs : Array GenState} {dr : Drawn} {os : OsState} {tk : Tok}
  {b₀ h : Heap} {L : Addr} {m mg mb : Str → Option Value} {mean : ExcName → Option Value} {pre : List (Addr × Obj)} {α : BA} {σ : BC} {B : List Tm} {Q : Value → Shared → Prop}

theorem bare_c {t : Nat} {ti : Tok} (G : Bs w b₀ mean mg mb) (r : Rm A 2) (W : Fx b₀ h L m (pre ++ bankLed w.params 388 α σ)) (O : Ok prg w σ B) (wf : Wf B) (ht : t < B.length) (hb : B.length ≤ 16000000)
    (k : ∀ h' tk' tn, Fx b₀ h' L m (pre ++ bankLed w.params 388 α σ) → Q (.int (bareOf B t) tn) ⟨h', gs, dr, tk', os⟩) :
    wpAny (model prg w) A (call (.ref 548) [.ref α.self, .int t ti]) Q E ⟨h, gs, dr, tk, os⟩ := by
  walk_at "v_enter"
  intro oL L' h₁ tk₁ W
  walk_at "vv"
  refine op_c2 (pre := (L, oL) :: pre) G (r.deeper.le (by walk_at "v_b")) W O ht (by walk_at "v_b") ?_
  intro h₂ tk₂ to₂ W
  walk_at "vv"
  rw [opq_neg]
  by_cases hop : opAt B t = .neg
  · rw [if_pos (by simpa using hop)]
    walk_at "vv"
    refine args_c2 (pre := (L, oL) :: pre) G (r.deeper.le (by walk_at "v_b")) W O ht (by walk_at "v_b") ?_
    intro h₃ tk₃ a ha W
    walk_at "vv"
    obtain ⟨s, _, e1, _⟩ := neg_of wf hop
    rw [e1] at ha
    obtain ⟨vs, hmem, hI⟩ := ha
    have e : bareOf B t = s := by unfold bareOf; rw [if_pos hop, e1]; rfl
    rw [e] at k
    cases hI with
    | cons n t0 hI =>
      cases hI
      refine rItemT (j := 0) (l := a) W (by walk_at "v_mem") (by decide) (by decide) (by rfl) (by rfl) ?_
      exact back_ W fun W => k _ _ _ W
  · rw [if_neg (by simpa using hop)]
    walk_at "vv"
    have e : bareOf B t = t := by unfold bareOf; rw [if_neg hop]
    rw [e] at k
    exact back_ W fun W => k _ _ _ W
end

section
variable {w : World} {A : Around} {E : Value → Shared → Prop} {gs : Array GenState} {dr : Drawn} {os : OsState} {tk : Tok}
  {b₀ h : Heap} {L : Addr} {m mg mb : Str → Option Value} {mean : ExcName → Option Value} {led : List (Addr × Obj)} {Q : Value → Shared → Prop}

theorem rBoolAt {value slice : Expr} {l : Addr} {bs : List Bool} {n i : Nat} {u : Tok} (W : Fx b₀ h L m led) (hm : (l, listOf (bs.map Value.bool).toArray n) ∈ led) (hi : i < bs.length) (hb : (i : Int) < 2 ^ 63) (k : Q (.bool (bs.getD i false)) ⟨h, gs, dr, tk, os⟩)
    (hs : subscripted slice false (.ref l) (.int i u) = operate [.ref l, .int i u] (getItem (.ref l) (.int i u)) := by with_unfolding_all rfl) :
    wpAny (model prg w) A (subscriptTail value slice (.ref l) (.int i u)) Q E ⟨h, gs, dr, tk, os⟩ :=
  rItemL W hm (by simp [hi]) hb k hs

def strHit (x : Str) : Value → Bool
  | .str y _ => y == x
  | _ => false
theorem strHit_at (x : Str) (t : Tok) {A : Around} {s : Shared} {y : Str} {u : Tok} : EqAt A s (.str y u) (.str x t) (strHit x (.str y u)) := EqAt.str_str y u x t
theorem rInS2 {l : Addr} {o a b : Op} {xa xb : Str} {ta tb to : Tok} (ea : xa = a.str) (eb : xb = b.str) (W : Fx b₀ h L m led) (hm : (l, tupO [.str xa ta, .str xb tb]) ∈ led) (k : Q (.bool (decide (o = a ∨ o = b))) ⟨h, gs, dr, tk, os⟩) :
    wpAny (model prg w) A (compareOp .In (.str o.str to) (.ref l)) Q E ⟨h, gs, dr, tk, os⟩ := by
  refine rInT (strHit o.str) W hm (fun y hy A s => ?_) ?_
  · rcases List.mem_cons.mp hy with rfl | hy
    · exact strHit_at _ _
    · rw [List.mem_singleton.mp hy]; exact strHit_at _ _
  · have e : ([Value.str xa ta, .str xb tb].any (strHit o.str)) = decide (o = a ∨ o = b) := by
      simp only [List.any_cons, List.any_nil, strHit, Bool.or_false]
      rw [show (xa == o.str) = decide (a = o) from op_beq a o _ rfl ▸ (by rw [ea]), show (xb == o.str) = decide (b = o) from op_beq b o _ rfl ▸ (by rw [eb])]
      by_cases h1 : o = a <;> by_cases h2 : o = b <;> simp [h1, h2, eq_comm]
      all_goals simp_all [eq_comm]
    rw [e]; exact k

def boolHit (x : Bool) : Value → Bool
  | .bool y => y == x
  | _ => false
theorem boolHit_at {x : Bool} {A : Around} {s : Shared} {y : Value} {bs : List Bool} (hy : y ∈ bs.map Value.bool) : EqAt A s y (.bool x) (boolHit x y) := by
  obtain ⟨b, _, rfl⟩ := List.mem_map.mp hy
  exact EqAt.bool_bool b x
theorem boolHit_any (x : Bool) (bs : List Bool) : (bs.map Value.bool).any (boolHit x) = bs.any (· == x) := by
  rw [List.any_map]; rfl
theorem truth_c {o : Op} {to : Tok} {l : Addr} {n : Nat} {bs : List Bool} (G : Bs w b₀ mean mg mb) (r : Rm A 1) (W : Fx b₀ h L m led) (hm : (l, listOf (bs.map Value.bool).toArray n) ∈ led) (ha : arity o bs.length = true)
    (k : ∀ h' tk', Fx b₀ h' L m led → Q (.bool (truth o bs)) ⟨h', gs, dr, tk', os⟩) :
    wpAny (model prg w) A (call (.ref 536) [.str o.str to, .ref l]) Q E ⟨h, gs, dr, tk, os⟩ := by
  walk_at "v_enter"
  intro oL L' h₁ tk₁ W
  walk_at "vv"
  refine rInS2 (a := .tru) (b := .neg) rfl rfl (by assumption) (.head _) ?_
  walk_at "vv"
  by_cases h1 : o = .tru ∨ o = .neg
  · rw [if_pos (by simpa using h1)]
    walk_at "vv"
    rcases h1 with rfl | rfl
    · rw [if_pos (by decide)]
      exact backD [_] (by assumption) fun W => k _ _ W
    · rw [if_neg (by decide)]
      walk_at "vv"
      refine rBoolAt (i := 0) (by assumption) (.tail _ (.tail _ hm)) (by simp [arity] at ha; omega) (by decide) ?_
      walk_at "vv"
      exact backD [_] (by assumption) fun W => k _ _ W
  rw [if_neg (by simpa using h1)]
  walk_at "vv"
  refine rInS2 (a := .con) (b := .dis) rfl rfl (by assumption) (.head _) ?_
  walk_at "vv"
  by_cases h2 : o = .con ∨ o = .dis
  · rw [if_pos (by simpa using h2)]
    walk_at "vv"
    rcases h2 with rfl | rfl
    · rw [if_pos (by decide)]
      walk_at "vv"
      refine rNotInL (boolHit false) (by assumption) (.tail _ (.tail _ (.tail _ hm))) (fun y hy A s => boolHit_at hy) ?_
      rw [boolHit_any]
      exact backD [_, _] (by assumption) fun W => k _ _ W
    · rw [if_neg (by decide)]
      walk_at "vv"
      refine rInL (boolHit true) (by assumption) (.tail _ (.tail _ (.tail _ hm))) (fun y hy A s => boolHit_at hy) ?_
      rw [boolHit_any]
      exact backD [_, _] (by assumption) fun W => k _ _ W
  rw [if_neg (by simpa using h2)]
  walk_at "vv"
  refine rInS2 (a := .xr) (b := .eq) rfl rfl (by assumption) (.head _) ?_
  walk_at "vv"
  by_cases h3 : o = .xr ∨ o = .eq
  · rw [if_pos (by simpa using h3)]
    walk_at "vv"
    have hl : bs.length = 2 := by rcases h3 with rfl | rfl <;> simpa [arity] using ha
    refine rBoolAt (i := 0) (by assumption) (.tail _ (.tail _ (.tail _ (.tail _ hm)))) (by walk_at "v_b") (by decide) ?_
    walk_at "vv"
    refine rBoolAt (i := 1) (by assumption) (.tail _ (.tail _ (.tail _ (.tail _ hm)))) (by walk_at "v_b") (by decide) ?_
    walk_at "vv"
    have e : ((bs.getD 0 false != bs.getD 1 false) == (o.str == Str.ofString "xor")) = truth o bs := by
      rw [op_beq o .xr (Str.ofString "xor") rfl]
      rcases h3 with rfl | rfl <;> simp [truth]
      cases bs.getD 0 false <;> cases bs.getD 1 false <;> rfl
    rw [e]
    exact backD [_, _, _] (by assumption) fun W => k _ _ W
  rw [if_neg (by simpa using h3)]
  walk_at "vv"
  rw [op_beq o .imp (Str.ofString "=>") rfl]
  by_cases h4 : o = .imp
  · subst h4
    have hl : bs.length = 2 := by simpa [arity] using ha
    rw [if_pos (by decide)]
    walk_at "vv"
    refine rBoolAt (i := 1) (by assumption) (.tail _ (.tail _ (.tail _ (.tail _ hm)))) (by walk_at "v_b") (by decide) ?_
    walk_at "vv"
    by_cases h5 : bs.getD 1 false = true
    · rw [if_pos h5]
      have e : bs.getD 1 false = truth .imp bs := by unfold truth; rw [h5]; rfl
      rw [e]
      exact backD [_, _, _] (by assumption) fun W => k _ _ W
    · rw [if_neg h5]
      walk_at "vv"
      refine rBoolAt (i := 0) (by assumption) (.tail _ (.tail _ (.tail _ (.tail _ hm)))) (by walk_at "v_b") (by decide) ?_
      walk_at "vv"
      have e : (!bs.getD 0 false) = truth .imp bs := by unfold truth; rw [Bool.eq_false_iff.mpr h5]; rfl
      rw [e]
      exact backD [_, _, _] (by assumption) fun W => k _ _ W
  rw [if_neg (by simpa using h4)]
  walk_at "vv"
  rw [op_beq o .ite (Str.ofString "ite") rfl]
  by_cases h5 : o = .ite
  · subst h5
    have hl : bs.length = 3 := by simpa [arity] using ha
    rw [if_pos (by decide)]
    walk_at "vv"
    refine rBoolAt (i := 0) (by assumption) (.tail _ (.tail _ (.tail _ (.tail _ hm)))) (by walk_at "v_b") (by decide) ?_
    walk_at "vv"
    by_cases h6 : bs.getD 0 false = true
    · rw [if_pos h6]
      walk_at "vv"
      refine rBoolAt (i := 1) (by assumption) (.tail _ (.tail _ (.tail _ (.tail _ hm)))) (by walk_at "v_b") (by decide) ?_
      walk_at "vv"
      have e : bs.getD 1 false = truth .ite bs := by unfold truth; rw [if_pos h6]
      rw [e]
      exact backD [_, _, _] (by assumption) fun W => k _ _ W
    · rw [if_neg h6]
      walk_at "vv"
      refine rBoolAt (i := 2) (by assumption) (.tail _ (.tail _ (.tail _ (.tail _ hm)))) (by walk_at "v_b") (by decide) ?_
      walk_at "vv"
      have e : bs.getD 2 false = truth .ite bs := by unfold truth; rw [if_neg h6]
      rw [e]
      exact backD [_, _, _] (by assumption) fun W => k _ _ W
  rw [if_neg (by simpa using h5)]
  have e : decide (o = .ite) = truth o bs := by
    simp [h5]
    cases o <;> simp_all [truth]
  rw [e]
  exact backD [_, _, _] (by assumption) fun W => k _ _ W
end
end
section
def RowRefs (B : List Tm) (rls : List (Addr × Obj)) (ss : List Nat) (ys : List Value) : Prop := ys.length = ss.length ∧ ∀ (j s : Nat), ss[j]? = some s → ∃ l n, ys[j]? = some (.ref l) ∧ (l, listOf ((rowOf B s).map Value.bool).toArray n) ∈ rls
theorem RowRefs.push {B : List Tm} {rls rls' : List (Addr × Obj)} {ss : List Nat} {ys : List Value} {s l n : Nat} (x : RowRefs B rls ss ys) (hm : ∀ p ∈ rls, p ∈ rls') (hl : (l, listOf ((rowOf B s).map Value.bool).toArray n) ∈ rls') : RowRefs B rls' (ss ++ [s]) (ys ++ [.ref l]) := by
  refine ⟨by simp [x.1], fun j u hj => ?_⟩
  by_cases hlt : j < ss.length
  · rw [List.getElem?_append_left hlt] at hj
    obtain ⟨l', n', e1, e2⟩ := x.2 j u hj
    exact ⟨l', n', by rw [List.getElem?_append_left (by rw [x.1]; exact hlt)]; exact e1, hm _ e2⟩
  · rw [List.getElem?_append_right (by walk_at "v_b")] at hj
    have e0 : j - ss.length = 0 := by
      cases q : j - ss.length with
      | zero => rfl
      | succ k => rw [q] at hj; simp at hj
    rw [e0] at hj
    have : u = s := by simpa using hj.symm
    subst this
    exact ⟨l, n, by rw [List.getElem?_append_right (by rw [x.1]; omega), x.1, e0]; rfl, hl⟩
/-- the rows laid down so far -/
def RowsOk (w : World) (B : List Tm) (oR : Obj) (rls : List (Addr × Obj)) : Prop := ∃ kvs, oR.IsDictOf (PySem.intKind prg w) kvs ∧
  (∀ k v, valueAt kvs k = some v → ∃ i : Nat, k = i ∧ i < B.length ∧ ∃ l n, v = .ref l ∧ (l, listOf ((rowOf B i).map Value.bool).toArray n) ∈ rls) ∧
  ∀ i : Nat, i < B.length → opAt B i = .app → ∃ v, valueAt kvs (i : Int) = some v

theorem cells4 {cm : Str → Option Value} {cs : List (Str × Addr)} {cells : List (Addr × Obj)} {n1 n2 n3 n4 : Str} {c1 c2 c3 c4 : Addr} (x : CellsAre cm cs cells) (e : cs = [(n1, c1), (n2, c2), (n3, c3), (n4, c4)]) :
    ∃ o1 o2 o3 o4, cells = [(c1, o1), (c2, o2), (c3, o3), (c4, o4)] ∧ o1.data = .cell (cm n1) ∧ o2.data = .cell (cm n2) ∧ o3.data = .cell (cm n3) ∧ o4.data = .cell (cm n4) := by
  subst e
  cases x with | cons h1 r => cases r with | cons h2 r => cases r with | cons h3 r => cases r with | cons h4 r => cases r; exact ⟨_, _, _, _, rfl, h1, h2, h3, h4⟩
section
variable {w : World} {A : Around} {E : Value → Shared → Prop} {gs : Array GenState} {dr : Drawn} {os : OsState} {tk : Tok}
  {b₀ h : Heap} {L : Addr} {m mg mb : Str → Option Value} {mean : ExcName → Option Value} {pre : List (Addr × Obj)} {α : BA} {σ : BC} {B : List Tm} {Q : Value → Shared → Prop}

theorem row_c (N : Nat) : ∀ {t : Nat} {ti : Tok} {A : Around} {E : Value → Shared → Prop} {tk : Tok} {h : Heap} {L RD : Addr} {oR : Obj} {m : Str → Option Value} {pre rls : List (Addr × Obj)} {Q : Value → Shared → Prop}, t < N → (G : Bs w b₀ mean mg mb) → (r : Rm A (3 * t + 4)) → (W : Fx b₀ h L m (pre ++ (RD, oR) :: (rls ++ bankLed w.params 388 α σ))) → (O : Ok prg w σ B) → (wg : Wg B) → (ht : t < B.length) → (hb : B.length ≤ 1000000) → (hR : RowsOk w B oR rls) →
    (k : ∀ h' tk' oR' rls' l n, RowsOk w B oR' rls' → (∀ p ∈ rls, p ∈ rls') → (l, listOf ((rowOf B t).map Value.bool).toArray n) ∈ rls' → Fx b₀ h' L m (pre ++ (RD, oR') :: (rls' ++ bankLed w.params 388 α σ)) → Q (.ref l) ⟨h', gs, dr, tk', os⟩) →
    wpAny (model prg w) A (call (.ref 541) [.ref α.self, .int t ti, .ref RD]) Q E ⟨h, gs, dr, tk, os⟩ := by
  induction N with
  | zero => intro t ti A E tk h L RD oR m pre rls Q h0; omega
  | succ N ih =>
  intro t ti A E tk h L RD oR m pre rls Q hN G r W O wg ht hb hR k
  have hh := r.hh
  walk_at "v_enterC"
  intro oL L' h₁ tk₁ cells W Y
  obtain ⟨o1, o2, o3, o4, rfl, d1, d2, d3, d4⟩ := cells4 Y rfl
  replace d1 : o1.data = .cell none := d1
  replace d2 : o2.data = .cell (some (.ref RD)) := d2
  replace d3 : o3.data = .cell (some (.int t ti)) := d3
  replace d4 : o4.data = .cell (some (.ref α.self)) := d4
  walk_at "v"
  refine wpAny_mono (Q := fun f s' => f = .next ∧ ∃ h' tk' m' oR' rls' o1', s' = ⟨h', gs, dr, tk', os⟩ ∧ Fx b₀ h' L' m' ([(L' + 1 + 1 + 1 + 1, o1'), (L' + 1 + 1 + 1, o2), (L' + 1 + 1, o3), (L' + 1, o4)] ++ (L, oL) :: (pre ++ (RD, oR') :: (rls' ++ bankLed w.params 388 α σ))) ∧ RowsOk w B oR' rls' ∧ (∀ p ∈ rls, p ∈ rls') ∧
    ∃ kvs l n, oR'.IsDictOf (PySem.intKind prg w) kvs ∧ valueAt kvs (t : Int) = some (.ref l) ∧ (l, listOf ((rowOf B t).map Value.bool).toArray n) ∈ rls') ?_ ?_ fun _ _ e => e
  · walk_at "vv"
    obtain ⟨kvs, hd, h1, h2⟩ := id hR
    refine rNotInD (Tp.nolimit (Bs.T (by assumption))) (by assumption) (by walk_at "v_mem") hd (ikey w _ _) fun tk₂ => ?_
    walk_at "vv"
    cases hv : valueAt kvs (t : Int) with
    | some v =>
      simp only [Option.isSome_some, Bool.not_true, Bool.false_eq_true, if_false]
      walk_at "vv"
      obtain ⟨i, hi, _, l, n, rfl, hl⟩ := h1 _ _ hv
      have : i = t := by omega
      subst this
      exact ⟨rfl, _, _, _, oR, rls, o1, rfl, by assumption, hR, fun _ hp => hp, kvs, l, n, hd, hv, hl⟩
    | none =>
      simp only [Option.isSome_none, Bool.not_false, if_true]
      have happ : opAt B t ≠ .app := fun e => by obtain ⟨v, hv'⟩ := h2 t ht e; rw [hv'] at hv; cases hv
      walk_at "vv"
      refine rComp ?_ rfl rfl (by decide) (fun _ => rfl)
      walk_at "vv"
      refine args_c2 (pre := [(L' + 1 + 1 + 1 + 1, o1), (L' + 1 + 1 + 1, o2), (L' + 1 + 1, o3), (L' + 1, o4), (L, oL)] ++ (pre ++ (RD, oR) :: rls)) G (r.deeper.le (by walk_at "v_b")) (by simpa using W) O ht (by walk_at "v_b") ?_
      intro h₂ tk₂ a ha W
      obtain ⟨avs, hmem, hI⟩ := ha
      have hal : avs.length = (argsAt B t).length := by rw [ints_len hI, List.length_map]
      have hsz := args_sz wg t
      refine comp_tup (t := a) hh W (List.mem_append_right _ (by walk_at "v_mem")) (by walk_at "v_b") (fun i ys led₁ => ∃ oR' rls', led₁ = [(L' + 1 + 1 + 1 + 1, o1), (L' + 1 + 1 + 1, o2), (L' + 1 + 1, o3), (L' + 1, o4), (L, oL)] ++ (pre ++ (RD, oR') :: (rls' ++ bankLed w.params 388 α σ)) ∧ RowsOk w B oR' rls' ∧ (∀ p ∈ rls, p ∈ rls') ∧ ys.size = i ∧ RowRefs B rls' ((argsAt B t).take i) ys.toList)
        ⟨oR, rls, by simp, hR, fun _ hp => hp, rfl, rfl, fun j s e => by simp at e⟩ ?_ ?_ ?_
      · rintro i ys led₁ ⟨oR', rls', rfl, _, _, e, _⟩
        exact ⟨Nat.le_of_eq e, by simp [hmem]⟩
      · rintro C i v ys e D oL1 m₁ led₁ it₁ cells₁ h₁ tk₁ E' hi hP ⟨oR', rls', rfl, hR', hsub, hys, hrefs⟩ hc hdc W
        obtain rfl : cells₁ = [] := List.map_eq_nil_iff.mp hc
        rw [List.nil_append] at W
        walk_at "v_asg"
        walk_at "vv"
        rename Fx _ _ _ _ _ => W
        obtain ⟨nn, tn, rfl, hs⟩ := ints_get hI hP
        rw [List.getElem?_map] at hs
        obtain ⟨s, hs', rfl⟩ := Option.map_eq_some_iff.mp hs
        have hst : s < t := args_lt wg.wf (List.mem_of_getElem? hs')
        refine ih (t := s) (pre := (D, listOf ys e) :: (L', oL1) :: it₁ :: ([(L' + 1 + 1 + 1 + 1, o1), (L' + 1 + 1 + 1, o2), (L' + 1 + 1, o3), (L' + 1, o4), (L, oL)] ++ pre)) (by walk_at "v_b") G (r.deeper.le (by walk_at "v_b")) (by simpa using W) O wg (by walk_at "v_b") hb hR' ?_
        intro h₂ tk₂ oR2 rls2 l n hR2 hsub2 hl W
        refine CEnd.intro [] (by simpa using W) rfl (fun _ hp => nomatch hp) ⟨oR2, rls2, by simp, hR2, fun p hp => hsub2 p (hsub p hp), by simp [hys], ?_⟩
        rw [List.take_add_one, hs', Array.toList_push]
        exact hrefs.push hsub2 hl
      · rintro D h₄ tk₄ ys e led' W ⟨oR', rls', rfl, hR', hsub, hys, hrefs⟩
        refine rCellSt (led' := fun o1' => (D, listOf ys e) :: ([(L' + 1 + 1 + 1 + 1, o1'), (L' + 1 + 1 + 1, o2), (L' + 1 + 1, o3), (L' + 1, o4), (L, oL)] ++ (pre ++ (RD, oR') :: (rls' ++ bankLed w.params 388 α σ)))) (by simpa using W) rfl (.tail _ (.head _)) d1 (fun o' => .tail .head) ?_
        intro h₅ o1' W d1'
        walk_at "vv"
        refine rComp ?_ rfl rfl (by decide) (fun _ => rfl)
        walk_at "vv"
        refine rRange (by assumption) ?_
        intro rr h₆ ur vr tk₆ W
        refine comp_range_fix (r := rr) (n := 16) (fun u y => y = .bool (valOf B u t)) hh W (.head _) (by decide) ?_ ?_
        · rintro C u v ys2 e2 D2 oL2 m₂ led₂ it₂ cells₂ h₇ tk₇ E₂ hu ⟨_, tu, rfl⟩ hJ2 hc2 hd2 W
          obtain ⟨oc, rfl⟩ := one_cell (a := C + 1) hc2
          obtain ⟨vc, hdc⟩ := hd2 _ (.head _)
          have e2' := hJ2.1
          subst e2'
          rw [List.singleton_append] at W
          refine wpAny_assign_Name (rCellSt W rfl (.head _) hdc (fun o' => .head) ?_)
          intro h₈ oc' W hdc'
          walk_at "vv"
          refine op_c2 (pre := (C + 1, oc') :: (D2, listOf ys2 e2) :: (L', oL2) :: it₂ :: (rr, _) :: (D, listOf ys e) :: [(L' + 1 + 1 + 1 + 1, o1'), (L' + 1 + 1 + 1, o2), (L' + 1 + 1, o3), (L' + 1, o4), (L, oL)] ++ (pre ++ (RD, oR') :: rls')) G (r.deeper.le (by walk_at "v_b")) (by simpa using W) O ht (by walk_at "v_b") ?_
          intro h₉ tk₉ to₉ W
          walk_at "vv"
          refine rComp ?_ rfl rfl (by decide) (fun _ => rfl)
          walk_at "vv"
          have hnn : (List.take avs.length (argsAt B t)) = argsAt B t := by rw [hal]; exact List.take_length
          rw [hnn] at hrefs
          have hysz : ys.size = (argsAt B t).length := by have := hrefs.1; simpa using this
          refine comp_list_fix (t := D) (fun j y => y = (fun j => Value.bool (valOf B u ((argsAt B t).getD j 0))) j) hh W (by walk_at "v_mem") (by walk_at "v_b") ?_ ?_
          · rintro C3 j v3 ys3 e3 D3 oL3 m₃ led₃ it₃ cells₃ h₁₀ tk₁₀ E₃ hj hP3 hJ3 hc3 hd3 W
            obtain rfl : cells₃ = [] := List.map_eq_nil_iff.mp hc3
            rw [List.nil_append] at W
            have e3' := hJ3.1
            subst e3'
            walk_at "v_asg"
            walk_at "vv"
            obtain ⟨l, n, hl1, hl2⟩ := hrefs.2 j _ (List.getElem?_eq_getElem (by omega : j < (argsAt B t).length))
            rw [Array.getElem?_toList] at hl1
            obtain rfl : v3 = .ref l := by have := hP3.symm.trans hl1; exact Option.some.inj this
            refine rBoolAt (l := l) (n := n) (bs := rowOf B (argsAt B t)[j]) (i := u) (by assumption) (by simp [hl2]) (by unfold rowOf; simpa using hu) (by walk_at "v_b") ?_
            refine CEnd.intro [] (by assumption) rfl (fun _ hp => nomatch hp) (hJ3.push ?_)
            show _ = Value.bool _
            congr 1
            unfold rowOf
            rw [List.getD_eq_getElem?_getD, List.getElem?_map, List.getElem?_range hu, List.getD_eq_getElem?_getD, List.getElem?_eq_getElem (by omega : j < (argsAt B t).length)]
            rfl
          · intro D3 h₁₀ tk₁₀ ys3 e3 W hJ3
            have e4 := hJ3.eq
            rw [hysz, range_getD (fun s => Value.bool (valOf B u s)), show (argsAt B t).map (fun s => Value.bool (valOf B u s)) = ((argsAt B t).map fun s => valOf B u s).map Value.bool by rw [List.map_map]; rfl] at e4
            subst e4
            walk_at "vv"
            refine truth_c (bs := (argsAt B t).map fun s => valOf B u s) G (r.deeper.le (by walk_at "v_b")) W (.head _) (by rw [List.length_map]; exact arity_at wg t) ?_
            intro h₁₁ tk₁₁ W
            rw [← valOf_at wg.wf ht happ]
            exact CEnd.intro [(C + 1, oc')] (by simpa using W.sub (.cons _ (List.Sublist.refl _))) rfl (fun p hp => by rw [List.mem_singleton.mp hp]; exact ⟨_, hdc'⟩) (hJ2.push rfl)
        · intro D2 h₇ tk₇ ys2 e2 W hJ2
          walk_at "vv"
          have e5 : ys2 = ((rowOf B t).map Value.bool).toArray := by
            rw [FixJ.eq (f := fun u => Value.bool (valOf B u t)) hJ2]; unfold rowOf; rw [List.map_map]; rfl
          subst e5
          obtain ⟨kvs', hd', h1', h2'⟩ := id hR'
          have hkn : (kvs'.map (·.1)).Nodup := by obtain ⟨_, _, _, _, _, _, hn⟩ := hd'; exact hn
          have hkl : kvs'.length ≤ B.length := by
            have := nodup_bound B.length hkn fun x hx => by
              obtain ⟨v, hv⟩ := valueAt_of_mem hx
              obtain ⟨i, e, hi, _⟩ := h1' x v hv
              exact ⟨i, e, hi⟩
            simpa using this
          refine rSetD W (fun o' => .tail (.tail (.tail (Pt.app (Pt.app .head))))) hd' (ikey w _ _) (by walk_at "v_b") ?_
          intro h₈ oR2 tk₈ W hd2
          walk_at "vv"
          have W2 := (W.sub (led' := (D2, listOf ((rowOf B t).map Value.bool).toArray e2) :: ([(L' + 1 + 1 + 1 + 1, o1'), (L' + 1 + 1 + 1, o2), (L' + 1 + 1, o3), (L' + 1, o4), (L, oL)] ++ (pre ++ (RD, oR2) :: (rls' ++ bankLed w.params 388 α σ)))) (.cons_cons _ (.cons _ (.cons _ (List.Sublist.refl _)))))
          have W3 := W2.perm (led' := [(L' + 1 + 1 + 1 + 1, o1'), (L' + 1 + 1 + 1, o2), (L' + 1 + 1, o3), (L' + 1, o4)] ++ (L, oL) :: (pre ++ (RD, oR2) :: (((D2, listOf ((rowOf B t).map Value.bool).toArray e2) :: rls') ++ bankLed w.params 388 α σ))) (by
            have := List.perm_middle (a := (D2, listOf ((rowOf B t).map Value.bool).toArray e2)) (l₁ := [(L' + 1 + 1 + 1 + 1, o1'), (L' + 1 + 1 + 1, o2), (L' + 1 + 1, o3), (L' + 1, o4), (L, oL)] ++ (pre ++ [(RD, oR2)])) (l₂ := rls' ++ bankLed w.params 388 α σ)
            simpa using this)
          refine ⟨rfl, _, _, _, oR2, (D2, listOf ((rowOf B t).map Value.bool).toArray e2) :: rls', o1', rfl, W3, ?_, fun p hp => .tail _ (hsub p hp), _, D2, e2, hd2, by rw [valueAt_stored, if_pos rfl], .head _⟩
          refine ⟨_, hd2, fun x v hv => ?_, fun i hi ha => ?_⟩
          · rw [valueAt_stored] at hv
            by_cases hx : x = (t : Int)
            · rw [if_pos hx] at hv
              exact ⟨t, hx, ht, D2, e2, (Option.some.inj hv).symm, .head _⟩
            · rw [if_neg hx] at hv
              obtain ⟨i, a1, a2, l, n, a3, a4⟩ := h1' x v hv
              exact ⟨i, a1, a2, l, n, a3, .tail _ a4⟩
          · rw [valueAt_stored]
            split
            · exact ⟨_, rfl⟩
            · exact h2' i hi ha
  rintro f s' ⟨rfl, h', tk', m', oR', rls', o1', rfl, W, hR', hsub, kvs, l, n, hd, hv, hl⟩
  walk_at "vv"
  refine rItemD (by assumption) (by walk_at "v_mem") hd (ikey w _ _) hv fun tk₂ => ?_
  exact backD [_, _, _, _] W fun W => k _ _ _ _ _ _ hR' hsub hl W
end
end
section
theorem sorted2 {x y : Nat} {ns : List Int} (hp : ns.Perm [(x : Int), (y : Int)]) (hs : ns.Pairwise (· ≤ ·)) : ns = [((min x y : Nat) : Int), ((max x y : Nat) : Int)] := by
  have hl := hp.length_eq
  match ns, hl with
  | [a, b], _ =>
    have hab : a ≤ b := by simpa using hs
    have h1 := hp.mem_iff (a := a)
    have h2 := hp.mem_iff (a := b)
    have h3 := hp.mem_iff (a := (x : Int))
    have h4 := hp.mem_iff (a := (y : Int))
    simp only [List.mem_cons, List.not_mem_nil, or_false, true_or, or_true, true_iff, iff_true] at h1 h2 h3 h4
    rcases Nat.le_total x y with h | h
    · rw [Nat.min_eq_left h, Nat.max_eq_right h]
      have e : a = x := by omega
      have e2 : b = y := by omega
      rw [e, e2]
    · rw [Nat.min_eq_right h, Nat.max_eq_left h]
      have e : a = y := by omega
      have e2 : b = x := by omega
      rw [e, e2]

theorem ints2 {vs : List Value} {a b : Int} (h : IntsAre vs [a, b]) : ∃ u1 u2, vs = [.int a u1, .int b u2] := by
  cases h with | cons _ u1 h => cases h with | cons _ u2 h => cases h; exact ⟨_, _, rfl⟩
def intHit (x : Int) : Value → Bool
  | .int y _ => y == x
  | _ => false
theorem intHit_at (x : Int) (t : Tok) {A : Around} {s : Shared} (y : Int) (u : Tok) : EqAt A s (.int y u) (.int x t) (intHit x (.int y u)) := EqAt.int_int y u x t
section
variable {w : World} {A : Around} {E : Value → Shared → Prop} {gs : Array GenState} {dr : Drawn} {os : OsState} {tk : Tok}
  {b₀ h : Heap} {L : Addr} {m mg mb : Str → Option Value} {mean : ExcName → Option Value} {pre : List (Addr × Obj)} {α : BA} {σ : BC} {B : List Tm} {Q : Value → Shared → Prop}

theorem formed_c {told a b : Nat} {t1 t2 t3 : Tok} (G : Bs w b₀ mean mg mb) (r : Rm A 6) (W : Fx b₀ h L m (pre ++ bankLed w.params 388 α σ)) (O : Ok prg w σ B) (wg : Wg B) (h1 : told < B.length) (ha : a < B.length) (hb' : b < B.length) (hb : B.length ≤ 15000000)
    (k : ∀ h' tk' σ', Ok prg w σ' (formedOf B told a b).2 → Fx b₀ h' L m (pre ++ bankLed w.params 388 α σ') → Q (.bool (formedOf B told a b).1) ⟨h', gs, dr, tk', os⟩) :
    wpAny (model prg w) A (call (.ref 555) [.ref α.self, .int told t1, .int a t2, .int b t3]) Q E ⟨h, gs, dr, tk, os⟩ := by
  have hh := r.hh
  walk_at "v_enter"
  intro oL L' h₁ tk₁ W
  walk_at "vv"
  refine bare_c (pre := (L, oL) :: pre) G (r.deeper.le (by walk_at "v_b")) W O wg.wf ha (by walk_at "v_b") ?_
  intro h₂ tk₂ tx W
  walk_at "vv"
  refine bare_c (pre := (L, oL) :: pre) G (r.deeper.le (by walk_at "v_b")) W O wg.wf hb' (by walk_at "v_b") ?_
  intro h₃ tk₃ ty W
  walk_at "vv"
  rename Fx _ _ _ _ _ => W
  refine rSorted (vs := [.int (bareOf B a) tx, .int (bareOf B b) ty]) W (.head _) (.cons _ _ (.cons _ _ .nil)) (by first | walk_at "v_mem" | simp) ?_
  intro bl h₄ vs' ns' e₄ W hI hp hs
  have e := sorted2 hp hs
  subst e
  have W := W.sub (led' := (bl, listOf vs'.toArray e₄) :: (L, oL) :: (pre ++ bankLed w.params 388 α σ)) (.cons_cons _ (.cons _ (List.Sublist.refl _)))
  walk_at "vv"
  refine true_c (pre := (bl, listOf vs'.toArray e₄) :: (L, oL) :: pre) G (r.deeper.le (by walk_at "v_b")) W ?_
  intro h₅ tk₅ ty1 W
  walk_at "vv"
  refine false_c (pre := (bl, listOf vs'.toArray e₄) :: (L, oL) :: pre) G (r.deeper.le (by walk_at "v_b")) W ?_
  intro h₆ tk₆ ty2 W
  walk_at "vv"
  obtain ⟨u1, u2, rfl⟩ := ints2 hI
  rename Fx _ _ _ _ _ => W
  walk_at "v_unpT"
  walk_at "vv"
  rename Fx _ _ _ _ _ => W
  refine rItemL (i := 0) (v := .int (min (bareOf B a) (bareOf B b) : Nat) u1) W (by walk_at "v_mem") rfl (by decide) ?_
  walk_at "vv"
  refine rItemL (i := 1) (v := .int (max (bareOf B a) (bareOf B b) : Nat) u2) W (by walk_at "v_mem") rfl (by decide) ?_
  walk_at "vv"
  by_cases hlh : min (bareOf B a) (bareOf B b) = max (bareOf B a) (bareOf B b)
  · rw [if_pos (by rw [hlh]; simp)]
    have e1 : formedOf B told a b = (decide (told = if a = b then 1 else 2), B) := by unfold formedOf; dsimp only; rw [if_pos hlh]
    rw [e1] at k
    walk_at "vv"
    by_cases hab : a = b
    · have e2 : ((a : Int) != (b : Int)) = false := by rw [hab]; simp
      rw [e2]
      simp only [Bool.false_eq_true, if_false]
      refine rItemL (i := 0) (v := .int 1 ty1) W (by walk_at "v_mem") rfl (by decide) ?_
      walk_at "vv"
      have e3 : ((told : Int) == 1) = decide (told = if a = b then 1 else 2) := by rw [if_pos hab]; by_cases h : told = 1 <;> simp [h] <;> omega
      rw [e3]
      exact backD [_, _, _] W fun W => k _ _ _ O W
    · have e2 : ((a : Int) != (b : Int)) = true := by simp; omega
      rw [e2]
      simp only [if_true]
      refine rItemL (i := 1) (v := .int 2 ty2) W (by walk_at "v_mem") rfl (by decide) ?_
      walk_at "vv"
      have e3 : ((told : Int) == 2) = decide (told = if a = b then 1 else 2) := by rw [if_neg hab]; by_cases h : told = 2 <;> simp [h] <;> omega
      rw [e3]
      exact backD [_, _, _] W fun W => k _ _ _ O W
  rw [if_neg (by simpa using fun h : ((min (bareOf B a) (bareOf B b) : Nat) : Int) = (max (bareOf B a) (bareOf B b) : Nat) => hlh (Int.ofNat.inj h))]
  walk_at "vv"
  refine rItemL (i := 0) (v := .int (min (bareOf B a) (bareOf B b) : Nat) u1) W (by walk_at "v_mem") rfl (by decide) ?_
  walk_at "vv"
  rename Fx _ _ _ _ _ => W
  refine rInL (intHit (min (bareOf B a) (bareOf B b) : Nat)) (vs := [.int 1 ty1, .int 2 ty2]) W (by walk_at "v_mem") (fun y hy A s => ?_) ?_
  · rcases List.mem_cons.mp hy with rfl | hy
    · exact intHit_at _ _ _ _
    · rw [List.mem_singleton.mp hy]; exact intHit_at _ _ _ _
  have e5 : ([Value.int 1 ty1, .int 2 ty2].any (intHit (min (bareOf B a) (bareOf B b) : Nat))) = decide (min (bareOf B a) (bareOf B b) = 1 ∨ min (bareOf B a) (bareOf B b) = 2) := by
    simp only [List.any_cons, List.any_nil, intHit, Bool.or_false]
    generalize min (bareOf B a) (bareOf B b) = lo
    by_cases g1 : lo = 1
    · subst g1; rfl
    · by_cases g2 : lo = 2
      · subst g2; rfl
      · have a1 : ((1 : Int) == lo) = false := by simp; omega
        have a2 : ((2 : Int) == lo) = false := by simp; omega
        rw [a1, a2]; simp [g1, g2]
  rw [e5]
  walk_at "vv"
  by_cases hlo : min (bareOf B a) (bareOf B b) = 1 ∨ min (bareOf B a) (bareOf B b) = 2
  · rw [if_pos (by simpa using hlo)]
    have e1 : formedOf B told a b = (decide (told = max (bareOf B a) (bareOf B b) ∨ told = (notOf B (max (bareOf B a) (bareOf B b))).1), (notOf B (max (bareOf B a) (bareOf B b))).2) := by unfold formedOf; dsimp only; rw [if_neg hlh, if_pos hlo]
    rw [e1] at k
    have hmax : max (bareOf B a) (bareOf B b) < B.length := by have := bareOf_lt wg.wf ha; have := bareOf_lt wg.wf hb'; omega
    walk_at "vv"
    refine rItemL (i := 1) (v := .int (max (bareOf B a) (bareOf B b) : Nat) u2) (by assumption) (by walk_at "v_mem") rfl (by decide) ?_
    walk_at "vv"
    refine rItemL (i := 1) (v := .int (max (bareOf B a) (bareOf B b) : Nat) u2) (by assumption) (by walk_at "v_mem") rfl (by decide) ?_
    walk_at "vv"
    rename Fx _ _ _ _ _ => W
    have W := W.sub (led' := (bl, listOf [Value.int (min (bareOf B a) (bareOf B b) : Nat) u1, .int (max (bareOf B a) (bareOf B b) : Nat) u2].toArray e₄) :: (L, oL) :: (pre ++ bankLed w.params 388 α σ)) (by walk_at "v_drop")
    refine not_c (pre := (bl, listOf [Value.int (min (bareOf B a) (bareOf B b) : Nat) u1, .int (max (bareOf B a) (bareOf B b) : Nat) u2].toArray e₄) :: (L, oL) :: pre) G (r.deeper.le (by walk_at "v_b")) W O hmax (neg_args wg.wf) (by walk_at "v_b") ?_
    intro h₇ tk₇ σ7 tn O7 W
    generalize notOf B (max (bareOf B a) (bareOf B b)) = p7 at O7 k ⊢
    walk_at "vv"
    rename Fx _ _ _ _ _ => W
    refine rInT (intHit told) W (by walk_at "v_mem") (fun y hy A s => ?_) ?_
    · rcases List.mem_cons.mp hy with rfl | hy
      · exact intHit_at _ _ _ _
      · rw [List.mem_singleton.mp hy]; exact intHit_at _ _ _ _
    have e6 : ([Value.int (max (bareOf B a) (bareOf B b) : Nat) u2, .int p7.1 tn].any (intHit told)) = decide (told = max (bareOf B a) (bareOf B b) ∨ told = p7.1) := by
      simp only [List.any_cons, List.any_nil, intHit, Bool.or_false]
      generalize max (bareOf B a) (bareOf B b) = hi
      by_cases g1 : told = hi
      · subst g1; simp
      · by_cases g2 : told = p7.1
        · rw [← g2]; simp
        · have a1 : ((hi : Int) == told) = false := by simp; omega
          have a2 : ((p7.1 : Int) == told) = false := by simp; omega
          rw [a1, a2]; simp [g1, g2]
    rw [e6]
    exact backD [_, _] W fun W => k _ _ _ O7 W
  rw [if_neg (by simpa using hlo)]
  have e1 : formedOf B told a b = (decide (opAt B (bareOf B told) = .eq ∧ argsAt B (bareOf B told) = [min (bareOf B a) (bareOf B b), max (bareOf B a) (bareOf B b)]), B) := by unfold formedOf; dsimp only; rw [if_neg hlh, if_neg hlo]
  rw [e1] at k
  walk_at "vv"
  rename Fx _ _ _ _ _ => W
  have W := W.sub (led' := (bl, listOf [Value.int (min (bareOf B a) (bareOf B b) : Nat) u1, .int (max (bareOf B a) (bareOf B b) : Nat) u2].toArray e₄) :: (L, oL) :: (pre ++ bankLed w.params 388 α σ)) (by walk_at "v_drop")
  refine bare_c (pre := (bl, listOf [Value.int (min (bareOf B a) (bareOf B b) : Nat) u1, .int (max (bareOf B a) (bareOf B b) : Nat) u2].toArray e₄) :: (L, oL) :: pre) G (r.deeper.le (by walk_at "v_b")) W O wg.wf h1 (by walk_at "v_b") ?_
  intro h₇ tk₇ tz W
  have hz := bareOf_lt wg.wf h1
  generalize bareOf B told = z at hz k ⊢
  walk_at "vv"
  rename Fx _ _ _ _ _ => W
  refine op_c2 (pre := (bl, listOf [Value.int (min (bareOf B a) (bareOf B b) : Nat) u1, .int (max (bareOf B a) (bareOf B b) : Nat) u2].toArray e₄) :: (L, oL) :: pre) G (r.deeper.le (by walk_at "v_b")) W O hz (by walk_at "v_b") ?_
  intro h₈ tk₈ to₈ W
  walk_at "vv"
  rw [opq_eq]
  by_cases hop : opAt B z = .eq
  · rw [if_pos (by simpa using hop)]
    walk_at "vv"
    rename Fx _ _ _ _ _ => W
    refine args_c2 (pre := (bl, listOf [Value.int (min (bareOf B a) (bareOf B b) : Nat) u1, .int (max (bareOf B a) (bareOf B b) : Nat) u2].toArray e₄) :: (L, oL) :: pre) G (r.deeper.le (by walk_at "v_b")) W O hz (by walk_at "v_b") ?_
    intro h₉ tk₉ aa ha9 W
    walk_at "vv"
    have hsz := args_sz wg z
    obtain ⟨vs9, hm9, hI9⟩ := ha9
    have hl9 : vs9.length = (argsAt B z).length := by rw [ints_len hI9, List.length_map]
    rename Fx _ _ _ _ _ => W
    refine rListOfTup W (by walk_at "v_mem") (by walk_at "v_b") ?_
    intro x9 h10 c10 W
    walk_at "vv"
    refine rEqL natV_eq (ys := [min (bareOf B a) (bareOf B b), max (bareOf B a) (bareOf B b)]) W (.head _) (.tail _ (.head _)) (Carry.nats hI9) (Carry.nats (l := [min (bareOf B a) (bareOf B b), max (bareOf B a) (bareOf B b)]) (.cons _ _ (.cons _ _ .nil))) (Rm.units (k := 2) (r.deeper.le (by walk_at "v_b"))) ?_
    have e7 : decide (opAt B z = .eq ∧ argsAt B z = [min (bareOf B a) (bareOf B b), max (bareOf B a) (bareOf B b)]) = decide (argsAt B z = [min (bareOf B a) (bareOf B b), max (bareOf B a) (bareOf B b)]) := by simp [hop]
    rw [e7] at k
    exact backD [_, _] W fun W => k _ _ _ O W
  · rw [if_neg (by simpa using hop)]
    have e7 : decide (opAt B z = .eq ∧ argsAt B z = [min (bareOf B a) (bareOf B b), max (bareOf B a) (bareOf B b)]) = false := by simp [hop]
    rw [e7] at k
    walk_at "vv"
    rw [decide_eq_false hop]
    exact backD [_] W fun W => k _ _ _ O W
end
end
section
theorem Step.b {B : List Tm} {p : Nat × List Tm} {n m : Nat} (s : Step B p n) (h : B.length ≤ m) : p.2.length ≤ m + n := Nat.le_trans s.len (Nat.add_le_add_right h n)
theorem RowsOk.ext {w : World} {B B' : List Tm} {oR : Obj} {rls : List (Addr × Obj)} (h : RowsOk w B oR rls) (x : Ext B B') (g : Wg B') (hl : 7 ≤ B.length) : RowsOk w B' oR rls := by
  obtain ⟨kvs, h1, h2, h3⟩ := h
  refine ⟨kvs, h1, fun k v hv => ?_, fun i hi ha => ?_⟩
  · obtain ⟨i, e, hi, l, n, e2, hm⟩ := h2 k v hv
    exact ⟨i, e, Nat.lt_of_lt_of_le hi x.len, l, n, e2, by rw [rowOf_ext x hi]; exact hm⟩
  · have hx := List.getElem?_eq_getElem hi
    rw [opAt_of hx] at ha
    have i7 := g.ap i _ hx ha
    exact h3 i (by walk_at "v_b") (by rw [← x.op (by walk_at "v_b"), opAt_of hx]; exact ha)
theorem RowRefs.three {B : List Tm} {rls : List (Addr × Obj)} {a b c : Nat} {ys : List Value} (h : RowRefs B rls [a, b, c] ys) : ∃ la lb lc na nb nc, ys = [.ref la, .ref lb, .ref lc] ∧ (la, listOf ((rowOf B a).map Value.bool).toArray na) ∈ rls ∧ (lb, listOf ((rowOf B b).map Value.bool).toArray nb) ∈ rls ∧ (lc, listOf ((rowOf B c).map Value.bool).toArray nc) ∈ rls := by
  obtain ⟨hl, h⟩ := h
  obtain ⟨la, na, a1, a2⟩ := h 0 a rfl
  obtain ⟨lb, nb, b1, b2⟩ := h 1 b rfl
  obtain ⟨lc, nc, c1, c2⟩ := h 2 c rfl
  refine ⟨la, lb, lc, na, nb, nc, ?_, a2, b2, c2⟩
  match ys, hl with
  | [x, y, z], _ =>
    simp at a1 b1 c1
    rw [a1, b1, c1]
theorem row_at {B : List Tm} {s i : Nat} {v : Value} (h : ((rowOf B s).map Value.bool).toArray[i]? = some v) : v = .bool (valOf B i s) ∧ i < 16 := by
  rw [List.getElem?_toArray, List.getElem?_map] at h
  unfold rowOf at h
  rw [List.getElem?_map] at h
  by_cases hi : i < 16
  · rw [List.getElem?_range hi] at h
    exact ⟨(Option.some.inj h).symm, hi⟩
  · rw [List.getElem?_eq_none (by simp; omega)] at h; cases h
theorem zip_rows (B : List Tm) (a b : Nat) : (List.range 16).map (fun j => Value.bool (valOf B j a == valOf B j b)) = (List.zipWith (· == ·) (rowOf B a) (rowOf B b)).map Value.bool := by
  unfold rowOf; rw [List.zipWith_map, List.zipWith_self, List.map_map]; rfl
theorem zip_rows3 (B : List Tm) (a b c : Nat) : (List.range 16).map (fun j => Value.bool ((valOf B j a == valOf B j b) == valOf B j c)) = (List.zipWith (· == ·) (List.zipWith (· == ·) (rowOf B a) (rowOf B b)) (rowOf B c)).map Value.bool := by
  unfold rowOf; rw [List.zipWith_map, List.zipWith_self, List.zipWith_map, List.zipWith_self, List.map_map]; rfl
theorem odd3 (p q r : Bool) : (Int.fmod (([Value.bool p, .bool q, .bool r].countP (boolHit true) : Nat) : Int) 2 == 1) = ((p == q) == r) := by
  cases p <;> cases q <;> cases r <;> rfl
def NJ (rs : Nat → Nat) (i : Nat) (ys : Array Value) : Prop := ys.size = i ∧ ∀ j, j < i → ∃ t, ys[j]? = some (.int (rs j : Nat) t)
theorem NJ.push {rs : Nat → Nat} {i : Nat} {ys : Array Value} {t : Tok} (x : NJ rs i ys) : NJ rs (i + 1) (ys.push (.int (rs i : Nat) t)) := by
  refine ⟨by simp [x.1], fun j hj => ?_⟩
  by_cases e : j = i
  · subst e; exact ⟨t, by rw [Array.getElem?_push, if_pos x.1.symm]⟩
  · obtain ⟨u, h⟩ := x.2 j (by walk_at "v_b")
    exact ⟨u, by rw [Array.getElem?_push, if_neg (by rw [x.1]; exact e)]; exact h⟩
theorem NJ.carry {rs : Nat → Nat} {i : Nat} {ys : Array Value} (x : NJ rs i ys) : Carry NatV ((List.range i).map rs) ys.toList := by
  refine ⟨by simp [x.1], fun j y v h1 h2 => ?_⟩
  by_cases hj : j < i
  · obtain ⟨t, h⟩ := x.2 j hj
    rw [List.getElem?_map, List.getElem?_range hj] at h1
    rw [Array.getElem?_toList, h] at h2
    exact ⟨t, by rw [← Option.some.inj h1, ← Option.some.inj h2]⟩
  · rw [List.getElem?_eq_none (by simp; omega)] at h1; cases h1
def rs4 (a late : Nat) : Nat → Nat
  | 0 => 1
  | 1 => 2
  | 2 => a
  | _ => late
def bk4 (b0 b1 b2 b3 b4 : List Tm) : Nat → List Tm
  | 0 => b0
  | 1 => b1
  | 2 => b2
  | 3 => b3
  | _ => b4
theorem HR.mono {P : Params} {C : Addr} {α : BA} {ρ : RA} {l l' : List (Addr × Obj)} (h : HR P C α ρ l) (s : ∀ p ∈ l, p ∈ l') : HR P C α ρ l' := ⟨s _ h.i, s _ h.d⟩
section
variable {w : World} {A : Around} {E : Value → Shared → Prop} {gs : Array GenState} {dr : Drawn} {os : OsState} {tk : Tok}
  {b₀ h : Heap} {L RD : Addr} {m mg mb : Str → Option Value} {mean : ExcName → Option Value} {pre rls : List (Addr × Obj)} {α : BA} {σ : BC} {B : List Tm} {Q : Value → Shared → Prop} {ρ : RA} {oR : Obj}

theorem is_same_c {a b c : Nat} {ta tb tc : Tok} (G : Bs w b₀ mean mg mb) (r : Rm A 600) (W : Fx b₀ h L m (pre ++ (RD, oR) :: (rls ++ bankLed w.params 388 α σ))) (H : HR w.params 513 α ρ pre) (O : Ok prg w σ B) (g : Gd B) (ha : At B a) (hb : At B b) (hc : At B c) (h7 : 7 ≤ B.length) (hlen : B.length ≤ 150) (hR : RowsOk w B oR rls)
    (k : ∀ h' tk' σ' oR' rls' B', Ok prg w σ' B' → Gd B' → Ext B B' → B'.length ≤ B.length + 22 → RowsOk w B' oR' rls' → Fx b₀ h' L m (pre ++ (RD, oR') :: (rls' ++ bankLed w.params 388 α σ')) → Q (.bool true) ⟨h', gs, dr, tk', os⟩) :
    wpAny (model prg w) A (call (.ref 560) [.ref α.self, .ref ρ.self, .ref RD, .int a ta, .int b tb, .int c tc]) Q E ⟨h, gs, dr, tk, os⟩ := by
  have hh := r.hh
  generalize e1 : sameOf B a b = p1
  generalize e2 : notOf p1.2 a = p2
  generalize e3 : formedOf p2.2 p1.1 a b = p3
  generalize e4 : sameOf p3.2 b a = p4
  generalize e5 : notOf p4.2 b = p5
  generalize e6 : sameOf p5.2 p2.1 p5.1 = p6
  generalize e7 : sameOf p6.2 p2.1 b = p7
  generalize e8 : notOf p7.2 p1.1 = p8
  generalize e9 : sameOf p8.2 p1.1 c = p9
  generalize f1 : sameOf p9.2 a a = q1
  generalize f2 : sameOf q1.2 a p2.1 = q2
  generalize f3 : sameOf q2.2 a 1 = q3
  generalize f4 : sameOf q3.2 a 2 = q4
  obtain ⟨⟨s1, s2, ⟨s3, x3, l3⟩, s4, s5, s6, s7, s8, s9, r1, r2, r3, r4⟩, R1, F3, F4, F6, F7, R9, U1, U2, U3, U4⟩ := chain g ha hb hc e1.symm e2.symm e3.symm e4.symm e5.symm e6.symm e7.symm e8.symm e9.symm f1.symm f2.symm f3.symm f4.symm
  have l1 := s1.len; have l2 := s2.len; have l4 := s4.len; have l5 := s5.len; have l6 := s6.len; have l7 := s7.len; have l8 := s8.len; have l9 := s9.len; have m1 := r1.len; have m2 := r2.len; have m3 := r3.len; have m4 := r4.len
  have v1 := s1.b hlen; have v2 := s2.b v1; have v3 : p3.2.length ≤ _ := Nat.le_trans l3 (Nat.add_le_add_right v2 1); have v4 := s4.b v3; have v5 := s5.b v4; have v6 := s6.b v5; have v7 := s7.b v6; have v8 := s8.b v7; have v9 := s9.b v8; have w1 := r1.b v9; have w2 := r2.b w1; have w3 := r3.b w2; have w4 := r4.b w3
  walk_at "v_enterC"
  intro oL L' h₁ tk₁ cells W Y
  obtain ⟨o1, o2, o3, o4, rfl, d1, d2, d3, d4⟩ := cells4 Y rfl
  replace d1 : o1.data = .cell (some (.int a ta)) := d1
  replace d2 : o2.data = .cell (some (.ref RD)) := d2
  replace d3 : o3.data = .cell (some (.ref ρ.self)) := d3
  replace d4 : o4.data = .cell (some (.ref α.self)) := d4
  obtain ⟨Hi, Hd⟩ := id H
  have a1 := ha.ext s1.x
  walk_at "vv"
  refine same_c (pre := ((L' + 1 + 1 + 1 + 1, o1) :: (L' + 1 + 1 + 1, o2) :: (L' + 1 + 1, o3) :: (L' + 1, o4) :: (L, oL) :: (pre ++ (RD, oR) :: rls))) G (r.deeper.le (by walk_at "v_b")) (by simpa using W) (H.mono fun p hp => by simp [hp]) O g.wg.wf ha.1 hb.1 (by walk_at "v_b") ?_
  rw [e1]
  intro h₂ tk₂ σ1 tn1 O1 W
  walk_at "vv"
  refine not_c (pre := ((L' + 1 + 1 + 1 + 1, o1) :: (L' + 1 + 1 + 1, o2) :: (L' + 1 + 1, o3) :: (L' + 1, o4) :: (L, oL) :: (pre ++ (RD, oR) :: rls))) G (r.deeper.le (by walk_at "v_b")) W O1 a1.1 (neg_args s1.gd.wg.wf) (by walk_at "v_b") ?_
  rw [e2]
  intro h₃ tk₃ σ2 tn2 O2 W
  walk_at "vv"
  walk_at "v_unpT"
  walk_at "vv"
  rename Fx _ _ _ _ _ => W
  have W := W.sub (led' := ((L' + 1 + 1 + 1 + 1, o1) :: (L' + 1 + 1 + 1, o2) :: (L' + 1 + 1, o3) :: (L' + 1, o4) :: (L, oL) :: (pre ++ (RD, oR) :: rls)) ++ bankLed w.params 388 α σ2) (by walk_at "v_drop")
  have hR2 : RowsOk w p2.2 oR rls := (hR.ext s1.x s1.gd.wg h7).ext s2.x s2.gd.wg (Nat.le_trans h7 s1.x.len)
  have a2 := a1.ext s2.x
  have b2 := (hb.ext s1.x).ext s2.x
  have c2 := (hc.ext s1.x).ext s2.x
  have t2 := s1.at1.ext s2.x
  refine rComp ?_ rfl rfl (by decide) (fun _ => rfl)
  walk_at "v"
  walk_at "vv"
  rename Fx _ _ _ _ _ => W
  rename_i tt _
  refine comp_tup (t := tt) (vs := [.int a ta, .int b tb, .int c tc]) hh W (.head _) (by first | walk_at "v_mem" | simp) (fun i ys led₁ => ∃ oR' rls', led₁ = (tt, tupO [.int a ta, .int b tb, .int c tc]) :: ((L' + 1 + 1 + 1 + 1, o1) :: (L' + 1 + 1 + 1, o2) :: (L' + 1 + 1, o3) :: (L' + 1, o4) :: (L, oL) :: (pre ++ (RD, oR') :: (rls' ++ bankLed w.params 388 α σ2))) ∧ RowsOk w p2.2 oR' rls' ∧ (∀ p ∈ rls, p ∈ rls') ∧ ys.size = i ∧ RowRefs p2.2 rls' ([a, b, c].take i) ys.toList)
    ⟨oR, rls, by simp, hR2, fun _ hp => hp, rfl, rfl, fun j s e => by simp at e⟩ ?_ ?_ ?_
  · rintro i ys led₁ ⟨oR', rls', rfl, _, _, e, _⟩
    exact ⟨Nat.le_of_eq e, .head _⟩
  · rintro C i v ys e D oL1 m₁ led₁ it₁ cells₁ h₁ tk₁ E' hi hP ⟨oR', rls', rfl, hR', hsub, hys, hrefs⟩ hc' hdc W
    obtain rfl : cells₁ = [] := List.map_eq_nil_iff.mp hc'
    rw [List.nil_append] at W
    walk_at "v_asg"
    walk_at "vv"
    rename Fx _ _ _ _ _ => W
    obtain ⟨nn, tn, rfl, hs⟩ := ints_get (ns := [(a : Int), b, c]) (.cons _ _ (.cons _ _ (.cons _ _ .nil))) hP
    rw [show [(a : Int), b, c] = [a, b, c].map (fun n : Nat => (n : Int)) from rfl, List.getElem?_map] at hs
    obtain ⟨s, hs', rfl⟩ := Option.map_eq_some_iff.mp hs
    have hst : s < p2.2.length := by
      have := List.mem_of_getElem? hs'
      simp only [List.mem_cons, List.not_mem_nil, or_false] at this
      rcases this with rfl | rfl | rfl
      · exact a2.1
      · exact b2.1
      · exact c2.1
    refine row_c (s + 1) (t := s) (pre := (D, listOf ys e) :: (L', oL1) :: it₁ :: (tt, tupO [.int a ta, .int b tb, .int c tc]) :: ((L' + 1 + 1 + 1 + 1, o1) :: (L' + 1 + 1 + 1, o2) :: (L' + 1 + 1, o3) :: (L' + 1, o4) :: (L, oL) ::  pre)) (by walk_at "v_b") G (r.deeper.le (by walk_at "v_b")) (by simpa using W) O2 s2.gd.wg (by walk_at "v_b") (by walk_at "v_b") hR' ?_
    intro h₂ tk₂ oR2 rls2 l n hR2 hsub2 hl W
    refine CEnd.intro [] (by simpa using W) rfl (fun _ hp => nomatch hp) ⟨oR2, rls2, by simp, hR2, fun p hp => hsub2 p (hsub p hp), by simp [hys], ?_⟩
    rw [List.take_add_one, hs', Array.toList_push]
    exact hrefs.push hsub2 hl
  · rintro D h₄ tk₄ ys e led' W ⟨oR', rls', rfl, hR', hsub, hys, hrefs⟩
    walk_at "vv"
    obtain ⟨la, lb, lc, na, nb, nc, hys3, ma, mb', mc⟩ := RowRefs.three (a := a) (b := b) (c := c) hrefs
    refine rAsgL (vs := [.ref la, .ref lb, .ref lc]) (e := e) hh W (by rw [← hys3, Array.toArray_toList]; exact .head _) ?_ rfl rfl
    intro h₅ W
    dsimp only [assignEach, List.map_cons, List.map_nil]
    walk_at "vv"
    rename Fx _ _ _ _ _ => W
    have W := W.sub (led' := ((L' + 1 + 1 + 1 + 1, o1) :: (L' + 1 + 1 + 1, o2) :: (L' + 1 + 1, o3) :: (L' + 1, o4) :: (L, oL) :: (pre ++ (RD, oR') :: (rls' ++ bankLed w.params 388 α σ2)))) (by walk_at "v_drop")
    refine row_c (p1.1 + 1) (t := p1.1) (pre := (L' + 1 + 1 + 1 + 1, o1) :: (L' + 1 + 1 + 1, o2) :: (L' + 1 + 1, o3) :: (L' + 1, o4) :: (L, oL) ::  pre) (by walk_at "v_b") G (r.deeper.le (by have := t2.1; walk_at "v_b")) W O2 s2.gd.wg t2.1 (by walk_at "v_b") hR' ?_
    intro h₆ tk₆ oR3 rls3 lt nt hR3 hsub3 hlt W
    walk_at "vv"
    refine rComp ?_ rfl rfl (by decide) (fun _ => rfl)
    walk_at "vv"
    rename Fx _ _ _ _ _ => W
    have ma' : (la, listOf ((rowOf p2.2 a).map Value.bool).toArray na) ∈ (L' + 1 + 1 + 1 + 1, o1) :: (L' + 1 + 1 + 1, o2) :: (L' + 1 + 1, o3) :: (L' + 1, o4) :: (L, oL) ::  (pre ++ (RD, oR3) :: (rls3 ++ bankLed w.params 388 α σ2)) := by simp [hsub3 _ ma]
    have mb'' : (lb, listOf ((rowOf p2.2 b).map Value.bool).toArray nb) ∈ (L' + 1 + 1 + 1 + 1, o1) :: (L' + 1 + 1 + 1, o2) :: (L' + 1 + 1, o3) :: (L' + 1, o4) :: (L, oL) ::  (pre ++ (RD, oR3) :: (rls3 ++ bankLed w.params 388 α σ2)) := by simp [hsub3 _ mb']
    refine' itr_zip (vs := ((rowOf p2.2 a).map Value.bool).toArray) (ws := ((rowOf p2.2 b).map Value.bool).toArray) hh W ma' mb'' ?main
    case main =>
      intro h₇ ez its it T
      refine Itr.self T ?_
      refine comp_fix T (by unfold rowOf; simp) (fun p hp => ?_) (fun j y => y = (fun j => Value.bool (valOf p2.2 j a == valOf p2.2 j b)) j) ?_ ?_
      · simp only [List.mem_cons, List.not_mem_nil, or_false] at hp
        rcases hp with rfl | rfl | rfl
        · exact .head _
        · exact .tail _ ma'
        · exact .tail _ mb''
      · rintro C i v ys3 n3e D3 oL3 m₃ its₃ cells₃ h₈ tk₈ E₃ hi ⟨T3, x3', y3, rfl, hx3, hy3, hT3⟩ hJ3 hc3 hd3 W
        obtain rfl : cells₃ = [] := List.map_eq_nil_iff.mp hc3
        rw [List.nil_append] at W
        refine rAsgT hh W hT3 ?_ rfl rfl
        intro h₉ W
        dsimp only [assignEach, List.map_cons, List.map_nil]
        walk_at "vv"
        obtain ⟨rfl, _⟩ := row_at hx3
        obtain ⟨rfl, _⟩ := row_at hy3
        refine PyProof.Rows.eq_bool ?_
        exact CEnd.intro [] (by assumption) rfl (fun _ hp => nomatch hp) (hJ3.push rfl)
      · intro D3 h₈ tk₈ ys3 n3e W hJ3
        walk_at "vv"
        rw [show min ((rowOf p2.2 a).map Value.bool).toArray.size ((rowOf p2.2 b).map Value.bool).toArray.size = 16 by unfold rowOf; simp] at hJ3
        have e5 := hJ3.eq
        rw [zip_rows, ← R1] at e5
        subst e5
        refine rNeL (n1 := nt) boolV_eq W (by simp [hlt]) (.head _) (Carry.bools (rowOf p2.2 p1.1)) (Carry.bools (rowOf p2.2 p1.1)) (Rm.units (k := 2) (r.deeper.le (by walk_at "v_b"))) ?_
        rw [show decide (rowOf p2.2 p1.1 ≠ rowOf p2.2 p1.1) = false by simp]
        walk_at "vv"
        rw [if_neg Bool.false_ne_true]
        walk_at "vv"
        have W := W.sub (led' := ((L' + 1 + 1 + 1 + 1, o1) :: (L' + 1 + 1 + 1, o2) :: (L' + 1 + 1, o3) :: (L' + 1, o4) :: (L, oL) :: (pre ++ (RD, oR3) :: rls3)) ++ bankLed w.params 388 α σ2) (by simpa using (List.Sublist.refl _).cons _ |>.cons _)
        refine formed_c (pre := ((L' + 1 + 1 + 1 + 1, o1) :: (L' + 1 + 1 + 1, o2) :: (L' + 1 + 1, o3) :: (L' + 1, o4) :: (L, oL) :: (pre ++ (RD, oR3) :: rls3))) G (r.deeper.le (by walk_at "v_b")) W O2 s2.gd.wg t2.1 a2.1 b2.1 (by walk_at "v_b") ?_
        rw [e3, F3]
        intro h10 tk10 σ3 O3 W
        have HM : HR w.params 513 α ρ ((L' + 1 + 1 + 1 + 1, o1) :: (L' + 1 + 1 + 1, o2) :: (L' + 1 + 1, o3) :: (L' + 1, o4) :: (L, oL) :: (pre ++ (RD, oR3) :: rls3)) := H.mono fun p hp => by simp [hp]
        obtain ⟨HMi, HMd⟩ := id HM
        walk_at "vv"
        rw [if_neg (show ¬ ((!true) = true) by decide)]
        walk_at "vv"
        rw [if_neg Bool.false_ne_true]
        walk_at "vv"
        have a3 := a2.ext x3
        have b3 := b2.ext x3
        refine same_c (pre := ((L' + 1 + 1 + 1 + 1, o1) :: (L' + 1 + 1 + 1, o2) :: (L' + 1 + 1, o3) :: (L' + 1, o4) :: (L, oL) :: (pre ++ (RD, oR3) :: rls3))) G (r.deeper.le (by walk_at "v_b")) W HM O3 s3.wg.wf b3.1 a3.1 (by walk_at "v_b") ?_
        rw [e4]
        intro h11 tk11 σ4 tn4 O4 W
        walk_at "vv"
        rw [F4, show ((p1.1 : Int) != (p1.1 : Int)) = false by simp, if_neg Bool.false_ne_true]
        walk_at "vv"
        have b4 := b3.ext s4.x
        refine not_c (pre := ((L' + 1 + 1 + 1 + 1, o1) :: (L' + 1 + 1 + 1, o2) :: (L' + 1 + 1, o3) :: (L' + 1, o4) :: (L, oL) :: (pre ++ (RD, oR3) :: rls3))) G (r.deeper.le (by walk_at "v_b")) W O4 b4.1 (neg_args s4.gd.wg.wf) (by walk_at "v_b") ?_
        rw [e5]
        intro h12 tk12 σ5 tn5 O5 W
        walk_at "vv"
        have x25 := (x3.trans s4.x).trans s5.x
        have lt5 := s2.at1.ext x25
        have b5 := b4.ext s5.x
        refine same_c (pre := ((L' + 1 + 1 + 1 + 1, o1) :: (L' + 1 + 1 + 1, o2) :: (L' + 1 + 1, o3) :: (L' + 1, o4) :: (L, oL) :: (pre ++ (RD, oR3) :: rls3))) G (r.deeper.le (by walk_at "v_b")) W HM O5 s5.gd.wg.wf lt5.1 s5.at1.1 (by walk_at "v_b") ?_
        rw [e6]
        intro h13 tk13 σ6 tn6 O6 W
        walk_at "vv"
        rw [F6, show ((p1.1 : Int) != (p1.1 : Int)) = false by simp, if_neg Bool.false_ne_true]
        walk_at "vv"
        have lt6 := lt5.ext s6.x
        have b6 := b5.ext s6.x
        refine same_c (pre := ((L' + 1 + 1 + 1 + 1, o1) :: (L' + 1 + 1 + 1, o2) :: (L' + 1 + 1, o3) :: (L' + 1, o4) :: (L, oL) :: (pre ++ (RD, oR3) :: rls3))) G (r.deeper.le (by walk_at "v_b")) W HM O6 s6.gd.wg.wf lt6.1 b6.1 (by walk_at "v_b") ?_
        rw [e7]
        intro h14 tk14 σ7 tn7 O7 W
        walk_at "vv"
        have t7 := (t2.ext (x25.trans s6.x)).ext s7.x
        refine not_c (pre := ((L' + 1 + 1 + 1 + 1, o1) :: (L' + 1 + 1 + 1, o2) :: (L' + 1 + 1, o3) :: (L' + 1, o4) :: (L, oL) :: (pre ++ (RD, oR3) :: rls3))) G (r.deeper.le (by walk_at "v_b")) W O7 t7.1 (neg_args s7.gd.wg.wf) (by walk_at "v_b") ?_
        rw [e8]
        intro h15 tk15 σ8 tn8 O8 W
        walk_at "vv"
        rw [F7, show ((p8.1 : Int) != (p8.1 : Int)) = false by simp, if_neg Bool.false_ne_true]
        walk_at "vv"
        rw [if_neg Bool.false_ne_true]
        walk_at "vv"
        refine rCompAssign ?_ rfl rfl rfl (by decide) (fun _ => rfl)
        walk_at "vv"
        rename Fx _ _ _ _ _ => W
        have za : (la, listOf ((rowOf p2.2 a).map Value.bool).toArray na) ∈ ((L' + 1 + 1 + 1 + 1, o1) :: (L' + 1 + 1 + 1, o2) :: (L' + 1 + 1, o3) :: (L' + 1, o4) :: (L, oL) :: (pre ++ (RD, oR3) :: rls3)) ++ bankLed w.params 388 α σ8 := by simp [hsub3 _ ma]
        have zb : (lb, listOf ((rowOf p2.2 b).map Value.bool).toArray nb) ∈ ((L' + 1 + 1 + 1 + 1, o1) :: (L' + 1 + 1 + 1, o2) :: (L' + 1 + 1, o3) :: (L' + 1, o4) :: (L, oL) :: (pre ++ (RD, oR3) :: rls3)) ++ bankLed w.params 388 α σ8 := by simp [hsub3 _ mb']
        have zc : (lc, listOf ((rowOf p2.2 c).map Value.bool).toArray nc) ∈ ((L' + 1 + 1 + 1 + 1, o1) :: (L' + 1 + 1 + 1, o2) :: (L' + 1 + 1, o3) :: (L' + 1, o4) :: (L, oL) :: (pre ++ (RD, oR3) :: rls3)) ++ bankLed w.params 388 α σ8 := by simp [hsub3 _ mc]
        refine' itr_zip3 (xs := ((rowOf p2.2 a).map Value.bool).toArray) (ys := ((rowOf p2.2 b).map Value.bool).toArray) (zs := ((rowOf p2.2 c).map Value.bool).toArray) hh W za zb zc (by unfold rowOf; simp) (by unfold rowOf; simp) ?main
        case main =>
          intro h16 ez3 its3 it3 T3
          refine Itr.self T3 ?_
          refine comp_fix_use T3 (by unfold rowOf; simp) ?hL ?hy ?hp (fun p hp => ?_) (fun j y => y = (fun j => Value.bool ((valOf p2.2 j a == valOf p2.2 j b) == valOf p2.2 j c)) j) ?_ ?_
          case hL => exact rfl
          case hy => exact rfl
          case hp => exact rfl
          · simp only [List.mem_cons, List.not_mem_nil, or_false] at hp
            rcases hp with rfl | rfl | rfl | rfl
            · exact .head _
            · exact .tail _ za
            · exact .tail _ zb
            · exact .tail _ zc
          · rintro C i v ys4 n4e D4 oL4 m₄ its₄ cells₄ h17 tk17 E₄ hi ⟨TT, xa, xb, xc, rfl, hxa, hxb, hxc, hTT⟩ hJ4 hc4 hd4 W
            obtain rfl : cells₄ = [] := List.map_eq_nil_iff.mp hc4
            rw [List.nil_append] at W
            refine rAsgT hh W hTT ?_ rfl rfl
            intro h18 W
            dsimp only [assignEach, List.map_cons, List.map_nil]
            walk_at "vv"
            obtain ⟨rfl, _⟩ := row_at hxa
            obtain ⟨rfl, _⟩ := row_at hxb
            obtain ⟨rfl, _⟩ := row_at hxc
            rename Fx _ _ _ _ _ => W
            refine rMethCount W (.head _) ?_
            walk_at "vv"
            refine rCount (vs := [.bool (valOf p2.2 i a), .bool (valOf p2.2 i b), .bool (valOf p2.2 i c)]) (boolHit true) W (.head _) (fun y hy A s => boolHit_at (bs := [valOf p2.2 i a, valOf p2.2 i b, valOf p2.2 i c]) hy) ?_
            intro t19 tk19
            walk_at "vv"
            rw [odd3]
            exact CEnd.intro [] (W.sub (.cons _ (List.Sublist.refl _))) rfl (fun _ hp => nomatch hp) (hJ4.push rfl)
          · intro D4 h17 tk17 ys4 n4e W hJ4
            rw [show ((rowOf p2.2 a).map Value.bool).toArray.size = 16 by unfold rowOf; simp] at hJ4
            have e6 := hJ4.eq
            have x29 := ((((x3.trans s4.x).trans s5.x).trans s6.x).trans s7.x).trans s8.x |>.trans s9.x
            rw [zip_rows3, ← R1, ← rowOf_ext x29 t2.1, ← rowOf_ext x29 c2.1, ← R9] at e6
            subst e6
            walk_at "vv"
            rename Fx _ _ _ _ _ => W
            have W := W.sub (led' := (D4, listOf ((rowOf p9.2 p9.1).map Value.bool).toArray n4e) :: (((L' + 1 + 1 + 1 + 1, o1) :: (L' + 1 + 1 + 1, o2) :: (L' + 1 + 1, o3) :: (L' + 1, o4) :: (L, oL) :: (pre ++ (RD, oR3) :: rls3)) ++ bankLed w.params 388 α σ8)) (.cons_cons _ (.cons _ (List.Sublist.refl _)))
            have t8 := t7.ext s8.x
            have c8 := c2.ext (((((x3.trans s4.x).trans s5.x).trans s6.x).trans s7.x).trans s8.x)
            refine same_c (pre := (D4, listOf ((rowOf p9.2 p9.1).map Value.bool).toArray n4e) :: ((L' + 1 + 1 + 1 + 1, o1) :: (L' + 1 + 1 + 1, o2) :: (L' + 1 + 1, o3) :: (L' + 1, o4) :: (L, oL) :: (pre ++ (RD, oR3) :: rls3))) G (r.deeper.le (by walk_at "v_b")) W (HM.mono fun p hp => .tail _ hp) O8 s8.gd.wg.wf t8.1 c8.1 (by walk_at "v_b") ?_
            rw [e9]
            intro h20 tk20 σ9 tn9 O9 W
            walk_at "vv"
            refine row_c (p9.1 + 1) (t := p9.1) (pre := (D4, listOf ((rowOf p9.2 p9.1).map Value.bool).toArray n4e) :: ((L' + 1 + 1 + 1 + 1, o1) :: (L' + 1 + 1 + 1, o2) :: (L' + 1 + 1, o3) :: (L' + 1, o4) :: (L, oL) ::  pre)) (by walk_at "v_b") G (r.deeper.le (by have := s9.at1.1; walk_at "v_b")) (by simpa using W) O9 s9.gd.wg s9.at1.1 (by walk_at "v_b") (hR3.ext x29 s9.gd.wg (Nat.le_trans h7 (s1.x.trans s2.x).len)) ?_
            intro h21 tk21 oR4 rls4 l9 n9 hR4 hsub4 hl9 W
            walk_at "vv"
            refine rNeL (n1 := n9) boolV_eq W (by simp [hl9]) (.head _) (Carry.bools (rowOf p9.2 p9.1)) (Carry.bools (rowOf p9.2 p9.1)) (Rm.units (k := 2) (r.deeper.le (by walk_at "v_b"))) ?_
            rw [show decide (rowOf p9.2 p9.1 ≠ rowOf p9.2 p9.1) = false by simp]
            walk_at "vv"
            rw [if_neg Bool.false_ne_true]
            have W := W.sub (led' := ((L' + 1 + 1 + 1 + 1, o1) :: (L' + 1 + 1 + 1, o2) :: (L' + 1 + 1, o3) :: (L' + 1, o4) :: (L, oL) :: (pre ++ (RD, oR4) :: rls4)) ++ bankLed w.params 388 α σ9) (by simpa using (List.Sublist.refl _).cons _)
            have HM5 : HR w.params 513 α ρ ((L' + 1 + 1 + 1 + 1, o1) :: (L' + 1 + 1 + 1, o2) :: (L' + 1 + 1, o3) :: (L' + 1, o4) :: (L, oL) :: (pre ++ (RD, oR4) :: rls4)) := H.mono fun p hp => by simp [hp]
            obtain ⟨HMi5, HMd5⟩ := id HM5
            walk_at "vv"
            refine rComp ?_ rfl rfl (by decide) (fun _ => rfl)
            walk_at "vv"
            refine true_c (pre := ((L' + 1 + 1 + 1 + 1, o1) :: (L' + 1 + 1 + 1, o2) :: (L' + 1 + 1, o3) :: (L' + 1, o4) :: (L, oL) :: (pre ++ (RD, oR4) :: rls4))) G (r.deeper.le (by walk_at "v_b")) (by assumption) ?_
            intro h22 tk22 u1 W
            walk_at "vv"
            refine false_c (pre := ((L' + 1 + 1 + 1 + 1, o1) :: (L' + 1 + 1 + 1, o2) :: (L' + 1 + 1, o3) :: (L' + 1, o4) :: (L, oL) :: (pre ++ (RD, oR4) :: rls4))) G (r.deeper.le (by walk_at "v_b")) W ?_
            intro h23 tk23 u2 W
            walk_at "vv"
            rename Fx _ _ _ _ _ => W
            rename_i tt2 _
            have x09 := (s1.x.trans s2.x).trans x29
            have y1 := x09.trans r1.x
            have y2 := y1.trans r2.x
            have y3 := y2.trans r3.x
            refine comp_tup (t := tt2) (vs := [.int a ta, .int p2.1 tn2, .int 1 u1, .int 2 u2]) hh W (.head _) (by first | walk_at "v_mem" | simp) (fun i ys led₁ => ∃ σ', Ok prg w σ' (bk4 p9.2 q1.2 q2.2 q3.2 q4.2 i) ∧ led₁ = (tt2, tupO [.int a ta, .int p2.1 tn2, .int 1 u1, .int 2 u2]) :: (((L' + 1 + 1 + 1 + 1, o1) :: (L' + 1 + 1 + 1, o2) :: (L' + 1 + 1, o3) :: (L' + 1, o4) :: (L, oL) :: (pre ++ (RD, oR4) :: rls4)) ++ bankLed w.params 388 α σ') ∧ NJ (rs4 a p2.1) i ys)
              ⟨σ9, O9, rfl, rfl, fun j hj => absurd hj (Nat.not_lt_zero _)⟩ ?_ ?_ ?_
            · rintro i ys led₁ ⟨σ', _, rfl, e⟩
              exact ⟨Nat.le_of_eq e.1, .head _⟩
            · rintro C i v ys5 n5e D5 oL5 m₅ led₅ it₅ cells₅ h24 tk24 E₅ hi hP ⟨σ', O', rfl, hnj⟩ hc5 hd5 W
              obtain rfl : cells₅ = [] := List.map_eq_nil_iff.mp hc5
              rw [List.nil_append] at W
              walk_at "v_asg"
              walk_at "vv"
              rename Fx _ _ _ _ _ => W
              have hi4 : i = 0 ∨ i = 1 ∨ i = 2 ∨ i = 3 := by simp at hi; omega
              rcases hi4 with rfl | rfl | rfl | rfl
              · have hv := Option.some.inj hP
                subst hv
                replace O' : Ok prg w σ' p9.2 := O'
                have at2 : At p9.2 a := ha.ext x09
                have ata : At p9.2 a := ha.ext x09
                refine same_c (pre := (D5, listOf ys5 n5e) :: (L', oL5) :: it₅ :: (tt2, tupO [.int a ta, .int p2.1 tn2, .int 1 u1, .int 2 u2]) :: ((L' + 1 + 1 + 1 + 1, o1) :: (L' + 1 + 1 + 1, o2) :: (L' + 1 + 1, o3) :: (L' + 1, o4) :: (L, oL) :: (pre ++ (RD, oR4) :: rls4))) G (r.deeper.le (by walk_at "v_b")) (by simpa using W) (HM5.mono fun p hp => .tail _ (.tail _ (.tail _ (.tail _ hp)))) O' s9.gd.wg.wf ata.1 at2.1 (by walk_at "v_b") ?_
                rw [f1, U1]
                intro h26 tk26 σ26 tn26 O26 W
                exact CEnd.intro [] (by simpa using W) rfl (fun _ hp => nomatch hp) ⟨σ26, O26, rfl, hnj.push⟩
              · have hv := Option.some.inj hP
                subst hv
                replace O' : Ok prg w σ' q1.2 := O'
                have at2 : At q1.2 p2.1 := (s2.at1.ext x29).ext r1.x
                have ata : At q1.2 a := ha.ext y1
                refine same_c (pre := (D5, listOf ys5 n5e) :: (L', oL5) :: it₅ :: (tt2, tupO [.int a ta, .int p2.1 tn2, .int 1 u1, .int 2 u2]) :: ((L' + 1 + 1 + 1 + 1, o1) :: (L' + 1 + 1 + 1, o2) :: (L' + 1 + 1, o3) :: (L' + 1, o4) :: (L, oL) :: (pre ++ (RD, oR4) :: rls4))) G (r.deeper.le (by walk_at "v_b")) (by simpa using W) (HM5.mono fun p hp => .tail _ (.tail _ (.tail _ (.tail _ hp)))) O' r1.gd.wg.wf ata.1 at2.1 (by walk_at "v_b") ?_
                rw [f2, U2]
                intro h26 tk26 σ26 tn26 O26 W
                exact CEnd.intro [] (by simpa using W) rfl (fun _ hp => nomatch hp) ⟨σ26, O26, rfl, hnj.push⟩
              · have hv := Option.some.inj hP
                subst hv
                replace O' : Ok prg w σ' q2.2 := O'
                have at2 : At q2.2 1 := r2.gd.at1.1
                have ata : At q2.2 a := ha.ext y2
                refine same_c (pre := (D5, listOf ys5 n5e) :: (L', oL5) :: it₅ :: (tt2, tupO [.int a ta, .int p2.1 tn2, .int 1 u1, .int 2 u2]) :: ((L' + 1 + 1 + 1 + 1, o1) :: (L' + 1 + 1 + 1, o2) :: (L' + 1 + 1, o3) :: (L' + 1, o4) :: (L, oL) :: (pre ++ (RD, oR4) :: rls4))) G (r.deeper.le (by walk_at "v_b")) (by simpa using W) (HM5.mono fun p hp => .tail _ (.tail _ (.tail _ (.tail _ hp)))) O' r2.gd.wg.wf ata.1 at2.1 (by walk_at "v_b") ?_
                rw [f3, U3]
                intro h26 tk26 σ26 tn26 O26 W
                exact CEnd.intro [] (by simpa using W) rfl (fun _ hp => nomatch hp) ⟨σ26, O26, rfl, hnj.push⟩
              · have hv := Option.some.inj hP
                subst hv
                replace O' : Ok prg w σ' q3.2 := O'
                have at2 : At q3.2 2 := r3.gd.at1.2
                have ata : At q3.2 a := ha.ext y3
                refine same_c (pre := (D5, listOf ys5 n5e) :: (L', oL5) :: it₅ :: (tt2, tupO [.int a ta, .int p2.1 tn2, .int 1 u1, .int 2 u2]) :: ((L' + 1 + 1 + 1 + 1, o1) :: (L' + 1 + 1 + 1, o2) :: (L' + 1 + 1, o3) :: (L' + 1, o4) :: (L, oL) :: (pre ++ (RD, oR4) :: rls4))) G (r.deeper.le (by walk_at "v_b")) (by simpa using W) (HM5.mono fun p hp => .tail _ (.tail _ (.tail _ (.tail _ hp)))) O' r3.gd.wg.wf ata.1 at2.1 (by walk_at "v_b") ?_
                rw [f4, U4]
                intro h26 tk26 σ26 tn26 O26 W
                exact CEnd.intro [] (by simpa using W) rfl (fun _ hp => nomatch hp) ⟨σ26, O26, rfl, hnj.push⟩
            · rintro D5 h25 tk25 ys5 n5e led' W ⟨σ', O', rfl, hnj⟩
              walk_at "vv"
              refine true_c (pre := (D5, listOf ys5 n5e) :: (tt2, tupO [.int a ta, .int p2.1 tn2, .int 1 u1, .int 2 u2]) :: ((L' + 1 + 1 + 1 + 1, o1) :: (L' + 1 + 1 + 1, o2) :: (L' + 1 + 1, o3) :: (L' + 1, o4) :: (L, oL) :: (pre ++ (RD, oR4) :: rls4))) G (r.deeper.le (by walk_at "v_b")) (by assumption) ?_
              intro h27 tk27 u3 W
              walk_at "vv"
              refine false_c (pre := (D5, listOf ys5 n5e) :: (tt2, tupO [.int a ta, .int p2.1 tn2, .int 1 u1, .int 2 u2]) :: ((L' + 1 + 1 + 1 + 1, o1) :: (L' + 1 + 1 + 1, o2) :: (L' + 1 + 1, o3) :: (L' + 1, o4) :: (L, oL) :: (pre ++ (RD, oR4) :: rls4))) G (r.deeper.le (by walk_at "v_b")) W ?_
              intro h28 tk28 u4 W
              walk_at "vv"
              rename Fx _ _ _ _ _ => W
              refine rEqL (vs := ys5.toList) (us := [.int 1 u3, .int 2 u4, .int a ta, .int p2.1 tn2]) natV_eq W (by rw [Array.toArray_toList]; exact .tail _ (.head _)) (.head _) hnj.carry (Carry.nats (l := [1, 2, a, p2.1]) (.cons _ _ (.cons _ _ (.cons _ _ (.cons _ _ .nil))))) (Rm.units (k := 2) (r.deeper.le (by walk_at "v_b"))) ?_
              rw [show decide (List.map (rs4 a p2.1) (List.range [Value.int a ta, .int p2.1 tn2, .int 1 u1, .int 2 u2].length) = [1, 2, a, p2.1]) = true from decide_eq_true rfl]
              have W := W.sub (led' := ((L' + 1 + 1 + 1 + 1, o1) :: (L' + 1 + 1 + 1, o2) :: (L' + 1 + 1, o3) :: (L' + 1, o4) :: (L, oL) :: (pre ++ (RD, oR4) :: rls4)) ++ bankLed w.params 388 α σ') (by walk_at "v_drop")
              exact backD [(L' + 1 + 1 + 1 + 1, o1), (L' + 1 + 1 + 1, o2), (L' + 1 + 1, o3), (L' + 1, o4)] W fun W => k _ _ σ' oR4 rls4 q4.2 O' r4.gd (y3.trans r4.x) (by walk_at "v_b") (hR4.ext (((r1.x.trans r2.x).trans r3.x).trans r4.x) r4.gd.wg (Nat.le_trans h7 x09.len)) (by simpa using W)
end
end
section
theorem mk_step {B : List Tm} (g : Gd B) {t : Tm} (h : ∀ s ∈ t.args, At B s) (h1 : t.op ≠ .neg) (h2 : t.op ≠ .app) (h3 : t.op ≠ .nil) (har : arity t.op t.args.length = true) (hsz : t.args.length ≤ 3) : Step B (mk B t) 1 :=
  ⟨⟨mk_wg g.wg (fun s hs => (h s hs).1) (fun e => absurd e h1) har h2 hsz (fun s hs => (h s hs).2), mk_nd g.nd⟩, mk_ext B _, ⟨mk_lt B _, mk_pos g.wg h3⟩, mk_len B _⟩
theorem eq_step {B : List Tm} (g : Gd B) {a b : Nat} (ha : At B a) (hb : At B b) : Step B (eqOf B a b) 1 :=
  have h := eqOf_wg g.wg ha.1 hb.1 ha.2 hb.2
  ⟨⟨h.1, eqOf_nd g.nd⟩, eqOf_ext B a b, ⟨(eqOf_wf g.wg.wf ha.1 hb.1).2, h.2⟩, eqOf_len B a b⟩
theorem cells2 {cm : Str → Option Value} {cs : List (Str × Addr)} {cells : List (Addr × Obj)} {n1 n2 : Str} {c1 c2 : Addr} (x : CellsAre cm cs cells) (e : cs = [(n1, c1), (n2, c2)]) :
    ∃ o1 o2, cells = [(c1, o1), (c2, o2)] ∧ o1.data = .cell (cm n1) ∧ o2.data = .cell (cm n2) := by
  subst e
  cases x with | cons h1 r => cases r with | cons h2 r => cases r; exact ⟨_, _, rfl, h1, h2⟩
section
variable {w : World} {A : Around} {E : Value → Shared → Prop} {gs : Array GenState} {dr : Drawn} {os : OsState} {tk : Tok}
  {b₀ h : Heap} {L : Addr} {m mg mb : Str → Option Value} {mean : ExcName → Option Value} {pre : List (Addr × Obj)} {α : BA} {σ : BC} {B : List Tm} {Q : Value → Shared → Prop}

theorem term_c {D Cl PL : Addr} {oT : Obj} {vs pv : List Value} {ns : List Int} {pn : List Nat} {n np aT : Nat} (G : Bs w b₀ mean mg mb) (r : Rm A 20) (W : Fx b₀ h L m ((D, oT) :: (Cl, listOf vs.toArray n) :: (PL, listOf pv.toArray np) :: (pre ++ bankLed w.params 388 α σ)))
    (hT : TubO w Cl aT oT) (hI : IntsAre vs ns) (hlen : vs.length ≤ 100) (hat : aT ≤ 900) (hp : Carry NatV pn pv) (hpn : ∀ t ∈ pn, At B t) (hp1 : 1 ≤ pn.length) (hpl : pn.length ≤ 100) (O : Ok prg w σ B) (g : Gd B) (hb : B.length ≤ 1000)
    (k : ∀ h' tk' oT' σ' B' t tt, TubO w Cl (aT + 4 : Nat) oT' → Ok prg w σ' B' → Gd B' → Ext B B' → B'.length ≤ B.length + 1 → At B' t → Fx b₀ h' L m ((D, oT') :: (Cl, listOf vs.toArray n) :: (PL, listOf pv.toArray np) :: (pre ++ bankLed w.params 388 α σ')) → Q (.int (t : Nat) tt) ⟨h', gs, dr, tk', os⟩) :
    wpAny (model prg w) A (call (.ref 529) [.ref D, .ref α.self, .ref PL]) Q E ⟨h, gs, dr, tk, os⟩ := by
  have hh := r.hh
  walk_at "v_enterC"
  intro oL L' h₁ tk₁ cells W Y
  obtain ⟨o1, o2, rfl, d1, d2⟩ := cells2 Y rfl
  replace d1 : o1.data = .cell (some (.ref PL)) := d1
  replace d2 : o2.data = .cell (some (.ref D)) := d2
  walk_at "vv"
  rename Fx _ _ _ _ _ => W
  refine beaker_c (n := n) (led' := fun oT' => [(L' + 1 + 1, o1), (L' + 1, o2)] ++ (L, oL) :: (D, oT') :: (Cl, listOf vs.toArray n) :: (PL, listOf pv.toArray np) :: (pre ++ bankLed w.params 388 α σ)) G (r.deeper.le (by walk_at "v_b")) W hT (fun o' => .tail (.tail (.tail .head))) (by first | walk_at "v_mem" | simp) (fun o' => by first | walk_at "v_mem" | simp) hI hlen (by walk_at "v_b") (by decide) ?_
  intro h₂ tk₂ oT2 way tw hT2 hw0 hw7 W
  walk_at "vv"
  refine rComp ?_ rfl rfl (by decide) (fun _ => rfl)
  walk_at "vv"
  refine rRange (by assumption) ?_
  intro rr h₃ ur vr tk₃ W
  refine comp_range (r := rr) (n := 3) hh W (.head _) (by decide) (fun i ys led₁ => ∃ oT' u1 u2 u3, TubO w Cl (aT + 1 + i : Nat) oT' ∧ led₁ = (rr, rangeO 3 u1 u2 u3) :: ([(L' + 1 + 1, o1), (L' + 1, o2)] ++ (L, oL) :: (D, oT') :: (Cl, listOf vs.toArray n) :: (PL, listOf pv.toArray np) :: (pre ++ bankLed w.params 388 α σ)) ∧ ys.size = i ∧ ∀ j, j < i → ∃ t tt, ys[j]? = some (.int ((t : Nat) : Int) tt) ∧ t ∈ pn)
    ⟨oT2, _, _, _, hT2, rfl, rfl, fun j hj => absurd hj (Nat.not_lt_zero _)⟩ (fun i ys led' ⟨_, _, _, _, _, _, e, _⟩ => Nat.le_of_eq e) ?_ ?_
  · rintro C i v ys e D1 oL1 m₁ led₁ it₁ cells₁ h₁ tk₁ E' hi ⟨_, tv, rfl⟩ ⟨oT3, u1, u2, u3, hT3, rfl, hys, hin⟩ hc' hdc W
    obtain rfl : cells₁ = [] := List.map_eq_nil_iff.mp hc'
    rw [List.nil_append] at W
    walk_at "v_asg"
    walk_at "vv"
    rename Fx _ _ _ _ _ => W
    refine rLenL (vs := pv.toArray) (n := np) W (by first | walk_at "v_mem" | simp) (by have := hp.1; simp; omega) ?_
    intro t5 tk5
    walk_at "vv"
    refine beaker_c (n := n) (led' := fun oT' => (D1, listOf ys e) :: (L', oL1) :: it₁ :: (rr, rangeO 3 u1 u2 u3) :: ([(L' + 1 + 1, o1), (L' + 1, o2)] ++ (L, oL) :: (D, oT') :: (Cl, listOf vs.toArray n) :: (PL, listOf pv.toArray np) :: (pre ++ bankLed w.params 388 α σ))) G (r.deeper.le (by walk_at "v_b")) W hT3 (fun o' => .tail (.tail (.tail (.tail (.tail (.tail (.tail .head))))))) (by first | walk_at "v_mem" | simp) (fun o' => by first | walk_at "v_mem" | simp) hI hlen (by walk_at "v_b") (by have := hp.1; simp; omega) ?_
    intro h₅ tk₆ oT4 v4 t4 hT4 hv0 hv1 W
    walk_at "vv"
    obtain ⟨i4, rfl⟩ : ∃ i4 : Nat, v4 = (i4 : Int) := ⟨v4.toNat, by omega⟩
    have hi4 : i4 < pn.length := by have := hp.1; simp at hv1; omega
    obtain ⟨tx, hx⟩ := hp.2 i4 _ _ (List.getElem?_eq_getElem hi4) (List.getElem?_eq_getElem (by rw [hp.1]; exact hi4))
    refine rItemL (vs := pv.toArray) (n := np) (i := i4) (v := .int (pn[i4] : Nat) tx) W (by first | walk_at "v_mem" | simp) (by rw [List.getElem?_toArray, List.getElem?_eq_getElem (by rw [hp.1]; exact hi4), hx]) (by walk_at "v_b") ?_
    refine CEnd.intro [] W rfl (fun _ hp => nomatch hp) ⟨oT4, u1, u2, u3, hT4, rfl, by simp [hys], fun j hj => ?_⟩
    by_cases ej : j = i
    · subst ej; exact ⟨pn[i4], tx, by rw [Array.getElem?_push, if_pos hys.symm], List.getElem_mem hi4⟩
    · obtain ⟨t, tt, h1, h2⟩ := hin j (by walk_at "v_b")
      exact ⟨t, tt, by rw [Array.getElem?_push, if_neg (by rw [hys]; exact ej)]; exact h1, h2⟩
  · rintro D1 h₄ tk₄ ys e led' W ⟨oT3, u1, u2, u3, hT3, rfl, hys, hin⟩
    walk_at "vv"
    obtain ⟨a, xa, ea, hpa⟩ := hin 0 (by decide)
    obtain ⟨b, xb, eb, hpb⟩ := hin 1 (by decide)
    obtain ⟨c, xc, ec, hpc⟩ := hin 2 (by decide)
    have hys3 : ys = [.int (a : Int) xa, .int (b : Int) xb, .int (c : Int) xc].toArray := by
      apply Array.ext_getElem?
      intro j
      match j with
      | 0 => rw [ea]; rfl
      | 1 => rw [eb]; rfl
      | 2 => rw [ec]; rfl
      | j + 3 => rw [Array.getElem?_eq_none (by rw [hys]; omega), Array.getElem?_eq_none (by first | walk_at "v_mem" | simp)]
    subst hys3
    have ga := hpn a hpa
    have gb := hpn b hpb
    have gc := hpn c hpc
    refine rAsgL hh W (.head _) ?_ rfl rfl
    intro h₅ W
    dsimp only [assignEach, List.map_cons, List.map_nil]
    walk_at "vv"
    rename Fx _ _ _ _ _ => W
    have W := W.sub (led' := (L' + 1 + 1, o1) :: (L' + 1, o2) :: (L, oL) :: (D, oT3) :: (Cl, listOf vs.toArray n) :: (PL, listOf pv.toArray np) :: pre ++ bankLed w.params 388 α σ) (by walk_at "v_drop")
    have hT4 : TubO w Cl (aT + 4 : Nat) oT3 := hT3
    have fin : ∀ {A' : Around} {h₆ : Heap} {m₆ : Str → Option Value} {tk₆ : Tok} {σ₆ : BC} {p : Nat × List Tm} {tn : Tok}, Ok prg w σ₆ p.2 → Step B p 1 → Fx b₀ h₆ L' m₆ (((L' + 1 + 1, o1) :: (L' + 1, o2) :: (L, oL) :: (D, oT3) :: (Cl, listOf vs.toArray n) :: (PL, listOf pv.toArray np) :: pre) ++ bankLed w.params 388 α σ₆) → Back b₀ L L' m oL gs dr os Q (.int (p.1 : Nat) tn) ⟨h₆, gs, dr, tk₆, os⟩ := by
      intro A' h₆ m₆ tk₆ σ₆ p tn O6 st W
      exact backD [(L' + 1 + 1, o1), (L' + 1, o2)] W fun W => k _ _ oT3 _ _ _ _ hT4 O6 st.gd st.x st.len st.at1 (by simpa using W)
    by_cases w0 : way = 0
    · rw [if_pos (by simp [w0])]
      walk_at "vv"
      refine not_c (pre := ((L' + 1 + 1, o1) :: (L' + 1, o2) :: (L, oL) :: (D, oT3) :: (Cl, listOf vs.toArray n) :: (PL, listOf pv.toArray np) :: pre)) G (r.deeper.le (by walk_at "v_b")) W O ga.1 (neg_args g.wg.wf) (by walk_at "v_b") ?_
      intro h₆ tk₆ σ6 tn6 O6 W
      exact fin (A' := A) O6 (notOf_step g ga) W
    rw [if_neg (by simpa using w0)]
    walk_at "vv"
    have at2 : ∀ i ∈ [a, b], i < B.length := by intro s hs; simp at hs; rcases hs with rfl | rfl; exact ga.1; exact gb.1
    have at3 : ∀ i ∈ [a, b, c], i < B.length := by intro s hs; simp at hs; rcases hs with rfl | rfl | rfl; exact ga.1; exact gb.1; exact gc.1
    by_cases w3 : way < 3
    · rw [if_pos (by simpa using w3)]
      walk_at "vv"
      by_cases w1 : way = 1
      · rw [if_pos (by simp [w1])]
        walk_at "vv"
        rename Fx _ _ _ _ _ => W
        refine and_c (pre := ((L' + 1 + 1, o1) :: (L' + 1, o2) :: (L, oL) :: (D, oT3) :: (Cl, listOf vs.toArray n) :: (PL, listOf pv.toArray np) :: pre)) (l := [a, b]) G (r.deeper.le (by walk_at "v_b")) (Fx.absorb (pre := ((L' + 1 + 1, o1) :: (L' + 1, o2) :: (L, oL) :: (D, oT3) :: (Cl, listOf vs.toArray n) :: (PL, listOf pv.toArray np) :: pre)) W) (O.add _) ⟨_, .head _, .cons _ _ (.cons _ _ .nil)⟩ at2 (by first | walk_at "v_mem" | simp) (by first | walk_at "v_mem" | simp) (by walk_at "v_b") ?_
        intro h₆ tk₆ σ6 tn6 O6 W
        exact fin (A' := A) O6 (mk_step g (by intro s hs; simp at hs; rcases hs with rfl | rfl <;> assumption) (fun e => nomatch e) (fun e => nomatch e) (fun e => nomatch e) rfl (by first | walk_at "v_mem" | simp)) W
      · rw [if_neg (by simpa using w1)]
        walk_at "vv"
        rename Fx _ _ _ _ _ => W
        refine or_c (pre := ((L' + 1 + 1, o1) :: (L' + 1, o2) :: (L, oL) :: (D, oT3) :: (Cl, listOf vs.toArray n) :: (PL, listOf pv.toArray np) :: pre)) (l := [a, b, c]) G (r.deeper.le (by walk_at "v_b")) (Fx.absorb (pre := ((L' + 1 + 1, o1) :: (L' + 1, o2) :: (L, oL) :: (D, oT3) :: (Cl, listOf vs.toArray n) :: (PL, listOf pv.toArray np) :: pre)) W) (O.add _) ⟨_, .head _, .cons _ _ (.cons _ _ (.cons _ _ .nil))⟩ at3 (by first | walk_at "v_mem" | simp) (by first | walk_at "v_mem" | simp) (by walk_at "v_b") ?_
        intro h₆ tk₆ σ6 tn6 O6 W
        exact fin (A' := A) O6 (mk_step g (by intro s hs; simp at hs; rcases hs with rfl | rfl | rfl <;> assumption) (fun e => nomatch e) (fun e => nomatch e) (fun e => nomatch e) rfl (by first | walk_at "v_mem" | simp)) W
    rw [if_neg (by simpa using w3)]
    walk_at "vv"
    by_cases w3' : way = 3
    · rw [if_pos (by simp [w3'])]
      walk_at "vv"
      refine xor_c (pre := ((L' + 1 + 1, o1) :: (L' + 1, o2) :: (L, oL) :: (D, oT3) :: (Cl, listOf vs.toArray n) :: (PL, listOf pv.toArray np) :: pre)) G (r.deeper.le (by walk_at "v_b")) (by assumption) O ga.1 gb.1 (by walk_at "v_b") ?_
      intro h₆ tk₆ σ6 tn6 O6 W
      exact fin (A' := A) O6 (mk_step g (by intro s hs; simp at hs; rcases hs with rfl | rfl <;> assumption) (fun e => nomatch e) (fun e => nomatch e) (fun e => nomatch e) rfl (by first | walk_at "v_mem" | simp)) W
    rw [if_neg (by simpa using w3')]
    walk_at "vv"
    by_cases w4 : way = 4
    · rw [if_pos (by simp [w4])]
      walk_at "vv"
      refine iff_c (pre := ((L' + 1 + 1, o1) :: (L' + 1, o2) :: (L, oL) :: (D, oT3) :: (Cl, listOf vs.toArray n) :: (PL, listOf pv.toArray np) :: pre)) G (r.deeper.le (by walk_at "v_b")) (by assumption) O ga.1 gb.1 (by walk_at "v_b") ?_
      intro h₆ tk₆ σ6 tn6 O6 W
      exact fin (A' := A) O6 (eq_step g ga gb) W
    rw [if_neg (by simpa using w4)]
    walk_at "vv"
    by_cases w5 : way = 5
    · rw [if_pos (by simp [w5])]
      walk_at "vv"
      refine ite_c (pre := ((L' + 1 + 1, o1) :: (L' + 1, o2) :: (L, oL) :: (D, oT3) :: (Cl, listOf vs.toArray n) :: (PL, listOf pv.toArray np) :: pre)) G (r.deeper.le (by walk_at "v_b")) (by assumption) O ga.1 gb.1 gc.1 (by walk_at "v_b") ?_
      intro h₆ tk₆ σ6 tn6 O6 W
      exact fin (A' := A) O6 (mk_step g (by intro s hs; simp at hs; rcases hs with rfl | rfl | rfl <;> assumption) (fun e => nomatch e) (fun e => nomatch e) (fun e => nomatch e) rfl (by first | walk_at "v_mem" | simp)) W
    · rw [if_neg (by simpa using w5)]
      walk_at "vv"
      refine imp_c (pre := ((L' + 1 + 1, o1) :: (L' + 1, o2) :: (L, oL) :: (D, oT3) :: (Cl, listOf vs.toArray n) :: (PL, listOf pv.toArray np) :: pre)) G (r.deeper.le (by walk_at "v_b")) (by assumption) O ga.1 gb.1 (by walk_at "v_b") ?_
      intro h₆ tk₆ σ6 tn6 O6 W
      exact fin (A' := A) O6 (mk_step g (by intro s hs; simp at hs; rcases hs with rfl | rfl <;> assumption) (fun e => nomatch e) (fun e => nomatch e) (fun e => nomatch e) rfl (by first | walk_at "v_mem" | simp)) W
end
end
section
section
variable {w : World} {A : Around} {E : Value → Shared → Prop} {gs : Array GenState} {dr : Drawn} {os : OsState} {tk : Tok}
  {b₀ h : Heap} {L : Addr} {m mg mb : Str → Option Value} {mean : ExcName → Option Value} {pre : List (Addr × Obj)} {α : BA} {σ : BC} {B : List Tm} {Q : Value → Shared → Prop}

theorem declare_c {x : Str} {tx ts : Tok} {ta : Addr} (G : Bs w b₀ mean mg mb) (r : Rm A 2) (W : Fx b₀ h L m (pre ++ bankLed w.params 388 α σ)) (hta : (ta, tupO []) ∈ pre) (hs : σ.fnV.size ≤ 100 ∧ σ.faV.size ≤ 100 ∧ σ.frV.size ≤ 100)
    (k : ∀ h' tk' tn, Fx b₀ h' L m (pre ++ bankLed w.params 388 α { σ with fnV := σ.fnV.push (.str x tx), faV := σ.faV.push (.ref ta), frV := σ.frV.push (.int 0 ts), k := fun i => if i ≤ 2 then σ.k i + 1 else σ.k i }) → Q (.int σ.fnV.size tn) ⟨h', gs, dr, tk', os⟩) :
    wpAny (model prg w) A (call (.ref 126) [.ref α.self, .str x tx, .ref ta, .int 0 ts]) Q E ⟨h, gs, dr, tk, os⟩ := by
  walk_at "v_enter"
  intro oL L' h₁ tk₁ W
  walk_at "vv"
  walk_at "v_appm"
  walk_at "vv"
  refine rAppend (by assumption) (by walk_at "v_pt") (by walk_at "v_b") ?_
  intro h₄ W₄
  walk_at "vv"
  walk_at "v_appm"
  walk_at "vv"
  refine call_tuple_tup (isTup_of (Fx.C W₄) (.tail _ (List.mem_append_left _ hta))) ?_
  walk_at "vv"
  refine rAppend (by assumption) (by walk_at "v_pt") (by walk_at "v_b") ?_
  intro h₅ W₅
  walk_at "vv"
  walk_at "v_appm"
  walk_at "vv"
  refine rAppend (by assumption) (by walk_at "v_pt") (by walk_at "v_b") ?_
  intro h₆ W₆
  walk_at "vv"
  refine rLenL (by assumption) (by walk_at "v_mem") (by simp; omega) ?_
  intro t₇ tk₇
  walk_at "vv"
  have e : (((σ.fnV.push (Value.str x tx)).size : Nat) : Int) - 1 = (σ.fnV.size : Nat) := by simp
  rw [e]
  exact back_ W₆ fun W => k _ _ _ W
end
end
section
section
variable {w : World} {A : Around} {E : Value → Shared → Prop} {gs : Array GenState} {dr : Drawn} {os : OsState} {tk : Tok}
  {b₀ h : Heap} {L : Addr} {m mg mb : Str → Option Value} {mean : ExcName → Option Value} {pre : List (Addr × Obj)} {α : BA} {σ : BC} {B : List Tm} {Q : Value → Shared → Prop}

theorem permF {β : Type} (f : Nat → β) : List.Perm [f 10, f 11, f 8, f 7, f 6, f 5, f 3, f 2, f 1, f 0, f 4, f 9] [f 0, f 1, f 2, f 3, f 4, f 5, f 6, f 7, f 8, f 9, f 10, f 11] :=
  List.Perm.map f (by decide : List.Perm [10, 11, 8, 7, 6, 5, 3, 2, 1, 0, 4, 9] [0, 1, 2, 3, 4, 5, 6, 7, 8, 9, 10, 11])
theorem perm12 {a b c d e f g i j k l n : Addr × Obj} (led : List (Addr × Obj)) : List.Perm (k :: (led ++ [l, n, j, i, g, f, d, c, b, a, e])) (a :: b :: c :: d :: e :: f :: g :: i :: j :: k :: l :: n :: led) := by
  have h1 : List.Perm (k :: (led ++ [l, n, j, i, g, f, d, c, b, a, e])) ([l, n, j, i, g, f, d, c, b, a, e] ++ (k :: led)) := by
    rw [← List.cons_append]; exact List.perm_append_comm
  have h2 : List.Perm ([l, n, j, i, g, f, d, c, b, a, e, k] ++ led) ([a, b, c, d, e, f, g, i, j, k, l, n] ++ led) := List.Perm.append_right led
    (permF fun x => ([a, b, c, d, e, f, g, i, j, k, l, n] : List (Addr × Obj)).getD x n)
  exact h1.trans h2
theorem ok_nil {σ : BC} {ta : Addr} {t1 t2 t3 : Tok} (h1 : σ.opV = #[.str (Str.ofString "") t1]) (h2 : σ.arV = #[.ref ta]) (h3 : σ.soV = #[.int 0 t2]) (h4 : σ.daV = #[.int 0 t3]) (h5 : (ta, tupO []) ∈ σ.tups) (h6 : σ.nuV = []) :
    Ok prg w σ [⟨.nil, [], 0⟩] := by
  refine ⟨by rw [h1]; rfl, by rw [h2]; rfl, by rw [h3]; rfl, by rw [h4]; rfl, ?_, ?_, ?_, rfl, (fun _ h => nomatch h), List.nodup_nil, [], h6, rfl, (fun j x h => by simp at h), fun _ h => nomatch h⟩
  · intro i t h
    rcases i with _ | i
    · obtain rfl : _ = t := by simpa using h
      exact ⟨t1, by rw [h1]; rfl⟩
    · simp at h
  · intro i t h
    rcases i with _ | i
    · obtain rfl : _ = t := by simpa using h
      exact ⟨ta, by rw [h2]; rfl, [], h5, .nil⟩
    · simp at h
  · intro i t h
    rcases i with _ | i
    · obtain rfl : _ = t := by simpa using h
      exact ⟨t2, by rw [h3]; rfl⟩
    · simp at h
theorem bankOf {P : Params} {L' x dx nu da so ar ta op fr fa fn sw sn : Addr} {osw osn oL : Obj} {t0 t1 t2 t3 t4 t5 t6 t7 t8 t9 t10 t11 ud us uo : Tok}
    (W : Fx b₀ h L m ((nu, dictOf [] 0) :: (da, listOf #[.int 0 ud] 0) :: (so, listOf #[.int 0 us] 0) :: (ar, listOf #[.ref ta] 0) :: (ta, tupO []) :: (op, listOf #[.str (Str.ofString "") uo] 0) :: (fr, listOf #[] 0) :: (fa, listOf #[] 0) :: (fn, listOf #[] 0) :: (sw, osw) :: (sn, osn) ::
      (L', oL) :: (x, instObj 388 dx) :: (dx, dictOf [ent P "sort_names" t0 (.ref sn), ent P "sort_widths" t1 (.ref sw), ent P "fun_names" t2 (.ref fn), ent P "fun_args" t3 (.ref fa), ent P "fun_results" t4 (.ref fr), ent P "fresh_count" t5 (.int 0 t6), ent P "term_ops" t7 (.ref op), ent P "term_args" t8 (.ref ar), ent P "term_sorts" t9 (.ref so), ent P "term_datas" t10 (.ref da), ent P "numbers" t11 (.ref nu)] 11) :: pre)) :
    ∃ (α : BA) (σ : BC), α.self = x ∧ Ok prg w σ [⟨.nil, [], 0⟩] ∧ σ.fnV = #[] ∧ σ.faV = #[] ∧ σ.frV = #[] ∧ Fx b₀ h L m ((L', oL) :: (pre ++ bankLedT P 388 α σ [])) := by
  refine ⟨⟨x, dx, fn, fa, fr, op, ar, so, da, nu, sn, sw, fun i => match i with | 0 => t0 | 1 => t1 | 2 => t2 | 3 => t3 | 4 => t4 | 5 => t5 | 6 => t6 | 7 => t7 | 8 => t8 | 9 => t9 | 10 => t10 | _ => t11, 11⟩,
    ⟨#[], #[], #[], #[.str (Str.ofString "") uo], #[.ref ta], #[.int 0 us], #[.int 0 ud], [], fun _ => 0, [(ta, tupO [])]⟩, rfl, ok_nil rfl rfl rfl rfl (.head _) rfl, rfl, rfl, rfl, ?_⟩
  have W2 := W.sub (led' := (nu, dictOf [] 0) :: (da, listOf #[.int 0 ud] 0) :: (so, listOf #[.int 0 us] 0) :: (ar, listOf #[.ref ta] 0) :: (ta, tupO []) :: (op, listOf #[.str (Str.ofString "") uo] 0) :: (fr, listOf #[] 0) :: (fa, listOf #[] 0) :: (fn, listOf #[] 0) ::
      (L', oL) :: (x, instObj 388 dx) :: (dx, dictOf [ent P "sort_names" t0 (.ref sn), ent P "sort_widths" t1 (.ref sw), ent P "fun_names" t2 (.ref fn), ent P "fun_args" t3 (.ref fa), ent P "fun_results" t4 (.ref fr), ent P "fresh_count" t5 (.int 0 t6), ent P "term_ops" t7 (.ref op), ent P "term_args" t8 (.ref ar), ent P "term_sorts" t9 (.ref so), ent P "term_datas" t10 (.ref da), ent P "numbers" t11 (.ref nu)] 11) :: pre)
      (.cons_cons _ (.cons_cons _ (.cons_cons _ (.cons_cons _ (.cons_cons _ (.cons_cons _ (.cons_cons _ (.cons_cons _ (.cons_cons _ (.cons _ (.cons _ (List.Sublist.refl _))))))))))))
  exact W2.perm (perm12 pre)
theorem putT1 {P : Params} {α : BA} {n : Nat} {H : Int} {K v : Value} : (putL "true_number" H K v (bankEsT P α []), putN "true_number" (bankEsT P α []) n) = (bankEsT P α [⟨H, K, v⟩], n + 1) := by kernel_rfl
theorem putT2 {P : Params} {α : BA} {n : Nat} {H : Int} {K v : Value} {t : Tok} {v' : Value} : (putL "false_number" H K v (bankEsT P α [ent P "true_number" t v']), putN "false_number" (bankEsT P α [ent P "true_number" t v']) n) = (bankEsT P α [ent P "true_number" t v', ⟨H, K, v⟩], n + 1) := by kernel_rfl
theorem bank_init_c {x dx : Addr} {R : Result → Shared → Prop} (G : Bs w b₀ mean mg mb) (r : Rm A 5) (W : Fx b₀ h L m ((x, instObj 388 dx) :: (dx, dictOf [] 0) :: pre))
    (k : ∀ h' tk' α σ, α.self = x → Ok prg w σ B3 → σ.fnV = #[] → σ.faV = #[] → σ.frV = #[] → Fx b₀ h' L m (pre ++ bankLed w.params 388 α σ) → R (.ok (.ret .none)) ⟨h', gs, dr, tk', os⟩) :
    codeAny (model prg w) A (.call (.ref 84) ⟨[.ref x], []⟩) R ⟨h, gs, dr, tk, os⟩ := by
  walk_at "v_enterK"
  intro oL L' h₁ tk₁ W
  repeat (first | walk_at "v" | walk_at "v_set")
  rename Fx _ _ _ _ _ => W
  refine rDict0 W ?_
  intro nu h₂ W
  walk_at "v"
  walk_at "v_set"
  rename Fx _ _ _ _ _ => W
  obtain ⟨α, σ, rfl, O, z1, z2, z3, W⟩ := bankOf (w := w) W
  walk_at "vv"
  rename Fx _ _ _ _ _ => W
  refine make_g (tl := []) (σ := σ.add _) (t := ⟨.tru, [], 0⟩) (pre := (L, oL) :: pre) G (r.deeper.le (by walk_at "v_b")) (W.perm (absorb_perm ((L, oL) :: pre) [_, _, _, _, _, _, _, _, _, _] σ.tups _)) (O.add _) (by decide) ⟨[], .head _, .nil⟩ (by first | walk_at "v_mem" | simp) ?_
  intro h₅ tk₅ σ₅ tn₅ O₅ ⟨y1, y2, y3⟩ W
  walk_at "v"
  refine rSetA (C := 388) W (Bs.X (by assumption)) (by walk_at "v_mem") (by walk_at "v_mem") (by k_is) (by k_is) (by k_is) (by k_is) (by kernel_rfl) putT1 (by walk_at "v_pt") (Nat.le_of_ble_eq_true rfl) ?_
  intro h₆ W
  have e₁ : (mk [⟨.nil, [], 0⟩] ⟨.tru, [], 0⟩ : Nat × List Tm) = (1, [⟨.nil, [], 0⟩, ⟨.tru, [], 0⟩]) := by decide
  rw [e₁] at O₅ W
  let α₁ : BA := { α with n := α.n + 1, t := fun i => match i with | 12 => tk₅ + 1 | 13 => tn₅ | i => α.t i }
  replace W : Fx b₀ h₆ L' _ ((L, oL) :: (pre ++ bankLedT w.params 388 α₁ σ₅ [ent w.params "true_number" (α₁.t 12) (.int 1 (α₁.t 13))])) := W
  walk_at "vv"
  rename Fx _ _ _ _ _ => W
  refine make_g (α := α₁) (tl := [ent w.params "true_number" (α₁.t 12) (.int 1 (α₁.t 13))]) (σ := σ₅.add _) (t := ⟨.fls, [], 0⟩) (pre := (L, oL) :: pre) G (r.deeper.le (by walk_at "v_b")) (W.perm (absorb_perm ((L, oL) :: pre) [_, _, _, _, _, _, _, _, _, _] σ₅.tups _)) (O₅.add _) (by decide) ⟨[], .head _, .nil⟩ (by first | walk_at "v_mem" | simp) ?_
  intro h₇ tk₇ σ₇ tn₇ O₇ ⟨x1, x2, x3⟩ W
  walk_at "v"
  refine rSetA (C := 388) (x := α₁.self) W (Bs.X (by assumption)) (by walk_at "v_mem") (by walk_at "v_mem") (by k_is) (by k_is) (by k_is) (by k_is) (by kernel_rfl) putT2 (by walk_at "v_pt") (Nat.le_of_ble_eq_true rfl) ?_
  intro h₈ W
  have e₂ : (mk [⟨.nil, [], 0⟩, ⟨.tru, [], 0⟩] ⟨.fls, [], 0⟩ : Nat × List Tm) = (2, B3) := by decide
  rw [e₂] at O₇ W
  let α₂ : BA := { α with n := α.n + 2, t := fun i => match i with | 12 => tk₅ + 1 | 13 => tn₅ | 14 => tk₇ + 1 | 15 => tn₇ | i => α.t i }
  replace W : Fx b₀ h₈ L' _ ((L, oL) :: (pre ++ bankLed w.params 388 α₂ σ₇)) := W
  walk_at "vv"
  exact back_ W fun W => k _ _ α₂ σ₇ rfl O₇ (x1.trans (y1.trans z1)) (x2.trans (y2.trans z2)) (x3.trans (y3.trans z3)) W
end
end
section
section
variable {w : World} {A : Around} {E : Value → Shared → Prop} {gs : Array GenState} {dr : Drawn} {os : OsState} {tk : Tok}
  {b₀ h : Heap} {L : Addr} {m mg mb : Str → Option Value} {mean : ExcName → Option Value} {pre : List (Addr × Obj)} {α : BA} {σ : BC} {B : List Tm} {Q : Value → Shared → Prop}

theorem Ok.fns {prog : Program} {σ' : BC} (O : Ok prog w σ B) (h1 : σ'.opV = σ.opV) (h2 : σ'.arV = σ.arV) (h3 : σ'.soV = σ.soV) (h4 : σ'.daV = σ.daV) (h5 : σ'.tups = σ.tups) (h6 : σ'.nuV = σ.nuV) : Ok prog w σ' B :=
  ⟨by rw [h1]; exact O.nop, by rw [h2]; exact O.nar, by rw [h3]; exact O.nso, by rw [h4]; exact O.nda, by rw [h1]; exact O.op, by rw [h2, h5]; exact O.ar, by rw [h3]; exact O.so, O.hd, O.tl, O.nd, by rw [h6, h5]; exact O.nu⟩
theorem fresh_c {x : Str} {tx ts : Tok} (G : Bs w b₀ mean mg mb) (r : Rm A 4) (W : Fx b₀ h L m (pre ++ bankLed w.params 388 α σ)) (O : Ok prg w σ B) (hs : σ.fnV.size ≤ 100 ∧ σ.faV.size ≤ 100 ∧ σ.frV.size ≤ 100) (hb : B.length ≤ 16000000)
    (k : ∀ h' tk' σ' tn, Ok prg w σ' (mk B ⟨.app, [], σ.fnV.size⟩).2 → (σ'.fnV.size = σ.fnV.size + 1 ∧ σ'.faV.size = σ.faV.size + 1 ∧ σ'.frV.size = σ.frV.size + 1) → Fx b₀ h' L m (pre ++ bankLed w.params 388 α σ') → Q (.int (mk B ⟨.app, [], σ.fnV.size⟩).1 tn) ⟨h', gs, dr, tk', os⟩) :
    wpAny (model prg w) A (call (.ref 140) [.ref α.self, .str x tx, .int 0 ts]) Q E ⟨h, gs, dr, tk, os⟩ := by
  walk_at "v_enter"
  intro oL L' h₁ tk₁ W
  walk_at "vv"
  rename_i ta h₂ Wa tb h₃ W
  refine declare_c (pre := (tb, tupO []) :: (ta, tupO []) :: (L, oL) :: pre) G (r.deeper.le (by walk_at "v_b")) W (.head _) hs ?_
  intro h₄ tk₄ tn₄ W
  walk_at "vv"
  let σ₁ : BC := { σ with fnV := σ.fnV.push (.str x tx), faV := σ.faV.push (.ref tb), frV := σ.frV.push (.int 0 ts), k := fun i => if i ≤ 2 then σ.k i + 1 else σ.k i }
  have O₁ : Ok prg w σ₁ B := O.fns rfl rfl rfl rfl rfl rfl
  replace W : Fx b₀ h₄ L' _ ((tb, tupO []) :: (ta, tupO []) :: ((L, oL) :: pre ++ bankLed w.params 388 α σ₁)) := W
  replace W := W.sub (led' := (ta, tupO []) :: ((L, oL) :: pre ++ bankLed w.params 388 α σ₁)) (.cons _ (List.Sublist.refl _))
  refine make_c2 (pre := (L, oL) :: pre) (t := ⟨.app, [], σ.fnV.size⟩) G (r.deeper.le (by walk_at "v_b")) (Fx.absorb W) (O₁.add _) (fun e => nomatch e) ⟨[], .head _, .nil⟩ hb ?_
  intro h₅ tk₅ σ₅ tn₅ O₅ ⟨e1, e2, e3⟩ W
  refine back_ W fun W => k _ _ σ₅ tn₅ O₅ ⟨?_, ?_, ?_⟩ W
  · rw [e1]; exact Array.size_push _
  · rw [e2]; exact Array.size_push _
  · rw [e3]; exact Array.size_push _
theorem rw_init_c {x dx : Addr} {R : Result → Shared → Prop} (G : Bs w b₀ mean mg mb) (r : Rm A 5) (W : Fx b₀ h L m ((x, instObj 513 dx) :: (dx, dictOf [] 0) :: (pre ++ bankLed w.params 388 α σ))) (O : Ok prg w σ B)
    (k : ∀ h' tk' ρ, ρ.self = x → Fx b₀ h' L m ((ρ.self, instObj 513 ρ.d) :: (ρ.d, dictOf (rwEs w.params α ρ) ρ.n) :: (pre ++ bankLed w.params 388 α σ)) → R (.ok (.ret .none)) ⟨h', gs, dr, tk', os⟩) :
    codeAny (model prg w) A (.call (.ref 404) ⟨[.ref x, .ref α.self], []⟩) R ⟨h, gs, dr, tk, os⟩ := by
  walk_at "v_enterK"
  intro oL L' h₁ tk₁ W
  repeat (first | walk_at "v" | walk_at "v_set")
  rename Fx _ _ _ _ _ => W
  refine true_c (pre := (L, oL) :: (x, instObj 513 dx) :: (dx, dictOf _ 1) :: pre) G (r.deeper.le (by walk_at "v_b")) W ?_
  intro h₅ tk₅ tn₅ W
  dsimp only [List.cons_append] at W
  repeat (first | walk_at "v" | walk_at "v_set")
  rename Fx _ _ _ _ _ => W
  refine false_c (pre := (L, oL) :: (x, instObj 513 dx) :: (dx, dictOf _ 2) :: pre) G (r.deeper.le (by walk_at "v_b")) W ?_
  intro h₆ tk₆ tn₆ W
  dsimp only [List.cons_append] at W
  repeat (first | walk_at "v" | walk_at "v_set")
  rename Fx _ _ _ _ _ => W
  refine rDict0 W ?_
  intro kd h₇ W
  walk_at "v"
  walk_at "v_set"
  rename Fx _ _ _ _ _ => W
  walk_at "vv"
  let ρ : RA := ⟨x, dx, kd, fun i => match i with | 0 => tk₁ + 1 | 1 => tk₅ + 1 | 2 => tn₅ | 3 => tk₆ + 1 | 4 => tn₆ | _ => tk₆ + 2 + 1, 4⟩
  exact backD [_] W fun W => k _ _ ρ rfl W

theorem bank_new_c (G : Bs w b₀ mean mg mb) (r : Rm A 6) (W : Fx b₀ h L m pre) (hne : pre ≠ [])
    (k : ∀ h' tk' α σ, Ok prg w σ B3 → σ.fnV = #[] → σ.faV = #[] → σ.frV = #[] → Fx b₀ h' L m (pre ++ bankLed w.params 388 α σ) → Q (.ref α.self) ⟨h', gs, dr, tk', os⟩) :
    wpAny (model prg w) A (call (.ref 388) [] []) Q E ⟨h, gs, dr, tk, os⟩ := by
  refine rNew W G.X hne (fI := 84) (by k_is) (by k_is) (by k_is) ?_
  intro x dx h' W
  refine bank_init_c G r.under W ?_
  intro h₂ tk₂ α σ e O z1 z2 z3 W2
  subst e
  exact ⟨rfl, k _ _ α σ O z1 z2 z3 W2⟩
theorem rw_new_c (G : Bs w b₀ mean mg mb) (r : Rm A 6) (W : Fx b₀ h L m (pre ++ bankLed w.params 388 α σ)) (O : Ok prg w σ B)
    (k : ∀ h' tk' ρ, Fx b₀ h' L m ((ρ.self, instObj 513 ρ.d) :: (ρ.d, dictOf (rwEs w.params α ρ) ρ.n) :: (pre ++ bankLed w.params 388 α σ)) → Q (.ref ρ.self) ⟨h', gs, dr, tk', os⟩) :
    wpAny (model prg w) A (call (.ref 513) [.ref α.self] []) Q E ⟨h, gs, dr, tk, os⟩ := by
  refine rNew W G.X (by first | walk_at "v_mem" | simp) (fI := 404) (by k_is) (by k_is) (by k_is) ?_
  intro x dx h' W
  refine rw_init_c G r.under W O ?_
  intro h₂ tk₂ ρ e W2
  subst e
  exact ⟨rfl, k _ _ ρ W2⟩
end
end
section
theorem fixVals {ys : Array Value} {vs : List Value} (hs : ys.size = vs.toArray.size) (h : ∀ j, j < vs.toArray.size → ∃ y, ys[j]? = some y ∧ vs[j]? = some y) : ys = vs.toArray := by
  apply Array.ext_getElem?
  intro j
  have e : vs.toArray[j]? = vs[j]? := by simp
  rw [e]
  by_cases hj : j < vs.toArray.size
  · obtain ⟨y, e1, e2⟩ := h j hj
    rw [e1, e2]
  · rw [Array.getElem?_eq_none (by walk_at "v_b"), List.getElem?_eq_none (by simpa using hj)]
section
variable {prog : Program} {w : World} {A : Around} {E : Value → Shared → Prop} {gs : Array GenState} {dr : Drawn} {os : OsState} {tk : Tok}
  {b₀ h : Heap} {L : Addr} {m : Str → Option Value} {led : List (Addr × Obj)} {env : Env} {scope : Scope} {cl : List (Str × Addr)} {x : Str} {xp pos : Pos} {elt iter : Expr}
theorem comp_tup_useQ {t : Addr} {vs : List Value} {Q : Shared → Prop} {y : Str} {py : Pos} (hh : A.handled = none) (W : Fx b₀ h L m led) (hm : (t, tupO vs) ∈ led) (hn : vs.length ≤ 16000000)
    (hL : env.locals = L) (hy : env.kindOf y = some .local) (hp : (env.scope.kind == .class || (env.scope.kind == .module && env.locals != env.globals)) = false)
    (J : Nat → Array Value → List (Addr × Obj) → Prop) (h0 : J 0 #[] led) (hJs : ∀ i ys led, J i ys led → ys.size ≤ i ∧ (t, tupO vs) ∈ led)
    (turn : CTurn prog w A b₀ L env scope cl x xp elt gs dr os (fun i v => vs[i]? = some v) vs.length J)
    (fin : ∀ D h' tk' ys e led', Fx b₀ h' L (fun z => if z = y then some (.ref D) else m z) ((D, listOf ys e) :: led') → J vs.length ys led' → Q ⟨h', gs, dr, tk', os⟩) :
    wpAny (model prog w) A (pyIter (.ref t)) (CAt prog w A E env scope cl elt (.Name x xp) iter [] pos (some (assign (.Name y py) env)) (fun _ s' => Q s')) E ⟨h, gs, dr, tk, os⟩ :=
  comp_tup_use (Q := fun _ => Q) hh W hm hn hL hy hp J h0 hJs turn fin
end
theorem rows_start {w : World} {oR : Obj} {rls : List (Addr × Obj)} {l0 l1 l2 l3 : Addr} {n0 n1 n2 n3 : Nat} (hd : oR.IsDictOf (PySem.intKind prg w) (putAll [] [(3, .ref l0), (4, .ref l1), (5, .ref l2), (6, .ref l3)]))
    (h0 : (l0, listOf ((worldsOf 0).map Value.bool).toArray n0) ∈ rls) (h1 : (l1, listOf ((worldsOf 1).map Value.bool).toArray n1) ∈ rls) (h2 : (l2, listOf ((worldsOf 2).map Value.bool).toArray n2) ∈ rls) (h3 : (l3, listOf ((worldsOf 3).map Value.bool).toArray n3) ∈ rls) : RowsOk w B7 oR rls := by
  have e : putAll [] [(3, .ref l0), (4, .ref l1), (5, .ref l2), (6, .ref l3)] = [((3 : Int), Value.ref l0), (4, .ref l1), (5, .ref l2), (6, .ref l3)] := by simp [putAll, stored]
  rw [e] at hd
  refine ⟨_, hd, fun k v hv => ?_, fun i hi ha => ?_⟩
  · unfold valueAt at hv
    by_cases k3 : (3 : Int) = k
    · subst k3
      obtain rfl : Value.ref l0 = v := by simpa using hv
      exact ⟨3, rfl, by decide, l0, n0, rfl, by rw [show rowOf B7 3 = worldsOf 0 from b7_row 0 (by decide)]; exact h0⟩
    by_cases k4 : (4 : Int) = k
    · subst k4
      obtain rfl : Value.ref l1 = v := by simpa using hv
      exact ⟨4, rfl, by decide, l1, n1, rfl, by rw [show rowOf B7 4 = worldsOf 1 from b7_row 1 (by decide)]; exact h1⟩
    by_cases k5 : (5 : Int) = k
    · subst k5
      obtain rfl : Value.ref l2 = v := by simpa using hv
      exact ⟨5, rfl, by decide, l2, n2, rfl, by rw [show rowOf B7 5 = worldsOf 2 from b7_row 2 (by decide)]; exact h2⟩
    by_cases k6 : (6 : Int) = k
    · subst k6
      obtain rfl : Value.ref l3 = v := by simpa using hv
      exact ⟨6, rfl, by decide, l3, n3, rfl, by rw [show rowOf B7 6 = worldsOf 3 from b7_row 3 (by decide)]; exact h3⟩
    simp [k3, k4, k5, k6] at hv
  · match i, hi with
    | 0, _ | 1, _ | 2, _ => exact absurd ha (by decide)
    | 3, _ => exact ⟨_, rfl⟩
    | 4, _ => exact ⟨_, rfl⟩
    | 5, _ => exact ⟨_, rfl⟩
    | 6, _ => exact ⟨_, rfl⟩
    | i + 7, hi => exact absurd hi (by simp [B7])
section
variable (w : World) (α : BA) (ρ : RA)
abbrev JFresh (TP : Addr) (ts : List Value) (D : Addr) (oT : Obj) (Cl : Addr) (vs : List Value) (e : Nat) (L : Addr) (o1 c2 c3 : Obj) (i : Nat) (ys : Array Value) (led : List (Addr × Obj)) : Prop :=
  ∃ σ' : BC, led = (TP, tupO ts) :: (D, oT) :: (Cl, listOf vs.toArray e) :: (L + 1 + 1 + 1, o1) :: (L + 1 + 1, c2) :: (L + 1, c3) :: bankLed w.params 388 α σ' ∧ Ok prg w σ' (appB i) ∧ (σ'.fnV.size = i ∧ σ'.faV.size = i ∧ σ'.frV.size = i) ∧ ys.size = i ∧ ∀ j, j < i → ∃ t : Tok, ys[j]? = some (Value.int ((3 + j : Nat) : Int) t)
abbrev JRows (σ' : BC) (TH : Addr) (oTH : Obj) (D : Addr) (oT : Obj) (Cl : Addr) (vs : List Value) (e : Nat) (L : Addr) (o1 c2 c3 : Obj) (i : Nat) (ys : Array Value) (led : List (Addr × Obj)) : Prop :=
  ∃ ex : List (Addr × Obj), led = ex ++ ((TH, oTH) :: (D, oT) :: (Cl, listOf vs.toArray e) :: (L + 1 + 1 + 1, o1) :: (L + 1 + 1, c2) :: (L + 1, c3) :: bankLed w.params 388 α σ') ∧ ys.size = i ∧ ∀ j, j < i → ∃ (a : Addr) (t : Tok) (l : Addr) (n : Nat), ys[j]? = some (Value.ref a) ∧ (a, tupO [Value.int ((3 + j : Nat) : Int) t, Value.ref l]) ∈ ex ∧ (l, listOf ((worldsOf j).map Value.bool).toArray n) ∈ ex
abbrev JPool (rr : Addr) (orr : Obj) (D Cl : Addr) (vs : List Value) (e : Nat) (PL L : Addr) (c1 c2 c3 : Obj) (RD : Addr) (oR : Obj) (ex : List (Addr × Obj)) (i : Nat) (m' : Str → Option Value) (led : List (Addr × Obj)) : Prop :=
  ∃ (oT' : Obj) (σ'' : BC) (B : List Tm) (pn : List Nat) (pv : List Value) (np : Nat), m' (Str.ofString "rows") = some (Value.ref RD) ∧ TubO w Cl (1 + 4 * i : Nat) oT' ∧ Ok prg w σ'' B ∧ Gd B ∧ Ext B7 B ∧ B.length ≤ 7 + i ∧ Carry NatV pn pv ∧ pn.length = 6 + i ∧ (∀ t ∈ pn, At B t) ∧
    led = (rr, orr) :: (D, oT') :: (Cl, listOf vs.toArray e) :: (PL, listOf pv.toArray np) :: (L + 1 + 1 + 1, c1) :: (L + 1 + 1, c2) :: (L + 1, c3) :: (RD, oR) :: (ex ++ bankLed w.params 388 α σ'')
abbrev JSame (B : List Tm) (k : Nat) (r2 : Addr) (or2 : Obj) (D Cl : Addr) (vs : List Value) (e : Nat) (PL : Addr) (pv : List Value) (np : Nat) (L : Addr) (c1 c2 c3 : Obj) (RD : Addr) (i : Nat) (m' : Str → Option Value) (led : List (Addr × Obj)) : Prop :=
  ∃ (oT2 : Obj) (σ2 : BC) (B2 : List Tm) (oR2 : Obj) (rls2 : List (Addr × Obj)), m' (Str.ofString "rows") = some (Value.ref RD) ∧ m' (Str.ofString "rewriter") = some (Value.ref ρ.self) ∧ TubO w Cl (k + 3 * i : Nat) oT2 ∧ Ok prg w σ2 B2 ∧ Gd B2 ∧ Ext B B2 ∧ B2.length ≤ B.length + 22 * i ∧ RowsOk w B2 oR2 rls2 ∧
    led = (r2, or2) :: (ρ.self, instObj 513 ρ.d) :: (ρ.d, dictOf (rwEs w.params α ρ) ρ.n) :: (D, oT2) :: (Cl, listOf vs.toArray e) :: (PL, listOf pv.toArray np) :: (L + 1 + 1 + 1, c1) :: (L + 1 + 1, c2) :: (L + 1, c3) :: (RD, oR2) :: (rls2 ++ bankLed w.params 388 α σ2)
abbrev JPick (σ2 : BC) (k : Nat) (r3 : Addr) (or3 : Obj) (it : Addr × Obj) (r2 : Addr) (or2 : Obj) (D Cl : Addr) (vs : List Value) (e : Nat) (PL : Addr) (pv : List Value) (np : Nat) (L : Addr) (c1 c2 c3 : Obj) (RD : Addr) (oR2 : Obj) (rls2 : List (Addr × Obj)) (pn : List Nat) (j : Nat) (ys : Array Value) (led : List (Addr × Obj)) : Prop :=
  ∃ oT3 : Obj, TubO w Cl (k + j : Nat) oT3 ∧ led = (r3, or3) :: it :: (r2, or2) :: (ρ.self, instObj 513 ρ.d) :: (ρ.d, dictOf (rwEs w.params α ρ) ρ.n) :: (D, oT3) :: (Cl, listOf vs.toArray e) :: (PL, listOf pv.toArray np) :: (L + 1 + 1 + 1, c1) :: (L + 1 + 1, c2) :: (L + 1, c3) :: (RD, oR2) :: (rls2 ++ bankLed w.params 388 α σ2) ∧ ys.size = j ∧ ∀ k, k < j → ∃ (t : Nat) (tt : Tok), ys[k]? = some (Value.int (t : Int) tt) ∧ t ∈ pn
end
theorem law_start {b₀ h : Heap} {m : Str → Option Value} {o1 o2 o3 : Obj} (F : Fr b₀ b₀.objs.size h m) (N : News b₀ b₀.objs.size h [(b₀.objs.size + 1 + 1 + 1, o1), (b₀.objs.size + 1 + 1, o2), (b₀.objs.size + 1, o3)]) :
    Fx b₀ h b₀.objs.size m [(b₀.objs.size + 1 + 1 + 1, o1), (b₀.objs.size + 1 + 1, o2), (b₀.objs.size + 1, o3)] := by
  have e1 : ∀ n : Nat, n ≤ n + 1 + 1 + 1 := by intro n; omega
  have e2 : ∀ n : Nat, n ≤ n + 1 + 1 := by intro n; omega
  have e3 : ∀ n : Nat, n ≤ n + 1 := by intro n; omega
  have e4 : ∀ n : Nat, n + 1 + 1 + 1 ≠ n + 1 + 1 := by intro n; omega
  have e5 : ∀ n : Nat, n + 1 + 1 + 1 ≠ n + 1 := by intro n; omega
  have e6 : ∀ n : Nat, n + 1 + 1 ≠ n + 1 := by intro n; omega
  refine ⟨F, ⟨F.keep, fun p hp => (N p hp).1, fun p hp => ?_, ?_⟩, fun p hp => (N p hp).2.1⟩
  · simp only [List.mem_cons, List.not_mem_nil, or_false] at hp
    rcases hp with rfl | rfl | rfl
    · exact e1 _
    · exact e2 _
    · exact e3 _
  · simp only [List.map_cons, List.map_nil, List.nodup_cons, List.mem_cons, List.not_mem_nil, or_false, not_false_eq_true, List.nodup_nil, and_true, not_or]
    exact ⟨⟨e4 _, e5 _⟩, e6 _⟩
theorem law_go {w : World} {s : Shared} {mean : ExcName → Option Value} {mg mb : Str → Option Value} {h₁ : Heap} {tk₁ : Tok} {lS : Addr} {vs : List Value} {ns : List Int} {m : Str → Option Value} {o1 o2 o3 : Obj} {A : Around} {body : List Stmt} {env : Env} {Q : Flow → Shared → Prop} {E : Value → Shared → Prop}
    (KX : (kk.heap_1 w.params).In s.heap) (T : Tp mg mb s.heap) (hL : s.heap.IsList lS vs.toArray) (hI : IntsAre vs ns) (hlen : ¬ ((63 : Nat) : Int) < (ns.length : Int))
    (F : Fr s.heap s.heap.objs.size h₁ m) (N : News s.heap s.heap.objs.size h₁ [(s.heap.objs.size + 1 + 1 + 1, o1), (s.heap.objs.size + 1 + 1, o2), (s.heap.objs.size + 1, o3)])
    (d1 : o1.data = .cell none) (d2 : o2.data = .cell none) (d3 : o3.data = .cell none)
    (main : ∀ gs dr os, Bs w s.heap mean mg mb → s.heap.IsList lS vs.toArray → IntsAre vs ns → vs.length ≤ 63 → o1.data = .cell none → o2.data = .cell none → o3.data = .cell none → Fx s.heap h₁ s.heap.objs.size m [(s.heap.objs.size + 1 + 1 + 1, o1), (s.heap.objs.size + 1 + 1, o2), (s.heap.objs.size + 1, o3)] →
      wpAny (model prg w) A (execs body env) (fun fl s' => fl = .ret (.bool true) ∧ ∃ h' tk' m', s' = ⟨h', gs, dr, tk', os⟩ ∧ Fr s.heap s.heap.objs.size h' m') (fun _ _ => False) ⟨h₁, gs, dr, tk₁, os⟩)
    (fin : ∀ h' tk' m', Fr s.heap s.heap.objs.size h' m' → Q (.ret (.bool true)) ⟨h', s.gens, s.drawn, tk', s.os⟩) :
    wpAny (model prg w) A (execs body env) Q E ⟨h₁, s.gens, s.drawn, tk₁, s.os⟩ := by
  have hv : vs.length ≤ 63 := by
    have := ints_len hI
    omega
  refine wpAny_mono (main _ _ _ ⟨KX, T⟩ hL hI hv d1 d2 d3 (law_start F N)) (fun fl s' hq => ?_) fun _ _ e => e.elim
  obtain ⟨rfl, h', tk', m', rfl, hs⟩ := hq
  exact fin h' tk' m' hs
theorem lawT.tw7513228635738632422 : True := trivial
theorem lawT.tw17526280534529436904 : True := trivial
theorem lawT.tw693854396618856569 : True := trivial
theorem lawT.tw14813322233397399043 : True := trivial
theorem lawT.tw1628280458953443439 : True := trivial
theorem lawT.tw14051018526227665916 : True := trivial
theorem lawT.tw4865726150174279184 : True := trivial
theorem lawT.tw11133278667389855073 : True := trivial
theorem lawT.tw3388197773199895181 : True := trivial
theorem lawT.tw9064163515650277230 : True := trivial
theorem lawT.tw17912130172406275858 : True := trivial
theorem lawT.tw11142323361574388423 : True := trivial
theorem lawT.tw3499746542377841854 : True := trivial
theorem lawT.tw15752894526454067263 : True := trivial
theorem lawT.tw6767819341468199873 : True := trivial
theorem lawT.tw7125043775892690276 : True := trivial
theorem lawT.tw15467675705134412522 : True := trivial
theorem lawT.tw11198009510942533285 : True := trivial
theorem lawT.tw12619462292422764557 : True := trivial
theorem lawT.tw16069978962959623343 : True := trivial
theorem lawT.tw3016095431301506922 : True := trivial
theorem lawT.tw9829697187735832563 : True := trivial
theorem lawT.tw8106706102088115758 : True := trivial
theorem lawT.tw1119969999488409790 : True := trivial
theorem lawT.tw6538704083791032002 : True := trivial
theorem lawT.tw10221919271245101841 : True := trivial
theorem lawT.tw13429782191512565576 : True := trivial
theorem lawT.tw16651077591089845976 : True := trivial
theorem lawT.tw13818724513178579367 : True := trivial
theorem lawT.tw17432186437277019209 : True := trivial
theorem lawT.tw331126887691319266 : True := trivial
theorem lawT.tw9243135230883417167 : True := trivial
theorem lawT.tw1038214772261177385 : True := trivial
theorem lawT.tw16306742552841901821 : True := trivial
theorem lawT.tw9109501010442778042 : True := trivial
theorem lawT.tw1396616139598590645 : True := trivial
theorem lawT.tw2680209833870983626 : True := trivial
theorem lawT.tw8178151311411458394 : True := trivial
theorem lawT.tw14176889520696339293 : True := trivial
theorem lawT.tw5193995869548900021 : True := trivial
theorem lawT.tw7653256503028876418 : True := trivial
theorem lawT.tw17910643456323452079 : True := trivial
theorem lawT.tw18376823510567044892 : True := trivial
theorem lawT.tw3531076201778258167 : True := trivial
theorem lawT.tw2619994955827483883 : True := trivial
theorem lawT.tw17550367401735904617 : True := trivial
theorem lawT.tw10952462199972407627 : True := trivial
theorem lawT.tw13549082325364376102 : True := trivial
theorem lawT.tw9895613121557488208 : True := trivial
theorem lawT.tw17828037890713290332 : True := trivial
theorem lawT.tw17225466853743685550 : True := trivial
theorem lawT.tw5829848495839872039 : True := trivial
theorem lawT.tw15235278030450063745 : True := trivial
theorem lawT.tw8241421314834486137 : True := trivial
theorem lawT.tw4436735059839914592 : True := trivial
theorem lawT.tw1984476354885364521 : True := trivial
theorem lawT.tw18203662224391403486 : True := trivial
theorem lawT.tw12086384084883348436 : True := trivial
theorem lawT.tw12063389420792757456 : True := trivial
theorem lawT.tw11707624946332448347 : True := trivial
theorem lawT.tw513281316355374434 : True := trivial
theorem lawT.tw15111777642734266460 : True := trivial
theorem lawT.tw5865800400429784106 : True := trivial
theorem lawT.tw7260539514740174592 : True := trivial
theorem lawT.tw12733682057250808555 : True := trivial
theorem lawT.tw4085292312361975346 : True := trivial
theorem lawT.tw1159233270901117423 : True := trivial
theorem lawT.tw18357841595276430528 : True := trivial
theorem lawT.tw7891625865948076061 : True := trivial
theorem lawT.tw3330372189238011941 : True := trivial
theorem lawT.tw9752178183975131538 : True := trivial
theorem lawT.tw5540435226612475987 : True := trivial
theorem lawT.tw13325186715389734152 : True := trivial
theorem lawT.tw9597303019534465336 : True := trivial
theorem lawT.tw1814428293859175864 : True := trivial
theorem lawT.tw10205782339683116595 : True := trivial
theorem lawT.tw14602301567076916587 : True := trivial
theorem lawT.tw12089450667505136755 : True := trivial
theorem lawT.tw7729721876525122092 : True := trivial
theorem lawT.tw8885179196899268102 : True := trivial
theorem lawT.tw17250717137601006475 : True := trivial
theorem lawT.tw16191367524700279964 : True := trivial
theorem lawT.tw11452463626535587608 : True := trivial
theorem lawT.tw14860093346376018503 : True := trivial
theorem lawT.tw6568923062522061989 : True := trivial
theorem lawT.tw1600703177191538416 : True := trivial
theorem lawT.tw12833805816142699247 : True := trivial
theorem lawT.tw6800948313688240984 : True := trivial
theorem lawT.tw14031503423198546731 : True := trivial
theorem lawT.tw15240780675707396690 : True := trivial
theorem lawT.tw5175938044855193676 : True := trivial
theorem lawT.tw7041065263351071509 : True := trivial
theorem lawT.tw14599950765443422996 : True := trivial
theorem lawT.tw9813722840693343893 : True := trivial
theorem lawT.tw17737708976245921420 : True := trivial
theorem lawT.tw18184010330841290984 : True := trivial
theorem lawT.tw6423047891534961647 : True := trivial
theorem lawT.tw5637789023679369 : True := trivial
theorem lawT.tw9216025942106486930 : True := trivial
theorem lawT.tw13347963969011619386 : True := trivial
theorem lawT.tw15486704684958788713 : True := trivial
theorem lawT.tw17477790656375069214 : True := trivial
theorem lawT.tw1148404147863944223 : True := trivial
theorem lawT.tw18101778390738668457 : True := trivial
theorem lawT.tw5331243358250421437 : True := trivial
theorem lawT.tw9581178252162330285 : True := trivial
theorem lawT.tw10766868202606645469 : True := trivial
theorem lawT.tw11806039420118427089 : True := trivial
theorem lawT.tw2529296466958916601 : True := trivial
theorem lawT.tw5257431742498629595 : True := trivial
theorem lawT.tw12780898112783663491 : True := trivial
theorem lawT.tw1155625789869916225 : True := trivial
theorem lawT.tw17103209499194658948 : True := trivial
theorem lawT.tw12819912170712663827 : True := trivial
theorem lawT.tw6836443939627189877 : True := trivial
theorem lawT.tw17055476016740562128 : True := trivial
theorem lawT.tw1027922664066270936 : True := trivial
theorem lawT.tw2729678275248368595 : True := trivial
theorem lawT.tw7074917898846072095 : True := trivial
theorem lawT.tw10646392610100365873 : True := trivial
theorem lawT.tw9469679735484629057 : True := trivial
theorem lawT.tw1575322794432820369 : True := trivial
theorem lawT.tw2576063784953738709 : True := trivial
theorem lawT.tw15524009723807831575 : True := trivial
theorem lawT.tw12440985681581897651 : True := trivial
theorem lawT.tw7456756133601959350 : True := trivial
theorem lawT.tw3269716086090828220 : True := trivial
theorem lawT.tw8212618419677862888 : True := trivial
theorem lawT.tw8959290452894005206 : True := trivial
theorem lawT.tw14551758016104514822 : True := trivial
theorem lawT.tw13416896191178333100 : True := trivial
theorem lawT.tw10448863937650631224 : True := trivial
theorem lawT.tw2560823631496342506 : True := trivial
theorem lawT.tw12799706923992143467 : True := trivial
theorem lawT.tw16927243812585120416 : True := trivial
theorem lawT.tw17068940109249155700 : True := trivial
theorem lawT.tw8803027681812298363 : True := trivial
theorem lawT.tw13317142293652754530 : True := trivial
theorem lawT.tw12364316768848542225 : True := trivial
theorem lawT.tw1527533544546385251 : True := trivial
theorem lawT.tw1223972101477056745 : True := trivial
theorem lawT.tw8770399086679700279 : True := trivial
theorem lawT.tw16583678756663124004 : True := trivial
theorem lawT.tw5057212669493367959 : True := trivial
theorem lawT.tw18292367192976940542 : True := trivial
theorem lawT.tw2717692616816149924 : True := trivial
theorem lawT.tw12148027733593142790 : True := trivial
theorem lawT.tw7424412418537341872 : True := trivial
theorem lawT.tw10886408260462171148 : True := trivial
theorem lawT.tw8929557188612750147 : True := trivial
theorem lawT.tw4861716171797148175 : True := trivial
theorem lawT.tw11772040398809012133 : True := trivial
theorem lawT.tw15915182530413434248 : True := trivial
theorem lawT.tw3099505408276612804 : True := trivial
theorem lawT.tw5931055580461561811 : True := trivial
theorem lawT.tw3063754571980898619 : True := trivial
theorem lawT.tw12165849042629412054 : True := trivial
theorem lawT.tw14277062285831900126 : True := trivial
theorem lawT.tw8825967604487372851 : True := trivial
theorem lawT.tw4630718034965523764 : True := trivial
theorem lawT.tw16273242984520002215 : True := trivial
theorem lawT.tw1767053521792123238 : True := trivial
theorem lawT.tw10743696437976745507 : True := trivial
theorem lawT.tw9203647266784576434 : True := trivial
theorem lawT.tw13844491559582225682 : True := trivial
theorem lawT.tw14616773890897691028 : True := trivial
theorem lawT.tw5627164381475268979 : True := trivial
theorem lawT.tw7972202448828427157 : True := trivial
theorem lawT.tw12959749676729671359 : True := trivial
theorem lawT.tw11609125531547257230 : True := trivial
theorem lawT.tw5112610731112245267 : True := trivial
theorem lawT.tw9224898435787966709 : True := trivial
theorem lawT.tw13714930678716345250 : True := trivial
theorem lawT.tw15101018009708562903 : True := trivial
theorem lawT.tw12791477787916010190 : True := trivial
theorem lawT.tw3956217345532885462 : True := trivial
theorem lawT.tw1986845550992540400 : True := trivial
theorem lawT.tw7529985242682883274 : True := trivial
theorem lawT.tw7755915363204515821 : True := trivial
theorem lawT.tw763126128073752145 : True := trivial
theorem lawT.tw790286909776976702 : True := trivial
theorem lawT.tw6150572265032274324 : True := trivial
theorem lawT.tw15935420600590100151 : True := trivial
theorem lawT.tw7258695973483009691 : True := trivial
theorem lawT.tw16379003425341652739 : True := trivial
theorem lawT.tw2505563282501131753 : True := trivial
theorem lawT.tw6715623209312407014 : True := trivial
theorem lawT.tw9935488225150632555 : True := trivial
theorem lawT.tw8728536900349231566 : True := trivial
theorem lawT.tw17666914088435766649 : True := trivial
theorem lawT.tw12485971303258090074 : True := trivial
theorem lawT.tw2821767459068799636 : True := trivial
theorem lawT.tw7217341070322281930 : True := trivial
theorem lawT.tw13226346151989718113 : True := trivial
theorem lawT.tw17573167968770110489 : True := trivial
theorem lawT.tw3061268461672246630 : True := trivial
theorem lawT.tw17748462516672867487 : True := trivial
theorem lawT.tw4144789545039521032 : True := trivial
theorem lawT.tw11392296152671514760 : True := trivial
theorem lawT.tw8098181667237220633 : True := trivial
theorem lawT.tw8072475466464517867 : True := trivial
theorem lawT.tw8873803748435904979 : True := trivial
theorem lawT.tw12545667433580660148 : True := trivial
theorem lawT.tw15113929226330425704 : True := trivial
theorem lawT.tw1030498345010988455 : True := trivial
theorem lawT.tw14503106485106451367 : True := trivial
theorem lawT.tw8177230591221756081 : True := trivial
theorem lawT.tw16156777352644467193 : True := trivial
theorem lawT.tw3600973503921405142 : True := trivial
theorem lawT.tw9869493497572813252 : True := trivial
theorem lawT.tw17811064886561773316 : True := trivial
theorem lawT.tw10819800110809887531 : True := trivial
theorem lawT.tw14941339017949414226 : True := trivial
theorem lawT.tw5105358013740788684 : True := trivial
theorem lawT.tw13345089388343508680 : True := trivial
theorem lawT.tw7543043752514519370 : True := trivial
theorem lawT.tw6883235519607617998 : True := trivial
theorem lawT.tw3805823976259808327 : True := trivial
theorem lawT.tw16949849959734727383 : True := trivial
theorem lawT.tw3729754871624867385 : True := trivial
theorem lawT.tw750405118727157400 : True := trivial
theorem lawT.tw17184730653919184239 : True := trivial
theorem lawT.tw5049558636363556131 : True := trivial
theorem lawT.tw17178166514363777517 : True := trivial
theorem lawT.tw1642057987812946954 : True := trivial
theorem lawT.tw14953428239965752240 : True := trivial
theorem lawT.tw16243748472721881286 : True := trivial
theorem lawT.tw17901844495013513821 : True := trivial
theorem lawT.tw7577185170350157980 : True := trivial
theorem lawT.tw14992467924253059607 : True := trivial
theorem lawT.tw4318215264142028476 : True := trivial
theorem lawT.tw9915158348133046477 : True := trivial
theorem lawT.tw4507328276673973132 : True := trivial
theorem lawT.tw450428929100665571 : True := trivial
theorem lawT.tw4253744314111673446 : True := trivial
theorem lawT.tw1403843967903450584 : True := trivial
theorem lawT.tw17277740249078021604 : True := trivial
theorem lawT.tw13127021998412359374 : True := trivial
theorem lawT.tw16691050826672173178 : True := trivial
theorem lawT.tw17373332908110511688 : True := trivial
theorem lawT.tw6211716855288697594 : True := trivial
theorem lawT.tw2812504868172121962 : True := trivial
theorem lawT.tw5645417833621174694 : True := trivial
theorem lawT.tw9378947175995286961 : True := trivial
theorem lawT.tw9163976727522603320 : True := trivial
theorem lawT.tw11732472644087667274 : True := trivial
theorem lawT.tw17294552383202426524 : True := trivial
theorem lawT.tw15196560083760323232 : True := trivial
theorem lawT.tw9361154208606002777 : True := trivial
theorem lawT.tw9683458374097470630 : True := trivial
theorem lawT.tw13352361104393227252 : True := trivial
theorem lawT.tw17809740042060131596 : True := trivial
theorem lawT.tw17563821456302021401 : True := trivial
theorem lawT.tw6200819308991098794 : True := trivial
theorem lawT.tw6700801451835166233 : True := trivial
theorem lawT.tw783413600546824683 : True := trivial
theorem lawT.tw2298782074097359716 : True := trivial
theorem lawT.tw8988388946383240831 : True := trivial
theorem lawT.tw16758828649722048419 : True := trivial
theorem lawT.tw5557012422627736715 : True := trivial
theorem lawT.tw10717904625140530057 : True := trivial
theorem lawT.tw15660620782202870220 : True := trivial
theorem lawT.tw9313443531083941748 : True := trivial
theorem lawT.tw7823307338651830179 : True := trivial
theorem lawT.tw8340556110378196447 : True := trivial
theorem lawT.tw11561399937042397140 : True := trivial
theorem lawT.tw12640776883751236900 : True := trivial
theorem lawT.tw17212940369047592473 : True := trivial
theorem lawT.tw2757990402155624059 : True := trivial
theorem lawT.tw13520986291065989830 : True := trivial
theorem lawT.tw16061925828814034030 : True := trivial
theorem lawT.tw16257080871033373497 : True := trivial
theorem lawT.tw10061725491284593803 : True := trivial
theorem lawT.tw15019770807665042143 : True := trivial
theorem lawT.tw5716107633168526781 : True := trivial
theorem lawT.tw13083250575674947814 : True := trivial
theorem lawT.tw9119811756300782085 : True := trivial
theorem lawT.tw18261975111296914062 : True := trivial
theorem lawT.tw16173628777174753452 : True := trivial
theorem lawT.tw7484298081478060512 : True := trivial
theorem lawT.tw14232003773340799173 : True := trivial
theorem lawT.tw14039376034835488713 : True := trivial
theorem lawT.tw12324171567532627392 : True := trivial
theorem lawT.tw3460703854275440147 : True := trivial
theorem lawT.tw17971521251297242891 : True := trivial
theorem lawT.tw151694815857839985 : True := trivial
theorem lawT.tw9820752921979625601 : True := trivial
theorem lawT.tw11054733898836474061 : True := trivial
theorem lawT.tw11858955717896915996 : True := trivial
theorem lawT.tw3975705244263904573 : True := trivial
theorem lawT.tw6289038639747845492 : True := trivial
theorem lawT.tw4769852445758985961 : True := trivial
theorem lawT.tw1380911641774175378 : True := trivial
theorem lawT.tw2252851838552017125 : True := trivial
theorem lawT.tw18082896986096657357 : True := trivial
theorem lawT.tw3452080205294545147 : True := trivial
theorem lawT.tw5733932637886216078 : True := trivial
theorem lawT.tw8871858186404639061 : True := trivial
theorem lawT.tw14078732414030941326 : True := trivial
theorem lawT.tw5497683468091620904 : True := trivial
theorem lawT.tw12351918416802604545 : True := trivial
theorem lawT.tw208886384112847186 : True := trivial
theorem lawT.tw14728473472616992369 : True := trivial
theorem lawT.tw14727637064700409321 : True := trivial
theorem lawT.tw15626567919816005885 : True := trivial
theorem lawT.tw2444703469281470501 : True := trivial
theorem lawT.tw5933190839923286361 : True := trivial
theorem lawT.tw2593407003511584836 : True := trivial
theorem lawT.tw34431173926304787 : True := trivial
theorem lawT.tw7615540695925078510 : True := trivial
theorem lawT.tw17455024168048758932 : True := trivial
theorem lawT.tw18276173046829070583 : True := trivial
theorem lawT.tw8167723748069752403 : True := trivial
theorem lawT.tw15993239972421523612 : True := trivial
theorem lawT.tw13799425357819796588 : True := trivial
theorem lawT.tw436771134745377404 : True := trivial
theorem lawT.tw11829515660546671352 : True := trivial
theorem lawT.tw13197356167937239199 : True := trivial
theorem lawT.tw11114379944443847993 : True := trivial
theorem lawT.tw15493723068096190636 : True := trivial
theorem lawT.tw2586978946373564186 : True := trivial
theorem lawT.tw17106036854379365481 : True := trivial
theorem lawT.tw9519953200757049573 : True := trivial
theorem lawT.tw7900646548997674724 : True := trivial
theorem lawT.tw3350598325944262022 : True := trivial
theorem lawT.tw17777851345064685097 : True := trivial
theorem lawT.tw10811335992638853385 : True := trivial
theorem lawT.tw8467637341490198819 : True := trivial
theorem lawT.tw9752158788056890512 : True := trivial
theorem lawT.tw14736154672401994788 : True := trivial
theorem lawT.tw9533548494797678716 : True := trivial
theorem lawT.tw2785546114451287007 : True := trivial
theorem lawT.tw13190358962947371627 : True := trivial
theorem lawT.tw14677418334426160327 : True := trivial
theorem lawT.tw7280640884661477353 : True := trivial
theorem lawT.tw16584058206925837024 : True := trivial
theorem lawT.tw6711469270840365108 : True := trivial
theorem lawT.tw13512623714493146785 : True := trivial
theorem lawT.tw9208674083004868844 : True := trivial
theorem lawT.tw2626663115429949873 : True := trivial
theorem lawT.tw12561897629175588619 : True := trivial
theorem lawT.tw15901329570758913958 : True := trivial
theorem lawT.tw24206240496374807 : True := trivial
theorem lawT.tw6190399170301627846 : True := trivial
theorem lawT.tw11924334330120218706 : True := trivial
theorem lawT.tw14062160007318399088 : True := trivial
theorem lawT.tw3747738580718484047 : True := trivial
theorem lawT.tw11232165487468060354 : True := trivial
theorem lawT.tw11772424609704981507 : True := trivial
theorem lawT.tw680771836810817322 : True := trivial
theorem lawT.tw5146757103484071177 : True := trivial
theorem lawT.tw13181338304246534237 : True := trivial
theorem lawT.tw187415621978882803 : True := trivial
theorem lawT.tw2243441803968818577 : True := trivial
theorem lawT.tw853477603692796607 : True := trivial
theorem lawT.tw12409938766800584900 : True := trivial
theorem lawT.tw3862905301044259075 : True := trivial
theorem lawT.tw12854719442028563677 : True := trivial
theorem lawT.tw17441456187148329532 : True := trivial
theorem lawT.tw2767353445721626788 : True := trivial
theorem lawT.tw17329614748342530544 : True := trivial
theorem lawT.tw18420532946363153024 : True := trivial
theorem lawT.tw13817709940460233914 : True := trivial
theorem lawT.tw9990376830562733994 : True := trivial
theorem lawT.tw7399713404352771358 : True := trivial
theorem lawT.tw4967047374085787848 : True := trivial
theorem lawT.tw4242179391551742304 : True := trivial
theorem lawT.tw6511192204189251550 : True := trivial
theorem lawT.tw11003916809452450192 : True := trivial
theorem lawT.tw4828096840584192279 : True := trivial
theorem lawT.tw7236629750241329260 : True := trivial
theorem lawT.tw15202424871343455051 : True := trivial
theorem lawT.tw11036010783274023395 : True := trivial
theorem lawT.tw17276275801988404151 : True := trivial
theorem lawT.tw3491506730151860788 : True := trivial
theorem lawT.tw2680803254003568839 : True := trivial
theorem lawT.tw4529849971427666105 : True := trivial
theorem lawT.tw12203751118495473858 : True := trivial
theorem lawT.tw18094634558132790369 : True := trivial
theorem lawT.tw8409120759061857800 : True := trivial
theorem lawT.tw10603651389708342347 : True := trivial
theorem lawT.tw8383164334386463215 : True := trivial
theorem lawT.tw13136689773094557733 : True := trivial
theorem lawT.tw16504907588769643864 : True := trivial
theorem lawT.tw7229300429424625321 : True := trivial
theorem lawT.tw1564096362926131049 : True := trivial
theorem lawT.tw135154404812364615 : True := trivial
theorem lawT.tw5181950027602448700 : True := trivial
theorem lawT.tw3388124817864114902 : True := trivial
theorem lawT.tw17724658688640872469 : True := trivial
theorem lawT.tw10714732949023468166 : True := trivial
theorem lawT.tw1245784686197213693 : True := trivial
theorem lawT.tw17034741657396157475 : True := trivial
theorem lawT.tw2626335934222790227 : True := trivial
theorem lawT.tw15091403282526227135 : True := trivial
theorem lawT.tw3257295436686312502 : True := trivial
theorem lawT.tw10987183050651277997 : True := trivial
theorem lawT.tw8687906558143148141 : True := trivial
theorem lawT.tw13753218164732773016 : True := trivial
theorem lawT.tw12015109101949664789 : True := trivial
theorem lawT.tw10874205565477933847 : True := trivial
theorem lawT.tw16158945379475093411 : True := trivial
theorem lawT.tw17395398986877211490 : True := trivial
theorem lawT.tw13287989227336913021 : True := trivial
theorem lawT.tw5260863729492637629 : True := trivial
theorem lawT.tw2172655028503076602 : True := trivial
theorem lawT.tw3110141270962213034 : True := trivial
theorem lawT.tw17794622491251839279 : True := trivial
theorem lawT.tw9530213608158840417 : True := trivial
theorem lawT.tw5129321012780112668 : True := trivial
theorem lawT.tw11036884539070327713 : True := trivial
theorem lawT.tw3709012915762124172 : True := trivial
theorem lawT.tw10180673419635773862 : True := trivial
theorem lawT.tw3456211296191444318 : True := trivial
theorem lawT.tw15258193011201241029 : True := trivial
theorem lawT.tw13618077616310767492 : True := trivial
theorem lawT.tw1331633413641236528 : True := trivial
theorem lawT.tw16725033478781971584 : True := trivial
theorem lawT.tw16618733597854464924 : True := trivial
theorem lawT.tw13922223667975309515 : True := trivial
theorem lawT.tw17157441217191700952 : True := trivial
theorem lawT.tw8088301423437888053 : True := trivial
theorem lawT.tw10237848258179464613 : True := trivial
theorem lawT.tw12245148700289073581 : True := trivial
theorem lawT.tw2920613581318477389 : True := trivial
theorem lawT.tw12826415736424415527 : True := trivial
theorem lawT.tw14651865370768347970 : True := trivial
theorem lawT.tw9702257623567441054 : True := trivial
theorem lawT.tw15302303675843101478 : True := trivial
theorem lawT.tw9659214752717290748 : True := trivial
theorem lawT.tw3328940276181612757 : True := trivial
theorem lawT.tw15509038345383312657 : True := trivial
theorem lawT.tw7217139254567599685 : True := trivial
theorem lawT.tw11652880335018994375 : True := trivial
theorem lawT.tw14160893842197321378 : True := trivial
theorem lawT.tw4541112267922471450 : True := trivial
theorem lawT.tw1465994937017364784 : True := trivial
theorem lawT.tw16421460344206873326 : True := trivial
theorem lawT.tw8320285658908009362 : True := trivial
theorem lawT.tw5862867536084694604 : True := trivial
theorem lawT.tw4218742143126275456 : True := trivial
theorem lawT.tw9439447857919051937 : True := trivial
theorem lawT.tw10944603436548393243 : True := trivial
theorem lawT.tw4807104095161817550 : True := trivial
theorem lawT.tw4892097252220487676 : True := trivial
theorem lawT.tw8785999152410570125 : True := trivial
theorem lawT.tw9710972681735426055 : True := trivial
theorem lawT.tw7313944481810487683 : True := trivial
theorem lawT.tw13001145356646908083 : True := trivial
theorem lawT.tw5468775419128570915 : True := trivial
theorem lawT.tw6513368548500458976 : True := trivial
theorem lawT.tw9327791488215885315 : True := trivial
theorem lawT.tw17399037606152569694 : True := trivial
theorem lawT.tw14918142993852569079 : True := trivial
theorem lawT.tw14274646891849573286 : True := trivial
theorem lawT.tw2581352959951868195 : True := trivial
theorem lawT.tw5621872760190278296 : True := trivial
theorem lawT.tw9425677158036233291 : True := trivial
theorem lawT.tw18320791089857441317 : True := trivial
theorem lawT.tw14837476853518552057 : True := trivial
theorem lawT.tw14286328840407966816 : True := trivial
theorem lawT.tw6789132394701517141 : True := trivial
theorem lawT.tw11070213012199084757 : True := trivial
theorem lawT.tw403272296947751199 : True := trivial
theorem lawT.tw1757822339931356419 : True := trivial
theorem lawT.tw10616114869425828513 : True := trivial
theorem lawT.tw18366651507398189493 : True := trivial
theorem lawT.tw14142585715561438571 : True := trivial
theorem lawT.tw8352448626973776564 : True := trivial
theorem lawT.tw15572725685249238841 : True := trivial
theorem lawT.tw15578410547098419980 : True := trivial
theorem lawT.tw5672398138771548517 : True := trivial
theorem lawT.tw5282703752052920596 : True := trivial
theorem lawT.tw1431384219585672040 : True := trivial
theorem lawT.tw2842617487397823366 : True := trivial
theorem lawT.tw9312874976295331116 : True := trivial
theorem lawT.tw15326669019477248890 : True := trivial
theorem lawT.tw16061948206912539026 : True := trivial
theorem lawT.tw11525744159018504443 : True := trivial
theorem lawT.tw10181254320760885690 : True := trivial
theorem lawT.tw11344295216304715190 : True := trivial
theorem lawT.tw10321467436023670815 : True := trivial
theorem lawT.tw11152562807152680804 : True := trivial
theorem lawT.tw18030087037689892010 : True := trivial
theorem lawT.tw1798348408663307498 : True := trivial
theorem lawT.tw16497179986206410780 : True := trivial
theorem lawT.tw10136614934363614362 : True := trivial
theorem lawT.tw12518497669185870729 : True := trivial
theorem lawT.tw12646627449464131016 : True := trivial
theorem lawT.tw12565519636766950111 : True := trivial
theorem lawT.tw15834030459643286150 : True := trivial
theorem lawT.tw2457195794700328927 : True := trivial
theorem lawT.tw12022267738791948459 : True := trivial
theorem lawT.tw10599891971925170353 : True := trivial
theorem lawT.tw8025113158010631788 : True := trivial
theorem lawT.tw16239453564747884394 : True := trivial
theorem lawT.tw6373826112285271377 : True := trivial
theorem lawT.tw2072271720981175140 : True := trivial
theorem lawT.tw18273924582973132126 : True := trivial
theorem lawT.tw1145500231446542873 : True := trivial
theorem lawT.tw6711351219207336675 : True := trivial
theorem lawT.tw17694042151745679976 : True := trivial
theorem lawT.tw15097993833094492544 : True := trivial
theorem lawT.tw14648447199018508574 : True := trivial
theorem lawT.tw8494572045984804555 : True := trivial
theorem lawT.tw11180823716202068241 : True := trivial
theorem lawT.tw14358537746866521329 : True := trivial
theorem lawT.tw6762583436824678750 : True := trivial
theorem lawT.tw5318033903821260991 : True := trivial
theorem lawT.tw10793735546613248995 : True := trivial
theorem lawT.tw13352926114657058556 : True := trivial
theorem lawT.tw544503783502144782 : True := trivial
theorem lawT.tw6212904506091155361 : True := trivial
theorem lawT.tw414198083536957076 : True := trivial
theorem lawT.tw14187283162540301378 : True := trivial
theorem lawT.tw17888059814997849259 : True := trivial
theorem lawT.tw15170974509361797054 : True := trivial
theorem lawT.tw5407269890146784245 : True := trivial
theorem lawT.tw6155460257611912534 : True := trivial
theorem lawT.tw2060989352006100092 : True := trivial
theorem lawT.tw18223634802368376262 : True := trivial
theorem lawT.tw1001056060102450120 : True := trivial
theorem lawT.tw10282701815385685188 : True := trivial
theorem lawT.tw5571441944650417005 : True := trivial
theorem lawT.tw2671940234638063298 : True := trivial
theorem lawT.tw14784418233114721650 : True := trivial
theorem lawT.tw2528273637766395757 : True := trivial
theorem lawT.tw7001970421968666769 : True := trivial
theorem lawT.tw4681111878257001563 : True := trivial
theorem lawT.tw4734740043137553766 : True := trivial
theorem lawT.tw7597866931890042018 : True := trivial
theorem lawT.tw1022471453728451568 : True := trivial
theorem lawT.tw6030062689158408066 : True := trivial
theorem lawT.tw1558034353231879244 : True := trivial
theorem lawT.tw7443101722939010602 : True := trivial
theorem lawT.tw13510285709884733530 : True := trivial
theorem lawT.tw15318309887263397156 : True := trivial
theorem lawT.tw4558728888020134538 : True := trivial
theorem lawT.tw5777732143184679343 : True := trivial
theorem lawT.tw8395178377750397819 : True := trivial
theorem lawT.tw8253655312643564786 : True := trivial
theorem lawT.tw15094137676452916655 : True := trivial
theorem lawT.tw14935867393346671497 : True := trivial
theorem lawT.tw3301265043726181235 : True := trivial
theorem lawT.tw8115264643215242780 : True := trivial
theorem lawT.tw12664798641197290781 : True := trivial
theorem lawT.tw4645372272895368549 : True := trivial
theorem lawT.tw11571592280272606666 : True := trivial
theorem lawT.tw16365406833957489591 : True := trivial
theorem lawT.tw6673415110754829970 : True := trivial
theorem lawT.tw17103178770674951483 : True := trivial
theorem lawT.tw18372442726001146338 : True := trivial
theorem lawT.tw16928802819737601705 : True := trivial
theorem lawT.tw14064884083968201017 : True := trivial
theorem lawT.tw12543857911111510591 : True := trivial
theorem lawT.tw11417525697488907469 : True := trivial
theorem lawT.tw11698238255759652975 : True := trivial
theorem lawT.tw1972228514844373948 : True := trivial
theorem lawT.tw161236207124493297 : True := trivial
theorem lawT.tw5938903580142964605 : True := trivial
theorem lawT.tw9375422767810916713 : True := trivial
theorem lawT.tw17210016377997813347 : True := trivial
theorem lawT.tw2000475937564249641 : True := trivial
theorem lawT.tw8052686385915492695 : True := trivial
theorem lawT.tw15874663917931497364 : True := trivial
theorem lawT.tw10115772159266035720 : True := trivial
theorem lawT.tw10924164028708567662 : True := trivial
theorem lawT.tw12377165126663296721 : True := trivial
theorem lawT.tw7863209290797756483 : True := trivial
theorem lawT.tw4020118860816529515 : True := trivial
theorem lawT.tw4360246519183115372 : True := trivial
theorem lawT.tw7804595404144694114 : True := trivial
theorem lawT.tw15991963766636815178 : True := trivial
theorem lawT.tw3301499982959253596 : True := trivial
theorem lawT.tw16890200913801309400 : True := trivial
theorem lawT.tw10218035609984301980 : True := trivial
theorem lawT.tw16552244404030911743 : True := trivial
theorem lawT.tw9082643797896013972 : True := trivial
theorem lawT.tw17089154766579864898 : True := trivial
theorem lawT.tw1351219257258567214 : True := trivial
theorem lawT.tw6447758232610264200 : True := trivial
theorem lawT.tw12974317119341311242 : True := trivial
theorem lawT.tw4091176157231104813 : True := trivial
theorem lawT.tw5037288716805287650 : True := trivial
theorem lawT.tw8214109537667521965 : True := trivial
theorem lawT.tw11277757962680328005 : True := trivial
theorem lawT.tw4038026438601784929 : True := trivial
theorem lawT.tw8445957942363573884 : True := trivial
theorem lawT.tw945633340490783364 : True := trivial
theorem lawT.tw1927470070618149424 : True := trivial
theorem lawT.tw15627835346941038952 : True := trivial
theorem lawT.tw6293681975338351605 : True := trivial
theorem lawT.tw4967494921771670518 : True := trivial
theorem lawT.tw17488060453667607915 : True := trivial
theorem lawT.tw4724994870222210799 : True := trivial
theorem lawT.tw16490950055996847365 : True := trivial
theorem lawT.tw13140016839337087105 : True := trivial
theorem lawT.tw1838534263013861394 : True := trivial
theorem lawT.tw10205893138709396554 : True := trivial
theorem lawT.tw12509821375242319127 : True := trivial
theorem lawT.tw10384299027199091196 : True := trivial
theorem lawT.tw2540461266776722236 : True := trivial
theorem lawT.tw4197271434589441593 : True := trivial
theorem lawT.tw2049758658053727338 : True := trivial
theorem lawT.tw6241427092827304594 : True := trivial
theorem lawT.tw5337910717478668231 : True := trivial
theorem lawT.tw1517282840685140727 : True := trivial
theorem lawT.tw4232713186960163226 : True := trivial
theorem lawT.tw10729823173136812078 : True := trivial
theorem lawT.tw15882446997738411716 : True := trivial
theorem lawT.tw11805152120856738531 : True := trivial
theorem lawT.tw15374815877944637351 : True := trivial
theorem lawT.tw6132045462075617500 : True := trivial
theorem lawT.tw5841912047760791565 : True := trivial
theorem lawT.tw15438719065045410327 : True := trivial
theorem lawT.tw13677782833295710550 : True := trivial
theorem lawT.tw4985728134736936536 : True := trivial
theorem lawT.tw8374655242350228383 : True := trivial
theorem lawT.tw6314445845500888954 : True := trivial
theorem lawT.tw8560043932462986958 : True := trivial
theorem lawT.tw11322272262455122332 : True := trivial
theorem lawT.tw7005097208081266209 : True := trivial
theorem lawT.tw12643430511207838377 : True := trivial
theorem lawT.tw11146471674304743394 : True := trivial
theorem lawT.tw593998190378789125 : True := trivial
theorem lawT.tw15663903989749496285 : True := trivial
theorem lawT.tw3246546819234710172 : True := trivial
theorem lawT.tw17788794614411152210 : True := trivial
theorem lawT.tw11550143704304662060 : True := trivial
theorem lawT.tw4015145499764287733 : True := trivial
theorem lawT.tw1079403111511482406 : True := trivial
theorem lawT.tw3616013956985094477 : True := trivial
theorem lawT.tw13728461658694588391 : True := trivial
theorem lawT.tw12380260743207495105 : True := trivial
theorem lawT.tw5702835367803463724 : True := trivial
theorem lawT.tw2689525288187534950 : True := trivial
theorem lawT.tw11523093003099482930 : True := trivial
theorem lawT.tw15767188607724827997 : True := trivial
theorem lawT.tw14896575359110027232 : True := trivial
theorem lawT.tw10976002977391352815 : True := trivial
theorem lawT.tw16511686671060057903 : True := trivial
theorem lawT.tw8593880942943258855 : True := trivial
theorem lawT.tw1563357241538611959 : True := trivial
theorem lawT.tw12385755838088956125 : True := trivial
theorem lawT.tw16603553929745672810 : True := trivial
theorem lawT.tw18253932332311733119 : True := trivial
theorem lawT.tw17993786880839208825 : True := trivial
theorem lawT.tw3556048773974950814 : True := trivial
theorem lawT.tw7960363238741441109 : True := trivial
theorem lawT.tw16117520396082514715 : True := trivial
theorem lawT.tw11080956163508833823 : True := trivial
theorem lawT.tw12913035811253963069 : True := trivial
theorem lawT.tw2381715779225205431 : True := trivial
theorem lawT.tw11908765791832739391 : True := trivial
theorem lawT.tw13896596944200437461 : True := trivial
theorem lawT.tw16829802788435467021 : True := trivial
theorem lawT.tw4068236224486129586 : True := trivial
theorem lawT.tw14825810894092597315 : True := trivial
theorem lawT.tw184270684030672397 : True := trivial
theorem lawT.tw6215741870073834074 : True := trivial
theorem lawT.tw743027109234887662 : True := trivial
theorem lawT.tw12307952891645001582 : True := trivial
theorem lawT.tw8648267458973738850 : True := trivial
theorem lawT.tw13118868115878656795 : True := trivial
theorem lawT.tw16006419813415432031 : True := trivial
theorem lawT.tw8142092673230089155 : True := trivial
theorem lawT.tw18206491639748473151 : True := trivial
theorem lawT.tw6088158105127341240 : True := trivial
theorem lawT.tw3894996243522268943 : True := trivial
theorem lawT.tw3857548832886600896 : True := trivial
theorem lawT.tw7196705921500699120 : True := trivial
theorem lawT.tw8774497595315016277 : True := trivial
theorem lawT.tw9728888759220732948 : True := trivial
theorem lawT.tw2960703663600983406 : True := trivial
theorem lawT.tw13173827801808564921 : True := trivial
theorem lawT.tw2133623614792473808 : True := trivial
theorem lawT.tw10366157002300899653 : True := trivial
theorem lawT.tw16404650048409002 : True := trivial
theorem lawT.tw17518699144654847743 : True := trivial
theorem lawT.tw3127754460454547924 : True := trivial
theorem lawT.tw11961041212479552464 : True := trivial
theorem lawT.tw12339814464118717889 : True := trivial
theorem lawT.tw12707716620031648213 : True := trivial
theorem lawT.tw9000278264428394634 : True := trivial
theorem lawT.tw2157561164543577392 : True := trivial
theorem lawT.tw13662298240663484823 : True := trivial
theorem lawT.tw4715844332474227611 : True := trivial
theorem lawT.tw12437531761565681956 : True := trivial
theorem lawT.tw2844735356532929935 : True := trivial
theorem lawT.tw14580044243573783504 : True := trivial
theorem lawT.tw4888058956151120497 : True := trivial
theorem lawT.tw5792249008222853471 : True := trivial
theorem lawT.tw18278082096573798108 : True := trivial
theorem lawT.tw17288560384106460444 : True := trivial
theorem lawT.tw4512382646177399360 : True := trivial
theorem lawT.tw7910140610020710407 : True := trivial
theorem lawT.tw13566296683248388590 : True := trivial
theorem lawT.tw16130773067123564689 : True := trivial
theorem lawT.tw10229269437793305428 : True := trivial
theorem lawT.tw2618644199249775145 : True := trivial
theorem lawT.tw8271697532537419438 : True := trivial
theorem lawT.tw5584294218069513510 : True := trivial
theorem lawT.tw3953290071102543430 : True := trivial
theorem lawT.tw17628370946076329607 : True := trivial
theorem lawT.tw14481623412230081419 : True := trivial
theorem lawT.tw14815452987680422833 : True := trivial
theorem lawT.tw16330520837678011528 : True := trivial
theorem lawT.tw760643953927771116 : True := trivial
theorem lawT.tw2067446636621287369 : True := trivial
theorem lawT.tw16778347415218873335 : True := trivial
theorem lawT.tw1889288328155910651 : True := trivial
theorem lawT.tw10366988111129361217 : True := trivial
theorem lawT.tw406296029288537082 : True := trivial
theorem lawT.tw14719439851186160715 : True := trivial
theorem lawT.tw5584990266984744342 : True := trivial
theorem lawT.tw15226377596410413018 : True := trivial
theorem lawT.tw10781648198209073573 : True := trivial
theorem lawT.tw13919895311132520925 : True := trivial
theorem lawT.tw15957485742532628646 : True := trivial
theorem lawT.tw3748663280705637552 : True := trivial
theorem lawT.tw5926671564514635346 : True := trivial
theorem lawT.tw1211582140683510615 : True := trivial
theorem lawT.tw1078735106661357154 : True := trivial
theorem lawT.tw10548055871163875845 : True := trivial
theorem lawT.tw8257056556536834859 : True := trivial
theorem lawT.tw8013736535294660625 : True := trivial
theorem lawT.tw17498446774352908250 : True := trivial
theorem lawT.tw9469822854889904041 : True := trivial
theorem lawT.tw12304081688799828621 : True := trivial
theorem lawT.tw9730166114117434934 : True := trivial
theorem lawT.tw3042351675311468892 : True := trivial
theorem lawT.tw3655218132494780880 : True := trivial
theorem lawT.tw14319742205934214395 : True := trivial
theorem lawT.tw12102549137266043439 : True := trivial
theorem lawT.tw340575432980958467 : True := trivial
theorem lawT.tw15177352176618842175 : True := trivial
theorem lawT.tw3302013989054723104 : True := trivial
theorem lawT.tw14862151455233351439 : True := trivial
theorem lawT.tw4998365212404623943 : True := trivial
theorem lawT.tw6565030444727928020 : True := trivial
theorem lawT.tw4264762052692005583 : True := trivial
theorem lawT.tw2542340432547336910 : True := trivial
theorem lawT.tw16046821903143525265 : True := trivial
theorem lawT.tw1279195524881048642 : True := trivial
theorem lawT.tw8214096208091420916 : True := trivial
theorem lawT.tw12142888666006092190 : True := trivial
theorem lawT.tw6687782563109484582 : True := trivial
theorem lawT.tw16845157320240901099 : True := trivial
theorem lawT.tw2323220573289324019 : True := trivial
theorem lawT.tw16714823425986740708 : True := trivial
theorem lawT.tw6479519050617995076 : True := trivial
theorem lawT.tw11366784742353017361 : True := trivial
theorem lawT.tw7732159637097218882 : True := trivial
theorem lawT.tw7519847827145970104 : True := trivial
theorem lawT.tw3334258850350813088 : True := trivial
theorem lawT.tw4317881276094306574 : True := trivial
theorem lawT.tw8670268221665823624 : True := trivial
theorem lawT.tw15997194886456340820 : True := trivial
theorem lawT.tw9093347588758853463 : True := trivial
theorem lawT.tw11997532573453640152 : True := trivial
theorem lawT.tw9147491343080256326 : True := trivial
theorem lawT.tw8419689060298325537 : True := trivial
theorem lawT.tw1354480610715662790 : True := trivial
theorem lawT.tw7152704196364366068 : True := trivial
theorem lawT.tw10949713883309312592 : True := trivial
theorem lawT.tw3406263371172445977 : True := trivial
theorem lawT.tw3722870528790930067 : True := trivial
theorem lawT.tw11355753238930401902 : True := trivial
theorem lawT.tw132564039959789789 : True := trivial
theorem lawT.tw11634128991867683249 : True := trivial
theorem lawT.tw5419045448380873236 : True := trivial
theorem lawT.tw9880130190255100492 : True := trivial
theorem lawT.tw10793750531231940539 : True := trivial
theorem lawT.tw1297420897348192692 : True := trivial
theorem lawT.tw8422231875115447965 : True := trivial
theorem lawT.tw13657662982135271747 : True := trivial
theorem lawT.tw2802827502222440997 : True := trivial
theorem lawT.tw4750935452477693274 : True := trivial
theorem lawT.tw12768497168819598045 : True := trivial
theorem lawT.tw8290688095864726920 : True := trivial
theorem lawT.tw6708419345233149503 : True := trivial
theorem lawT.tw7667700639778239219 : True := trivial
theorem lawT.tw9489773768955457591 : True := trivial
theorem lawT.tw2806675128848209636 : True := trivial
theorem lawT.tw3227549878342754330 : True := trivial
theorem lawT.tw9319014821373837362 : True := trivial
theorem lawT.tw10994564639479759493 : True := trivial
theorem lawT.tw6021158008034930837 : True := trivial
theorem lawT.tw11734555340148396361 : True := trivial
theorem lawT.tw7890573331808333306 : True := trivial
theorem lawT.tw9968599928404431628 : True := trivial
theorem lawT.tw16295181439083038076 : True := trivial
theorem lawT.tw10664762667175590627 : True := trivial
theorem lawT.tw3011861451307199905 : True := trivial
theorem lawT.tw17927283848480038048 : True := trivial
theorem lawT.tw8741091129330041977 : True := trivial
theorem lawT.tw10657388417359777933 : True := trivial
theorem lawT.tw18136380088242409238 : True := trivial
theorem lawT.tw14798490847532177323 : True := trivial
theorem lawT.tw13984343456286003959 : True := trivial
theorem lawT.tw4163918772260408578 : True := trivial
theorem lawT.tw1109816417572150443 : True := trivial
theorem lawT.tw6076228990274124157 : True := trivial
set_option Elab.async true in
theorem lawT : PySem.Challenge.rw_rg0210_02.Holds := by
  w_on; o_law; k_head; (case hw => w_witness2)
  · k_go0
    rename_i w s₀ s₁ mg mb G0 Y fa o pm doc ho hg KX X V GL T B TE TW a1 a2 M a3 a4 hcd ns hs hlay0 hL0 hr hl2 a5 a6 lS vs a7 hL ra w1 r0 hI hr2 hlen hc2 K0 hD h₁ tk₁ F o1 o2 o3 d1 d2 d3 N0 X0
    replace d1 : o1.data = .cell none := d1
    replace d2 : o2.data = .cell none := d2
    replace d3 : o3.data = .cell none := d3
    have KX' : (kk.heap_1 w.params).In s₁.heap := KX
    have T' : Tp mg mb s₁.heap := ⟨T.g, T.b, T.nolimit, T.builtins⟩
    with_reducible refine law_go (mean := fun _ => none) KX' T' hL hI hlen F N0 d1 d2 d3 ?main ?fin
    case fin =>
      intro h' tk' m' F'
      close_w
    case main =>
      clear X0 N0 F hD K0 hc2 hlen hr2 hI r0 w1 ra hL hr hl2 hL0 hlay0 hs hcd M TW TE B T' T KX' GL V X KX hg ho Y G0 d3 d2 d1
      intro gs dr os G hL hI hlen d1 d2 d3 W
      have r : ∀ env, Rm (callerA.deeper env) 690 := fun env => ⟨rfl, by show (302 : Nat) + 690 < 1000; decide, by show (7 : Nat) + 8 * 690 < 9900; decide⟩
      have hh : ∀ env, (callerA.deeper env).handled = none := fun _ => rfl
      walk_at "v"
      walk_at "v"
      walk_at "v"
      walk_at "v"
      refine rDict2s (a := Str.ofString "cells") (b := Str.ofString "at") (by decide) W ?_
      intro D h₂ tk₂ W
      refine rComp ?_ rfl rfl (by decide) (fun _ => rfl)
      refine rSliceTo W rfl hL hI (by walk_at "v_b") (by decide) (k := ?_) rfl
      intro S h₃ tk₃ vs' hI' W
      have hlen' : vs'.length ≤ 60 := by have := ints_len hI'; rw [List.length_take] at this; omega
      refine comp_list_fix (fun j y => vs'[j]? = some y) rfl W (.head _) (by simp; omega) ?_ ?_
      · intro C i v ys e D1 oL1 m₁ led₁ it₁ cells₁ h₁ tk₁ E' hi hv J' hc' hdc W
        obtain rfl : cells₁ = [] := List.map_eq_nil_iff.mp hc'
        rw [List.nil_append] at W
        replace hv : vs'[i]? = some v := by simpa using hv
        obtain ⟨z, t, rfl, _⟩ := ints_get hI' hv
        walk_at "v_asg"
        walk_at "vv"
        refine call_int_int ?_
        rename Fx _ _ _ _ _ => W
        exact CEnd.intro [] W rfl (fun _ hp => nomatch hp) (J'.push hv)
      · intro Cl h₄ tk₄ ys e W J'
        obtain rfl : ys = vs'.toArray := by
          exact fixVals J'.2.1 J'.2.2
        clear J'
        intro tka
        walk_at "v"
        refine ⟨_, _, _, _, fun o' => (Cl, listOf vs'.toArray e) :: (S, listOf vs'.toArray 0) :: (D, o') :: _, rfl, W, fun o' => .tail (.tail .head), ?_⟩
        intro h₅ oT tk₅ W hT
        replace hT : TubO _ Cl (0 : Nat) oT := ⟨_, hT⟩
        walk_at "vv"
        refine bank_new_c G ((r _).le (by walk_at "v_b")) W (by first | walk_at "v_mem" | simp) ?_
        intro h₆ tk₆ α σ O z1 z2 z3 W
        walk_at "vv"
        rename_i TP h₇ W
        refine rAsgT (items := #[.ref D, .ref α.self]) rfl W (isTup_of W.C (.head _)) ?_ rfl rfl
        intro h₈ W
        dsimp only [assignEach, List.map_cons, List.map_nil]
        refine aio_name (rCellSt (led' := fun o' => (TP, tupO [.ref D, .ref α.self]) :: (Cl, listOf vs'.toArray e) :: (S, listOf vs'.toArray 0) :: (D, oT) :: (s₁.heap.objs.size + 1 + 1 + 1, o1) :: (s₁.heap.objs.size + 1 + 1, o2) :: (s₁.heap.objs.size + 1, o') :: bankLed w.params 388 α σ) W rfl (by walk_at "v_mem") d3 (fun o' => .tail (.tail (.tail (.tail (.tail (.tail .head)))))) ?_)
        intro h₉ c3 W d3
        refine aio_name (rCellSt (led' := fun o' => (TP, tupO [.ref D, .ref α.self]) :: (Cl, listOf vs'.toArray e) :: (S, listOf vs'.toArray 0) :: (D, oT) :: (s₁.heap.objs.size + 1 + 1 + 1, o1) :: (s₁.heap.objs.size + 1 + 1, o') :: (s₁.heap.objs.size + 1, c3) :: bankLed w.params 388 α σ) W rfl (by walk_at "v_mem") d2 (fun o' => .tail (.tail (.tail (.tail (.tail .head))))) ?_)
        intro h₁₀ c2 W d2
        replace W := W.sub (led' := (Cl, listOf vs'.toArray e) :: (D, oT) :: (s₁.heap.objs.size + 1 + 1 + 1, o1) :: (s₁.heap.objs.size + 1 + 1, c2) :: (s₁.heap.objs.size + 1, c3) :: bankLed w.params 388 α σ) (.cons _ (.cons_cons _ (.cons _ (List.Sublist.refl _))))
        replace W := W.perm (List.Perm.swap (Cl, listOf vs'.toArray e) (D, oT) _)
        walk_at "v"
        refine wpAny_execs_cons ?_
        refine rCompAssign ?_ rfl rfl rfl (by decide) (fun _ => rfl)
        walk_at "vv"
        rename_i TP2 h₁₁ W
        refine comp_tup_useQ (t := TP2) (hh _) W (.head _) (by first | walk_at "v_mem" | simp) ?hL ?hy ?hp (JFresh w α TP2 _ D oT Cl vs' e s₁.heap.objs.size o1 c2 c3)
          ⟨σ, rfl, O, ⟨by rw [z1]; rfl, by rw [z2]; rfl, by rw [z3]; rfl⟩, rfl, fun j hj => absurd hj (Nat.not_lt_zero _)⟩ ?_ ?_ ?_
        case hL => exact rfl
        case hy => exact rfl
        case hp => exact rfl
        · rintro i ys led₁ ⟨_, rfl, _, _, e, _⟩
          exact ⟨Nat.le_of_eq e, .head _⟩
        · rintro C i v ys e2 D2 oL2 m₁ led₁ it₁ cells₁ h₁ tk₁ E' hi hv ⟨σ', rfl, O', hs', hys, hin⟩ hc' hdc W
          obtain rfl : cells₁ = [] := List.map_eq_nil_iff.mp hc'
          rw [List.nil_append] at W
          obtain ⟨x, tx, rfl⟩ : ∃ x tx, v = .str x tx := by
            rcases i with _ | _ | _ | _ | i
            all_goals first | (simp at hv; exact ⟨_, _, hv.symm⟩) | (simp at hi; omega)
          have hi4 : i < 4 := by simpa using hi
          walk_at "v_asg"
          walk_at "vv"
          rename Fx _ _ _ _ _ => W
          refine fresh_c (pre := [(D2, listOf ys e2), (s₁.heap.objs.size, oL2), it₁, (TP2, tupO _), (D, oT), (Cl, listOf vs'.toArray e), (s₁.heap.objs.size + 1 + 1 + 1, o1), (s₁.heap.objs.size + 1 + 1, c2), (s₁.heap.objs.size + 1, c3)]) G ((r _).le (by walk_at "v_b")) W O' (by walk_at "v_b") (by simp [appB, B3]; omega) ?_
          intro h₅ tk₅ σ5 tn5 O5 hs5 W
          rw [hs'.1, appB_mk i hi4] at O5 ⊢
          refine CEnd.intro [] W rfl (fun _ hp => nomatch hp) ⟨σ5, rfl, O5, by omega, by simp [hys], fun j hj => ?_⟩
          by_cases ej : j = i
          · subst ej; exact ⟨_, by rw [Array.getElem?_push, if_pos hys.symm]⟩
          · obtain ⟨t, h1⟩ := hin j (by walk_at "v_b")
            exact ⟨t, by rw [Array.getElem?_push, if_neg (by rw [hys]; exact ej)]; exact h1⟩
        · rintro TH h₁₂ tk₁₂ ys n4 led' W ⟨σ', rfl, O, hs', hys, hin⟩
          obtain ⟨u0, e0⟩ := hin 0 (by first | walk_at "v_mem" | simp)
          obtain ⟨u1, e1⟩ := hin 1 (by first | walk_at "v_mem" | simp)
          obtain ⟨u2, e2⟩ := hin 2 (by first | walk_at "v_mem" | simp)
          obtain ⟨u3, e3⟩ := hin 3 (by first | walk_at "v_mem" | simp)
          obtain rfl : ys = [.int ((3 : Nat) : Int) u0, .int ((4 : Nat) : Int) u1, .int ((5 : Nat) : Int) u2, .int ((6 : Nat) : Int) u3].toArray := by
            apply Array.ext_getElem?
            intro j
            match j with
            | 0 => rw [e0]; rfl
            | 1 => rw [e1]; rfl
            | 2 => rw [e2]; rfl
            | 3 => rw [e3]; rfl
            | j + 4 => rw [Array.getElem?_eq_none (by rw [hys]; simp), Array.getElem?_eq_none (by first | walk_at "v_mem" | simp)]
          clear e0 e1 e2 e3 hin hys hs'
          replace W := W.sub (led' := (TH, listOf _ n4) :: (D, oT) :: (Cl, listOf vs'.toArray e) :: (s₁.heap.objs.size + 1 + 1 + 1, o1) :: (s₁.heap.objs.size + 1 + 1, c2) :: (s₁.heap.objs.size + 1, c3) :: bankLed w.params 388 α σ') (.cons_cons _ (.cons _ (List.Sublist.refl _)))
          walk_at "vv"
          refine rComp ?_ rfl rfl (by decide) (fun _ => rfl)
          walk_at "vv"
          refine' itr_enum (hh _) W (.head _) ?main2
          case main2 =>
            intro h₁₃ i0 i1 it T
            refine Itr.self T ?_
            refine comp_at T (by first | walk_at "v_mem" | simp) (JRows w α σ' TH _ D oT Cl vs' e s₁.heap.objs.size o1 c2 c3)
              ⟨[], rfl, rfl, fun j hj => absurd hj (Nat.not_lt_zero _)⟩ ?_ ?_ ?_
            · rintro i ys led₁ ⟨ex, rfl, e, _⟩
              exact ⟨Nat.le_of_eq e, fun p hp => List.mem_append_right _ (by rw [List.mem_singleton.mp hp]; exact .head _)⟩
            · rintro C i v ys e3 D3 oL3 m₃ led₃ its₃ cells₃ h₁ tk₁ E' hi ⟨TT, tt, x, rfl, hx, hTT⟩ ⟨ex, rfl, hys, hin⟩ hits hc' hd' W
              obtain ⟨ok, rfl⟩ := one_cell (a := C + 1) hc'
              obtain ⟨vk, hdk⟩ := hd' _ (.head _)
              rw [List.singleton_append] at W
              have hi4 : i < 4 := by simpa using hi
              obtain ⟨tx, rfl⟩ : ∃ t, x = .int ((3 + i : Nat) : Int) t := by
                rcases i with _ | _ | _ | _ | i
                all_goals first | (simp at hx; exact ⟨_, hx.symm⟩) | omega
              refine rAsgT (hh _) W hTT ?_ rfl rfl
              intro h₉ W
              dsimp only [assignEach, List.map_cons, List.map_nil]
              refine aio_name (rCellSt (led' := fun o' => (C + 1, o') :: (D3, listOf ys e3) :: (s₁.heap.objs.size, oL3) :: (its₃ ++ (ex ++ _))) W rfl (.head _) hdk (fun o' => .head) ?_)
              intro h₁₀ ok' W hdk'
              walk_at "vv"
              walk_at "v_elt"
              walk_at "vv"
              refine rComp ?_ rfl rfl (by decide) (fun _ => rfl)
              walk_at "vv"
              refine rRange (by assumption) ?_
              intro rr h₆ ur vr tk₆ W
              refine comp_range_fix (r := rr) (n := 16) (fun u y => y = (fun u => Value.bool (decide (u / 2 ^ i % 2 = 1))) u) (hh _) W (.head _) (by decide) ?_ ?_
              · rintro C4 u v ys4 e4 D4 oL4 m₄ led₄ it₄ cells₄ h₇ tk₇ E₄ hu ⟨_, tu, rfl⟩ hJ4 hc4 hd4 W
                obtain rfl : cells₄ = [] := List.map_eq_nil_iff.mp hc4
                rw [List.nil_append] at W
                have e4' := hJ4.1
                subst e4'
                walk_at "v_asg"
                walk_at "vv"
                obtain ⟨P, hP, hP1, hP8, hPe⟩ := two_pow i hi4
                refine pow_int_small (by walk_at "v_b") (by walk_at "v_b") (by decide) ?_
                rw [hP]
                refine floordiv_int (by walk_at "v_b") ?_ (hp := .inl (PyProof.noPylong_small (by walk_at "v_b")))
                walk_at "vv"
                rename Fx _ _ _ _ _ => W
                refine CEnd.intro [] W rfl (fun _ hp => nomatch hp) (hJ4.push ?_)
                show _ = Value.bool _
                congr 1
                exact world_bit u i P hPe
              · intro Lw h₁₁ tk₁₁ ys4 e4 W hJ4
                walk_at "vv"
                rename_i tp h₁₆ W
                have he4 := hJ4.eq
                subst he4
                replace W := W.sub (led' := [(tp, _), (Lw, _)] ++ (([(C + 1, ok'), (D3, listOf ys e3), (s₁.heap.objs.size, oL3)] ++ its₃) ++ (ex ++ _))) (.cons_cons _ (.cons_cons _ (.cons _ (by rw [List.append_assoc]; exact List.Sublist.refl _))))
                replace W := W.perm (List.perm_append_comm_assoc ([(C + 1, ok'), (D3, listOf ys e3), (s₁.heap.objs.size, oL3)] ++ its₃) [(tp, _), (Lw, _)] (ex ++ _))
                refine CEnd.intro [(C + 1, ok')] (by simpa using W) rfl (fun p hp => by rw [List.mem_singleton.mp hp]; exact ⟨_, hdk'⟩) ⟨(tp, _) :: (Lw, _) :: ex, rfl, by simp [hys], fun j hj => ?_⟩
                by_cases ej : j = i
                · subst ej
                  exact ⟨tp, tx, Lw, e4, by rw [Array.getElem?_push, if_pos hys.symm], .head _, .tail _ (by unfold worldsOf; rw [List.map_map]; exact .head _)⟩
                · obtain ⟨a, t, l, n, q1, q2, q3⟩ := hin j (by walk_at "v_b")
                  exact ⟨a, t, l, n, by rw [Array.getElem?_push, if_neg (by rw [hys]; exact ej)]; exact q1, .tail _ (.tail _ q2), .tail _ (.tail _ q3)⟩
            · rintro LL h₁₄ tk₁₄ ys e5 led' W ⟨ex, rfl, hys, hin⟩
              walk_at "vv"
              obtain ⟨a0, u0', l0, n0, q0, r0, w0⟩ := hin 0 (by first | walk_at "v_mem" | simp)
              obtain ⟨a1', u1', l1, n1, q1, r1, w1⟩ := hin 1 (by first | walk_at "v_mem" | simp)
              obtain ⟨a2', u2', l2, n2, q2, r2, w2⟩ := hin 2 (by first | walk_at "v_mem" | simp)
              obtain ⟨a3', u3', l3, n3, q3, r3, w3⟩ := hin 3 (by first | walk_at "v_mem" | simp)
              obtain rfl : ys = [.ref a0, .ref a1', .ref a2', .ref a3'].toArray := by
                apply Array.ext_getElem?
                intro j
                match j with
                | 0 => rw [q0]; rfl
                | 1 => rw [q1]; rfl
                | 2 => rw [q2]; rfl
                | 3 => rw [q3]; rfl
                | j + 4 => rw [Array.getElem?_eq_none (by rw [hys]; simp), Array.getElem?_eq_none (by first | walk_at "v_mem" | simp)]
              refine rDictOfPairs (ps := [(((3 + 0 : Nat) : Int), .ref l0), (((3 + 1 : Nat) : Int), .ref l1), (((3 + 2 : Nat) : Int), .ref l2), (((3 + 3 : Nat) : Int), .ref l3)]) (hh _) W (.head _) ?_ rfl (by first | walk_at "v_mem" | simp) ?_
              · intro j p hp
                match j with
                | 0 => obtain rfl : _ = p := by simpa using hp
                       exact ⟨a0, u0', rfl, .tail _ (List.mem_append_left _ r0)⟩
                | 1 => obtain rfl : _ = p := by simpa using hp
                       exact ⟨a1', u1', rfl, .tail _ (List.mem_append_left _ r1)⟩
                | 2 => obtain rfl : _ = p := by simpa using hp
                       exact ⟨a2', u2', rfl, .tail _ (List.mem_append_left _ r2)⟩
                | 3 => obtain rfl : _ = p := by simpa using hp
                       exact ⟨a3', u3', rfl, .tail _ (List.mem_append_left _ r3)⟩
                | j + 4 => simp at hp
              intro RD h₁₅ oR tk₁₅ W hD
              have hR : RowsOk w B7 oR ex := rows_start hD w0 w1 w2 w3
              clear q0 q1 q2 q3 r0 r1 r2 r3 w0 w1 w2 w3 hD hin hys
              replace W := W.sub (led' := (RD, oR) :: (ex ++ _)) (.cons_cons _ (.cons _ (List.Sublist.refl _)))
              replace W := W.perm (List.perm_append_comm_assoc [(TH, _), (D, oT), (Cl, listOf vs'.toArray e), (s₁.heap.objs.size + 1 + 1 + 1, o1), (s₁.heap.objs.size + 1 + 1, c2), (s₁.heap.objs.size + 1, c3)] ((RD, oR) :: ex) (bankLed w.params 388 α σ'))
              dsimp only [List.cons_append, List.nil_append] at W
              walk_at "vv"
              have O4 : Ok prg w σ' B7 := by rw [← appB4]; exact O
              rename Fx _ _ _ _ _ => W
              refine true_c (pre := (TH, _) :: (D, oT) :: (Cl, listOf vs'.toArray e) :: (s₁.heap.objs.size + 1 + 1 + 1, o1) :: (s₁.heap.objs.size + 1 + 1, c2) :: (s₁.heap.objs.size + 1, c3) :: (RD, oR) :: ex) G ((r _).le (by walk_at "v_b")) W ?_
              intro h₁₇ tk₁₇ v1 W
              dsimp only [List.cons_append] at W
              walk_at "vv"
              refine false_c (pre := (TH, _) :: (D, oT) :: (Cl, listOf vs'.toArray e) :: (s₁.heap.objs.size + 1 + 1 + 1, o1) :: (s₁.heap.objs.size + 1 + 1, c2) :: (s₁.heap.objs.size + 1, c3) :: (RD, oR) :: ex) G ((r _).le (by walk_at "v_b")) W ?_
              intro h₁₈ tk₁₈ v2 W
              dsimp only [List.cons_append] at W
              walk_at "vv"
              rename_i TL h₁₉ W
              refine rAddL W (.tail _ (.head _)) (.head _) (by first | walk_at "v_mem" | simp) ?_
              intro PL h₂₀ W
              replace W := W.sub (led' := (PL, _) :: (D, oT) :: (Cl, listOf vs'.toArray e) :: (s₁.heap.objs.size + 1 + 1 + 1, o1) :: (s₁.heap.objs.size + 1 + 1, c2) :: (s₁.heap.objs.size + 1, c3) :: (RD, oR) :: (ex ++ bankLed w.params 388 α σ')) (.cons_cons _ (.cons _ (.cons _ (List.Sublist.refl _))))
              refine rCellSt (led' := fun o' => (PL, _) :: (D, oT) :: (Cl, listOf vs'.toArray e) :: (s₁.heap.objs.size + 1 + 1 + 1, o') :: (s₁.heap.objs.size + 1 + 1, c2) :: (s₁.heap.objs.size + 1, c3) :: (RD, oR) :: (ex ++ bankLed w.params 388 α σ')) W rfl (by walk_at "v_mem") d1 (fun o' => .tail (.tail (.tail .head))) ?_
              intro h₂₁ c1 W d1
              replace W := W.perm (List.perm_append_comm_assoc [(D, oT), (Cl, listOf vs'.toArray e)] [(PL, _)] ((s₁.heap.objs.size + 1 + 1 + 1, c1) :: (s₁.heap.objs.size + 1 + 1, c2) :: (s₁.heap.objs.size + 1, c3) :: (RD, oR) :: (ex ++ bankLed w.params 388 α σ')))
              dsimp only [List.cons_append, List.nil_append] at W
              refine wpAny_execs_cons ?_
              refine wpAny_For ?_
              walk_at "vv"
              refine beaker_c (n := e) (led' := fun oT' => (D, oT') :: (Cl, listOf vs'.toArray e) :: (PL, _) :: (s₁.heap.objs.size + 1 + 1 + 1, c1) :: (s₁.heap.objs.size + 1 + 1, c2) :: (s₁.heap.objs.size + 1, c3) :: (RD, oR) :: (ex ++ bankLed w.params 388 α σ')) G ((r _).le (by walk_at "v_b")) W hT (fun o' => .head) (.tail _ (.head _)) (fun o' => .tail _ (.head _)) hI' (by walk_at "v_b") (by walk_at "v_b") (by decide) ?_
              intro h₂₂ tk₂₂ oT1 nbi tnb hT1 hnb0 hnb6 W
              obtain ⟨nb, rfl⟩ : ∃ nb : Nat, nbi = (nb : Int) := ⟨nbi.toNat, by omega⟩
              walk_at "vv"
              have enb : (4 : Int) + (nb : Int) = ((4 + nb : Nat) : Int) := by omega
              rw [enb]
              refine rRange (by assumption) ?_
              intro rr h₂₃ ur vr tk₂₃ W
              obtain ⟨m0, hrows, W⟩ : ∃ m0, m0 (Str.ofString "rows") = some (Value.ref RD) ∧ Fx s₁.heap _ s₁.heap.objs.size m0 _ := ⟨_, rfl, W⟩
              refine for_range (n := 4 + nb) (hh _) W (.head _) (by walk_at "v_b") (JPool w α rr _ D Cl vs' e PL s₁.heap.objs.size c1 c2 c3 RD oR ex)
                ⟨oT1, σ', B7, [3, 4, 5, 6, 1, 2], _, 0, hrows, hT1, O4, b7_gd, Ext.refl _, by decide, Carry.nats (l := [3, 4, 5, 6, 1, 2]) (.cons _ u0 (.cons _ u1 (.cons _ u2 (.cons _ u3 (.cons _ v1 (.cons _ v2 .nil)))))), rfl, by unfold At; decide, rfl⟩ ?_ ?_
              · rintro i v m₁ led₁ ⟨hi, tv', rfl⟩ ⟨oT', σ'', B, pn, pv, np, hrows', hT', O', g', x', hl', hc, hpl, hat, rfl⟩ it h₁ tk₁ E' W
                walk_at "vv"
                walk_at "v_appm"
                walk_at "vv"
                rename Fx _ _ _ _ _ => W
                replace W := W.perm (List.perm_append_comm_assoc [(D, oT'), (Cl, listOf vs'.toArray e), (PL, listOf pv.toArray np)] [it, (rr, _)] ((s₁.heap.objs.size + 1 + 1 + 1, c1) :: (s₁.heap.objs.size + 1 + 1, c2) :: (s₁.heap.objs.size + 1, c3) :: (RD, oR) :: (ex ++ bankLed w.params 388 α σ'')))
                refine term_c (pre := it :: (rr, _) :: (s₁.heap.objs.size + 1 + 1 + 1, c1) :: (s₁.heap.objs.size + 1 + 1, c2) :: (s₁.heap.objs.size + 1, c3) :: (RD, oR) :: ex) G ((r _).le (by walk_at "v_b")) W hT' hI' (by walk_at "v_b") (by walk_at "v_b") hc hat (by walk_at "v_b") (by walk_at "v_b") O' g' (by walk_at "v_b") ?_
                intro h₂ tk₂ oT2 σ2 B2 t tt hT2 O2 g2 x2 hl2 at2 W
                walk_at "vv"
                refine rAppend W (.tail (.tail .head)) (by have := hc.1; simp; omega) ?_
                intro h₃ W
                rw [List.push_toArray] at W
                walk_at "vv"
                replace W := W.perm (List.perm_append_comm_assoc [it, (rr, _)] [(D, oT2), (Cl, listOf vs'.toArray e), (PL, listOf (pv ++ [Value.int (t : Nat) tt]).toArray (np + 1))] ((s₁.heap.objs.size + 1 + 1 + 1, c1) :: (s₁.heap.objs.size + 1 + 1, c2) :: (s₁.heap.objs.size + 1, c3) :: (RD, oR) :: (ex ++ bankLed w.params 388 α σ2)))
                refine LpEnd.intro (its := [it]) W ⟨oT2, σ2, B2, pn ++ [t], _, np + 1, hrows', by rw [show 1 + 4 * (i + 1) = 1 + 4 * i + 4 by omega]; exact hT2, O2, g2, x'.trans x2, by omega, hc.snoc, by simp [hpl]; omega, ?_, rfl⟩
                intro s hs
                rcases List.mem_append.mp hs with q | q
                · exact (hat s q).ext x2
                · rw [List.mem_singleton.mp q]; exact at2
              · rintro h₂₄ tk₂₄ m' led' W ⟨oT', σ'', B, pn, pv, np, hrows', hT', O', g', x', hl', hc, hpl, hat, rfl⟩
                replace W := W.sub (led' := (D, oT') :: (Cl, listOf vs'.toArray e) :: (PL, listOf pv.toArray np) :: (s₁.heap.objs.size + 1 + 1 + 1, c1) :: (s₁.heap.objs.size + 1 + 1, c2) :: (s₁.heap.objs.size + 1, c3) :: (RD, oR) :: (ex ++ bankLed w.params 388 α σ'')) (.cons _ (List.Sublist.refl _))
                walk_at "vv"
                refine rw_new_c (pre := (D, oT') :: (Cl, listOf vs'.toArray e) :: (PL, listOf pv.toArray np) :: (s₁.heap.objs.size + 1 + 1 + 1, c1) :: (s₁.heap.objs.size + 1 + 1, c2) :: (s₁.heap.objs.size + 1, c3) :: (RD, oR) :: ex) G ((r _).le (by walk_at "v_b")) W O' ?_
                intro h₂₅ tk₂₅ ρ W
                dsimp only [List.cons_append] at W
                walk_at "v"
                refine wpAny_execs_cons ?_
                refine wpAny_For ?_
                walk_at "vv"
                refine rRange (by assumption) ?_
                intro r2 h₂₆ ur2 vr2 tk₂₆ W
                obtain ⟨m1, hrows1, hrw1, W⟩ : ∃ m1, m1 (Str.ofString "rows") = some (Value.ref RD) ∧ m1 (Str.ofString "rewriter") = some (Value.ref ρ.self) ∧ Fx s₁.heap _ s₁.heap.objs.size m1 _ := ⟨_, hrows', rfl, W⟩
                have hlp := hc.1
                refine for_range (n := 7) (hh _) W (.head _) (by walk_at "v_b") (JSame w α ρ B (1 + 4 * (4 + nb)) r2 _ D Cl vs' e PL pv np s₁.heap.objs.size c1 c2 c3 RD)
                  ⟨oT', σ'', B, oR, ex, hrows1, hrw1, hT', O', g', Ext.refl _, Nat.le_refl _, hR.ext x' g'.wg (by decide), rfl⟩ ?_ ?_
                · rintro i v m₁ led₁ ⟨hi, tv', rfl⟩ ⟨oT2, σ2, B2, oR2, rls2, hrows2, hrw2, hT2, O2, g2, x2, hl2, hR2, rfl⟩ it h₁ tk₁ E' W
                  refine wpAny_execs_cons ?_
                  walk_at "v"
                  refine rComp ?_ rfl rfl (by decide) (fun _ => rfl)
                  walk_at "vv"
                  refine rRange (by assumption) ?_
                  intro r3 h₂ ur3 vr3 tk₂ W
                  refine comp_range (r := r3) (n := 3) (hh _) W (.head _) (by decide) (JPick w α ρ σ2 (1 + 4 * (4 + nb) + 3 * i) r3 _ it r2 _ D Cl vs' e PL pv np s₁.heap.objs.size c1 c2 c3 RD oR2 rls2 pn)
                    ⟨oT2, hT2, rfl, rfl, fun j hj => absurd hj (Nat.not_lt_zero _)⟩ (fun i ys led' ⟨_, _, _, e, _⟩ => Nat.le_of_eq e) ?_ ?_
                  · rintro C j v ys e3 D1 oL1 m₂ led₂ it₂ cells₂ h₃ tk₃ E'' hj ⟨_, tv, rfl⟩ ⟨oT3, hT3, rfl, hys, hin⟩ hc' hdc W
                    obtain rfl : cells₂ = [] := List.map_eq_nil_iff.mp hc'
                    rw [List.nil_append] at W
                    walk_at "v_asg"
                    walk_at "vv"
                    rename Fx _ _ _ _ _ => W
                    refine rLenL (vs := pv.toArray) (n := np) W (by first | walk_at "v_mem" | simp) (by simp; omega) ?_
                    intro t5 tk5
                    walk_at "vv"
                    rename Fx _ _ _ _ _ => W
                    refine rLenL (vs := pv.toArray) (n := np) W (by first | walk_at "v_mem" | simp) (by simp; omega) ?_
                    intro t6 tk6
                    walk_at "vv"
                    refine beaker_c (n := e) (led' := fun oT' => (D1, listOf ys e3) :: (s₁.heap.objs.size, oL1) :: it₂ :: (r3, _) :: it :: (r2, _) :: (ρ.self, instObj 513 ρ.d) :: (ρ.d, dictOf (rwEs w.params α ρ) ρ.n) :: (D, oT') :: (Cl, listOf vs'.toArray e) :: (PL, listOf pv.toArray np) :: (s₁.heap.objs.size + 1 + 1 + 1, c1) :: (s₁.heap.objs.size + 1 + 1, c2) :: (s₁.heap.objs.size + 1, c3) :: (RD, oR2) :: (rls2 ++ bankLed w.params 388 α σ2)) G ((r _).le (by walk_at "v_b")) W hT3 (fun o' => .tail (.tail (.tail (.tail (.tail (.tail (.tail (.tail .head)))))))) (by first | walk_at "v_mem" | simp) (fun o' => by first | walk_at "v_mem" | simp) hI' (by walk_at "v_b") (by walk_at "v_b") (by simp; omega) ?_
                    intro h₅ tk₆ oT4 v4 t4 hT4 hv0 hv1 W
                    walk_at "vv"
                    obtain ⟨i4, ei4, hi4⟩ : ∃ i4 : Nat, ((pv.toArray.size : Int) - 1 - v4) = (i4 : Int) ∧ i4 < pn.length := ⟨((pv.toArray.size : Int) - 1 - v4).toNat, by omega, by simp at hv1 ⊢; omega⟩
                    rw [ei4]
                    obtain ⟨tx, hx⟩ := hc.2 i4 _ _ (List.getElem?_eq_getElem hi4) (List.getElem?_eq_getElem (by rw [hc.1]; exact hi4))
                    refine rItemL (vs := pv.toArray) (n := np) (i := i4) (v := .int (pn[i4] : Nat) tx) W (by first | walk_at "v_mem" | simp) (by rw [List.getElem?_toArray, List.getElem?_eq_getElem (by rw [hc.1]; exact hi4), hx]) (by walk_at "v_b") ?_
                    refine CEnd.intro [] W rfl (fun _ hp => nomatch hp) ⟨oT4, hT4, rfl, by simp [hys], fun k hk => ?_⟩
                    by_cases ek : k = j
                    · subst ek; exact ⟨pn[i4], tx, by rw [Array.getElem?_push, if_pos hys.symm], List.getElem_mem hi4⟩
                    · obtain ⟨t, tt, h1, h2⟩ := hin k (by walk_at "v_b")
                      exact ⟨t, tt, by rw [Array.getElem?_push, if_neg (by rw [hys]; exact ek)]; exact h1, h2⟩
                  · rintro D1 h₄ tk₄ ys e3 led' W ⟨oT3, hT3, rfl, hys, hin⟩
                    walk_at "vv"
                    obtain ⟨a, xa, ea, hpa⟩ := hin 0 (by decide)
                    obtain ⟨b, xb, eb, hpb⟩ := hin 1 (by decide)
                    obtain ⟨c, xc, ec, hpc⟩ := hin 2 (by decide)
                    obtain rfl : ys = [.int (a : Int) xa, .int (b : Int) xb, .int (c : Int) xc].toArray := by
                      apply Array.ext_getElem?
                      intro j
                      match j with
                      | 0 => rw [ea]; rfl
                      | 1 => rw [eb]; rfl
                      | 2 => rw [ec]; rfl
                      | j + 3 => rw [Array.getElem?_eq_none (by rw [hys]; omega), Array.getElem?_eq_none (by first | walk_at "v_mem" | simp)]
                    have ga := (hat a hpa).ext x2
                    have gb := (hat b hpb).ext x2
                    have gc := (hat c hpc).ext x2
                    have h7 : 7 ≤ B2.length := Nat.le_trans x'.len x2.len
                    refine rAsgL (hh _) W (.head _) ?_ rfl rfl
                    intro h₅ W
                    dsimp only [assignEach, List.map_cons, List.map_nil]
                    walk_at "vv"
                    rename Fx _ _ _ _ _ => W
                    replace W := W.sub (led' := it :: (r2, _) :: (ρ.self, instObj 513 ρ.d) :: (ρ.d, dictOf (rwEs w.params α ρ) ρ.n) :: (D, oT3) :: (Cl, listOf vs'.toArray e) :: (PL, listOf pv.toArray np) :: (s₁.heap.objs.size + 1 + 1 + 1, c1) :: (s₁.heap.objs.size + 1 + 1, c2) :: (s₁.heap.objs.size + 1, c3) :: (RD, oR2) :: (rls2 ++ bankLed w.params 388 α σ2)) (.cons _ (.cons _ (List.Sublist.refl _)))
                    refine is_same_c (pre := it :: (r2, _) :: (ρ.self, instObj 513 ρ.d) :: (ρ.d, dictOf (rwEs w.params α ρ) ρ.n) :: (D, oT3) :: (Cl, listOf vs'.toArray e) :: (PL, listOf pv.toArray np) :: (s₁.heap.objs.size + 1 + 1 + 1, c1) :: (s₁.heap.objs.size + 1 + 1, c2) :: (s₁.heap.objs.size + 1, c3) :: []) (ρ := ρ) G ((r _).le (by walk_at "v_b")) W ⟨by simp, by simp⟩ O2 g2 ga gb gc h7 (by walk_at "v_b") hR2 ?_
                    intro h₆ tk₆ σ3 oR3 rls3 B3' O3 g3 x3 hl3 hR3 W
                    dsimp only [List.cons_append, List.nil_append] at W
                    walk_at "vv"
                    rw [if_neg (by decide)]
                    walk_at "vv"
                    exact LpEnd.intro (its := [it]) W ⟨oT3, σ3, B3', oR3, rls3, hrows2, hrw2, by rw [show 1 + 4 * (4 + nb) + 3 * (i + 1) = 1 + 4 * (4 + nb) + 3 * i + 3 by omega]; exact hT3, O3, g3, x2.trans x3, by omega, hR3, rfl⟩
                · rintro h₂₇ tk₂₇ m' led' W ⟨oT2, σ2, B2, oR2, rls2, hrows2, hrw2, hT2, O2, g2, x2, hl2, hR2, rfl⟩
                  walk_at "vv"
                  exact ⟨rfl, _, _, _, rfl, W.F⟩
end
end Mine
end

theorem PySem.Challenge.cw_rg0210_02_holds : PySem.Challenge.rw_rg0210_02.Holds := by
  exact Mine.lawT
