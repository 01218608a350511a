import PyProof.Rows.All
import Wide.All
import OpenK.AllK
import Wide.FinOn
import PySem.Challenge.RW_nn0318_01
open PySem PySem.W PyProof.Rows PySem.Calls
set_option Elab.async false
set_option compiler.extract_closed false
set_option genSizeOf false
set_option genInjectivity false
set_option maxRecDepth 100000
set_option maxHeartbeats 4000000
set_option linter.unusedVariables false
namespace NSim
/-- abstract values: what the law's text can tell of a value (no token, tuples as trees) -/
inductive V where
  | none
  | bool (b : Bool)
  | int (i : Int)
  | str (s : PySem.Str)
  | ref (a : Addr)
  | tup (vs : List V)
  | rng (n : Int)
  | glob (v : Value)


noncomputable abbrev tupObj (items : Array Value) (n : Nat) : Obj := { cls := .type "tuple", data := .seq items n }
noncomputable abbrev rngObj (vs : Array Value) : Obj := { cls := .type "range", data := .fields vs }
/-- objects that nothing turns -/
inductive Imm : Obj → Prop
  | tup (items : Array Value) (n : Nat) : Imm (tupObj items n)
  | rng (vs : Array Value) : Imm (rngObj vs)

mutual
noncomputable def VR (h : Heap) : V → Value → Prop
  | .none, x => x = .none
  | .bool b, x => x = .bool b
  | .int i, x => ∃ t, x = .int i t
  | .str s, x => ∃ t, x = .str s t
  | .ref a, x => x = .ref a
  | .glob v, x => x = v
  | .rng n, x => ∃ a t u v, x = .ref a ∧ h.get? a = some (rngObj #[.int 0 t, .int n u, .int 1 v])
  | .tup vs, x => ∃ a items n, x = .ref a ∧ h.get? a = some (tupObj items n) ∧ VRs h vs items.toList
noncomputable def VRs (h : Heap) : List V → List Value → Prop
  | [], [] => True
  | v :: vs, x :: xs => VR h v x ∧ VRs h vs xs
  | _, _ => False
end

noncomputable def OR (h : Heap) : Option V → Option Value → Prop
  | none, none => True
  | some v, some x => VR h v x
  | _, _ => False

/-- tuples stay -/
noncomputable def TK (h h' : Heap) : Prop := ∀ a o, Imm o → h.get? a = some o → h'.get? a = some o
theorem TK.of_keep {h h' : Heap} (x : ∀ b o, h.get? b = some o → h'.get? b = some o) : TK h h' := fun _ _ _ e => x _ _ e

mutual
theorem VR.mono {h h' : Heap} (k : TK h h') : ∀ {v : V} {x : Value}, VR h v x → VR h' v x
  | .none, _, e => by simpa only [VR] using e
  | .bool _, _, e => by simpa only [VR] using e
  | .int _, _, e => by simpa only [VR] using e
  | .str _, _, e => by simpa only [VR] using e
  | .ref _, _, e => by simpa only [VR] using e
  | .glob _, _, e => by simpa only [VR] using e
  | .tup vs, x, e => by
    simp only [VR] at e ⊢
    obtain ⟨a, items, n, e1, e2, e3⟩ := e
    exact ⟨a, items, n, e1, k _ _ (.tup _ _) e2, VRs.mono k e3⟩
  | .rng n, x, e => by
    simp only [VR] at e ⊢
    obtain ⟨a, t, u, v, e1, e2⟩ := e
    exact ⟨a, t, u, v, e1, k _ _ (.rng _) e2⟩
theorem VRs.mono {h h' : Heap} (k : TK h h') : ∀ {vs : List V} {xs : List Value}, VRs h vs xs → VRs h' vs xs
  | [], [], _ => by simp only [VRs]
  | v :: vs, x :: xs, e => by
    simp only [VRs] at e ⊢
    exact ⟨VR.mono k e.1, VRs.mono k e.2⟩
  | [], _ :: _, e => by simp only [VRs] at e
  | _ :: _, [], e => by simp only [VRs] at e
end
theorem OR.mono {h h' : Heap} (k : TK h h') {v : Option V} {x : Option Value} (e : OR h v x) : OR h' v x := by
  cases v <;> cases x <;> first | exact e | exact VR.mono k e

theorem VRs.length {h : Heap} : ∀ {vs : List V} {xs : List Value}, VRs h vs xs → vs.length = xs.length
  | [], [], _ => rfl
  | v :: vs, x :: xs, e => by
    simp only [VRs] at e
    simp only [List.length_cons, VRs.length e.2]
  | [], _ :: _, e => by simp only [VRs] at e
  | _ :: _, [], e => by simp only [VRs] at e
theorem VRs.get {h : Heap} : ∀ {vs : List V} {xs : List Value}, VRs h vs xs → ∀ {i : Nat} {v : V}, vs[i]? = some v → ∃ x, xs[i]? = some x ∧ VR h v x
  | [], [], _, i, v, e => by simp at e
  | v :: vs, x :: xs, r, 0, u, e => by
    simp only [VRs] at r
    simp only [List.getElem?_cons_zero, Option.some.injEq] at e
    subst e
    exact ⟨x, rfl, r.1⟩
  | v :: vs, x :: xs, r, i + 1, u, e => by
    simp only [VRs] at r
    simp only [List.getElem?_cons_succ] at e ⊢
    exact VRs.get r.2 e
  | [], _ :: _, r, _, _, _ => by simp only [VRs] at r
  | _ :: _, [], r, _, _, _ => by simp only [VRs] at r
theorem VRs.get' {h : Heap} {vs : List V} {xs : List Value} (r : VRs h vs xs) {i : Nat} {x : Value} (e : xs[i]? = some x) : ∃ v, vs[i]? = some v ∧ VR h v x := by
  have hl := r.length
  have hi : i < vs.length := by rw [hl]; exact (List.getElem?_eq_some_iff.mp e).1
  obtain ⟨y, hy, hr⟩ := r.get (List.getElem?_eq_getElem hi)
  rw [e] at hy
  cases hy
  exact ⟨_, List.getElem?_eq_getElem hi, hr⟩
theorem VRs.append {h : Heap} : ∀ {vs : List V} {xs : List Value}, VRs h vs xs → ∀ {us : List V} {ys : List Value}, VRs h us ys → VRs h (vs ++ us) (xs ++ ys)
  | [], [], _, _, _, e => e
  | v :: vs, x :: xs, r, us, ys, e => by
    simp only [VRs, List.cons_append] at r ⊢
    exact ⟨r.1, VRs.append r.2 e⟩
  | [], _ :: _, r, _, _, _ => by simp only [VRs] at r
  | _ :: _, [], r, _, _, _ => by simp only [VRs] at r
theorem VRs.one {h : Heap} {v : V} {x : Value} (r : VR h v x) : VRs h [v] [x] := by simp only [VRs]; exact ⟨r, trivial⟩
theorem VRs.nil {h : Heap} : VRs h [] [] := by simp only [VRs]
theorem VRs.cons {h : Heap} {v : V} {x : Value} {vs : List V} {xs : List Value} (r : VR h v x) (rs : VRs h vs xs) : VRs h (v :: vs) (x :: xs) := by simp only [VRs]; exact ⟨r, rs⟩
theorem VRs.inv {h : Heap} {v : V} {vs : List V} {ys : List Value} (r : VRs h (v :: vs) ys) : ∃ x xs, ys = x :: xs ∧ VR h v x ∧ VRs h vs xs := by
  cases ys with
  | nil => simp only [VRs] at r
  | cons x xs => simp only [VRs] at r; exact ⟨x, xs, rfl, r.1, r.2⟩
theorem VRs.inv_nil {h : Heap} {ys : List Value} (r : VRs h [] ys) : ys = [] := by
  cases ys with
  | nil => rfl
  | cons x xs => simp only [VRs] at r
theorem VRs.set {h : Heap} : ∀ {vs : List V} {xs : List Value}, VRs h vs xs → ∀ (i : Nat) {v : V} {x : Value}, VR h v x → VRs h (vs.set i v) (xs.set i x)
  | [], [], _, _, _, _, _ => by simp only [List.set_nil, VRs]
  | v :: vs, x :: xs, r, 0, u, y, e => by
    simp only [VRs, List.set_cons_zero] at r ⊢
    exact ⟨e, r.2⟩
  | v :: vs, x :: xs, r, i + 1, u, y, e => by
    simp only [VRs, List.set_cons_succ] at r ⊢
    exact ⟨r.1, VRs.set r.2 i e⟩
  | [], _ :: _, r, _, _, _, _ => by simp only [VRs] at r
  | _ :: _, [], r, _, _, _, _ => by simp only [VRs] at r
theorem VRs.take {h : Heap} : ∀ {vs : List V} {xs : List Value}, VRs h vs xs → ∀ (i : Nat), VRs h (vs.take i) (xs.take i)
  | [], [], _, i => by simp only [List.take_nil, VRs]
  | v :: vs, x :: xs, r, 0 => by simp only [List.take_zero, VRs]
  | v :: vs, x :: xs, r, i + 1 => by
    simp only [VRs, List.take_succ_cons] at r ⊢
    exact ⟨r.1, VRs.take r.2 i⟩
  | [], _ :: _, r, _ => by simp only [VRs] at r
  | _ :: _, [], r, _ => by simp only [VRs] at r
theorem VRs.drop {h : Heap} : ∀ {vs : List V} {xs : List Value}, VRs h vs xs → ∀ (i : Nat), VRs h (vs.drop i) (xs.drop i)
  | vs, xs, r, 0 => by simpa only [List.drop_zero] using r
  | [], [], _, i + 1 => by simp only [List.drop_nil, VRs]
  | v :: vs, x :: xs, r, i + 1 => by
    simp only [VRs, List.drop_succ_cons] at r ⊢
    exact VRs.drop r.2 i
  | [], _ :: _, r, _ + 1 => by simp only [VRs] at r
  | _ :: _, [], r, _ + 1 => by simp only [VRs] at r
theorem VRs.replicate {h : Heap} {v : V} {x : Value} (r : VR h v x) : ∀ n, VRs h (List.replicate n v) (List.replicate n x)
  | 0 => .nil
  | n + 1 => .cons r (VRs.replicate r n)

/-- the frame's locals: every local name of the def, with its value or none -/
noncomputable abbrev Loc := List (PySem.Str × Option V)
noncomputable def look (m : Loc) (y : PySem.Str) : Option V := (m.lookup y).join

inductive GetL (x : PySem.Str) (v : V) : Loc → Prop
  | head {r} : GetL x v ((x, some v) :: r)
  | tail {p r} : GetL x v r → GetL x v (p :: r)
inductive SetL (x : PySem.Str) (v : V) : Loc → Loc → Prop
  | head {u r} : SetL x v ((x, u) :: r) ((x, some v) :: r)
  | tail {p r r'} : SetL x v r r' → SetL x v (p :: r) (p :: r')

theorem GetL.mem {x : PySem.Str} {v : V} {m : Loc} (g : GetL x v m) : (x, some v) ∈ m := by
  induction g with
  | head => exact .head _
  | tail _ ih => exact .tail _ ih
theorem look_of_mem {x : PySem.Str} {v : Option V} : ∀ {m : Loc}, (m.map (·.1)).Nodup → (x, v) ∈ m → look m x = v
  | [], _, h => nomatch h
  | (y, u) :: r, nd, h => by
    rw [List.map_cons, List.nodup_cons] at nd
    unfold look
    rw [List.lookup_cons]
    rcases List.mem_cons.mp h with e | h2
    · obtain ⟨e1, e2⟩ := Prod.mk.inj e
      rw [e1, e2]
      simp
    · have : (x == y) = false := by
        rw [beq_eq_false_iff_ne]
        rintro rfl
        exact nd.1 (List.mem_map.mpr ⟨_, h2, rfl⟩)
      rw [this]
      exact look_of_mem nd.2 h2
theorem SetL.keys {x : PySem.Str} {v : V} {m m' : Loc} (g : SetL x v m m') : m'.map (·.1) = m.map (·.1) := by
  induction g with
  | head => rfl
  | tail _ ih => rw [List.map_cons, List.map_cons, ih]
theorem SetL.mem {x : PySem.Str} {v : V} {m m' : Loc} (g : SetL x v m m') : x ∈ m.map (·.1) := by
  induction g with
  | head => exact .head _
  | tail _ ih => exact .tail _ ih
theorem SetL.look {x : PySem.Str} {v : V} {m m' : Loc} (g : SetL x v m m') : (m.map (·.1)).Nodup → ∀ y, NSim.look m' y = if y = x then some v else NSim.look m y := by
  induction g with
  | @head u r =>
    intro _ y
    unfold NSim.look
    rw [List.lookup_cons, List.lookup_cons]
    by_cases e : y = x
    · subst e; simp
    · have : (y == x) = false := beq_eq_false_iff_ne.mpr e
      rw [this, if_neg e]
  | @tail p r r' h ih =>
    intro nd y
    obtain ⟨z, u⟩ := p
    rw [List.map_cons, List.nodup_cons] at nd
    have ih := ih nd.2 y
    unfold NSim.look at ih ⊢
    rw [List.lookup_cons, List.lookup_cons]
    by_cases e : y = z
    · subst e
      by_cases e' : y = x
      · subst e'
        exact absurd h.mem nd.1
      · simp [e']
    · have : (y == z) = false := beq_eq_false_iff_ne.mpr e
      rw [this]; exact ih

inductive As where
  | lst (a : Addr) (vs : List V)
  | dic (p : Program) (w : World) (a : Addr) (n : Nat) (f : Int → Option V)
  | ins (a d C : Addr) (fs : List (PySem.Str × V))
  | cel (c : Addr) (v : Option V)
  | sdc (p : Program) (w : World) (a : Addr) (f : PySem.Str → Option V)
  | hnd (H C : Addr) (ns : List Int)

noncomputable def As.addrs : As → List Addr
  | .lst a _ => [a]
  | .dic _ _ a _ _ => [a]
  | .ins a d _ _ => [a, d]
  | .cel c _ => [c]
  | .sdc _ _ a _ => [a]
  | .hnd H C _ => [H, C]

/-- the fields of a thing, in the order of its dict -/
inductive FsR (h : Heap) : List (PySem.Str × V) → List DictEntry → Prop
  | nil : FsR h [] []
  | cons {n : PySem.Str} {v : V} {t : Tok} {hs : Int} {x : Value} {fs es} : VR h v x → FsR h fs es → FsR h ((n, v) :: fs) (⟨hs, .str n t, x⟩ :: es)
theorem FsR.mono {h h' : Heap} (k : TK h h') {fs es} (r : FsR h fs es) : FsR h' fs es := by
  induction r with
  | nil => exact .nil
  | cons e _ ih => exact .cons (VR.mono k e) ih

noncomputable def As.ok (h : Heap) : As → Prop
  | .lst a vs => ∃ items n, IsL h a items n ∧ VRs h vs items.toList
  | .dic p w a n f => (a == sysModules) = false ∧ ∃ g, h.DictOf (intKind p w) a g ∧ g.length ≤ n ∧ ∀ k, OR h (f k) (valueAt g k)
  | .ins a d C fs => h.get? a = some (instObj C d) ∧ ∃ es n, h.get? d = some (dictOf es n) ∧ FsR h fs es
  | .cel c v => ∃ x, h.IsCell c x ∧ OR h v x
  | .sdc p w a f => (a == sysModules) = false ∧ ∃ g, h.DictOf (strKind p w) a g ∧ ∀ k, OR h (f k) (valueAt g k)
  | .hnd H C ns => (∃ i r s : Int, 0 ≤ i ∧ i ≤ ns.length ∧ ns.length ≤ 63 ∧ 0 ≤ r ∧ 0 ≤ s ∧ s < 2 ^ 31 ∧ ∃ items n, IsL h H items n ∧ VRs h [.ref C, .int i, .int r, .int s] items.toList) ∧ ∃ items n, IsL h C items n ∧ VRs h (ns.map .int) items.toList

/-- the assertion's own objects stand as they stood -/
theorem As.ok.mono {h h' : Heap} (k : TK h h') {x : As} (e : ∀ a ∈ x.addrs, ∀ o, h.get? a = some o → h'.get? a = some o) (y : x.ok h) : x.ok h' := by
  cases x with
  | lst a vs =>
    obtain ⟨items, n, hl, r⟩ := y
    exact ⟨items, n, e a (.head _) _ hl, r.mono k⟩
  | dic p w a n f =>
    obtain ⟨z, g, hg, hn, r⟩ := y
    exact ⟨z, g, hg.at fun o ho => e a (.head _) _ ho, hn, fun i => (r i).mono k⟩
  | ins a d C fs =>
    obtain ⟨h1, es, n, h2, r⟩ := y
    exact ⟨e a (.head _) _ h1, es, n, e d (.tail _ (.head _)) _ h2, r.mono k⟩
  | cel c v =>
    obtain ⟨x, ⟨o, ho, hd⟩, r⟩ := y
    exact ⟨x, ⟨o, e c (.head _) _ ho, hd⟩, r.mono k⟩
  | sdc p w a f =>
    obtain ⟨z, g, hg, r⟩ := y
    exact ⟨z, g, hg.at fun o ho => e a (.head _) _ ho, fun i => (r i).mono k⟩
  | hnd H C ns =>
    obtain ⟨⟨i, r, s, a1, a2, a3, a4, a5, a6, items, n, hl, hr⟩, items2, n2, hl2, hr2⟩ := y
    exact ⟨⟨i, r, s, a1, a2, a3, a4, a5, a6, items, n, e H (.head _) _ hl, hr.mono k⟩, items2, n2, e C (.tail _ (.head _)) _ hl2, hr2.mono k⟩

theorem As.ok.get {h : Heap} {x : As} (y : x.ok h) : ∀ a ∈ x.addrs, ∃ o, h.get? a = some o ∧ ¬ Imm o ∧ ∀ vs, o.data ≠ .fields vs := by
  intro b hb
  cases x with
  | lst a vs =>
    obtain ⟨items, n, hl, r⟩ := y
    rw [List.mem_singleton.mp hb]
    exact ⟨_, hl, (fun e => by generalize hz : ({ cls := .type "list", dict := none, data := .seq items n, slots := #[] } : Obj) = z at e; cases e <;> simp at hz), (fun _ e => by cases e)⟩
  | dic p w a n f =>
    obtain ⟨z, g, hg, hn, r⟩ := y
    rw [List.mem_singleton.mp hb]
    obtain ⟨o, es, ep, ho, hc, hd, _⟩ := id hg
    exact ⟨o, ho, (fun e => by cases e <;> cases hd), (fun _ e => by rw [e] at hd; cases hd)⟩
  | ins a d C fs =>
    obtain ⟨h1, es, n, h2, r⟩ := y
    rcases List.mem_cons.mp hb with rfl | hb
    · exact ⟨_, h1, (fun e => by generalize hz : instObj C d = z at e; cases e <;> simp at hz), (fun _ e => by cases e)⟩
    · rw [List.mem_singleton.mp hb]
      exact ⟨_, h2, (fun e => by generalize hz : dictOf es n = z at e; cases e <;> simp at hz), (fun _ e => by cases e)⟩
  | cel c v =>
    obtain ⟨x, ⟨o, ho, hd⟩, r⟩ := y
    rw [List.mem_singleton.mp hb]
    exact ⟨o, ho, (fun e => by cases e <;> cases hd), (fun _ e => by rw [e] at hd; cases hd)⟩
  | sdc p w a f =>
    obtain ⟨z, g, hg, r⟩ := y
    rw [List.mem_singleton.mp hb]
    obtain ⟨o, es, ep, ho, hc, hd, _⟩ := id hg
    exact ⟨o, ho, (fun e => by cases e <;> cases hd), (fun _ e => by rw [e] at hd; cases hd)⟩
  | hnd H C ns =>
    obtain ⟨⟨i, r, s, a1, a2, a3, a4, a5, a6, items, n, hl, hr⟩, items2, n2, hl2, hr2⟩ := y
    rcases List.mem_cons.mp hb with rfl | hb
    · exact ⟨_, hl, (fun e => by generalize hz : ({ cls := .type "list", dict := none, data := .seq items n, slots := #[] } : Obj) = z at e; cases e <;> simp at hz), (fun _ e => by cases e)⟩
    · rw [List.mem_singleton.mp hb]
      exact ⟨_, hl2, (fun e => by generalize hz : ({ cls := .type "list", dict := none, data := .seq items2 n2, slots := #[] } : Obj) = z at e; cases e <;> simp at hz), (fun _ e => by cases e)⟩

/-- what stands still while one def's frame runs -/
structure Cx where
  prog : Program
  w : World
  A : Around
  env : Env
  h₀ : Heap
  gl : List (PySem.Str × V)
  g : Array GenState
  d : Drawn
  os : OsState
noncomputable abbrev Cx.M (c : Cx) : Model := model c.prog c.w
noncomputable abbrev Cx.L (c : Cx) : Addr := c.env.locals

noncomputable def LocR (h : Heap) (m : Loc) (mv : PySem.Str → Option Value) : Prop := ∀ y, OR h (look m y) (mv y)
theorem LocR.mono {h h' : Heap} (k : TK h h') {m : Loc} {mv : PySem.Str → Option Value} (r : LocR h m mv) : LocR h' m mv := fun y => (r y).mono k

noncomputable abbrev addrsOf (led : List As) : List Addr := led.flatMap As.addrs
/-- the entry heap, what of it may be turned, and values in hand -/
structure Tmp where
  hE : Heap
  W : List Addr
  t : List (V × Value)
noncomputable abbrev Tmp.cons (T : Tmp) (v : V) (x : Value) : Tmp := ⟨T.hE, T.W, (v, x) :: T.t⟩
noncomputable def TmpR (h : Heap) (T : Tmp) : Prop := ∀ p ∈ T.t, VR h p.1 p.2
theorem TmpR.mono {h h' : Heap} (k : TK h h') {T : Tmp} (r : TmpR h T) : TmpR h' T := fun p hp => (r p hp).mono k

structure St (c : Cx) (m : Loc) (led : List As) (T : Tmp) (h : Heap) : Prop where
  ns : ∃ mv, h.Ns c.L mv ∧ LocR h m mv
  keys : (m.map (·.1)).Nodup
  kinds : ∀ x ∈ m.map (·.1), c.env.kindOf x = some .local
  base : ∀ b o, c.h₀.get? b = some o → h.get? b = some o
  low : c.h₀.objs.size ≤ c.L
  ext : ∀ b o, b ≠ c.L → b ∉ T.W → T.hE.get? b = some o → h.get? b = some o
  nd : (c.L :: addrsOf led).Nodup
  ok : ∀ x ∈ led, x.ok h
  own : ∀ a ∈ addrsOf led, c.h₀.get? a = none ∧ (T.hE.get? a = none ∨ a ∈ T.W)
  tmp : TmpR h T

theorem St.fr {c : Cx} {m : Loc} {led : List As} {T : Tmp} {h : Heap} (s : St c m led T h) : ∃ mv, Fr c.h₀ c.L h mv ∧ LocR h m mv :=
  let ⟨mv, a, b⟩ := s.ns; ⟨mv, ⟨a, s.base, s.low⟩, b⟩

/-- nothing that stands is turned -/
theorem St.keep {c : Cx} {m : Loc} {led : List As} {T : Tmp} {h h' : Heap} (s : St c m led T h) (k : ∀ b o, h.get? b = some o → h'.get? b = some o) : St c m led T h' :=
  have tk := TK.of_keep k
  ⟨let ⟨mv, a, b⟩ := s.ns; ⟨mv, a.keeps k, b.mono tk⟩, s.keys, s.kinds, fun b o e => k _ _ (s.base b o e), s.low, fun b o e1 e2 e3 => k _ _ (s.ext b o e1 e2 e3), s.nd,
    fun x hx => (s.ok x hx).mono tk fun _ _ _ e => k _ _ e, s.own, s.tmp.mono tk⟩
theorem St.withTmp {c : Cx} {m : Loc} {led : List As} {hE : Heap} {W : List Addr} {t t' : List (V × Value)} {h : Heap} (s : St c m led ⟨hE, W, t⟩ h) (r : TmpR h ⟨hE, W, t'⟩) : St c m led ⟨hE, W, t'⟩ h := ⟨s.ns, s.keys, s.kinds, s.base, s.low, s.ext, s.nd, s.ok, s.own, r⟩
theorem St.cons {c : Cx} {m : Loc} {led : List As} {T : Tmp} {h : Heap} {v : V} {x : Value} (s : St c m led T h) (r : VR h v x) : St c m led (T.cons v x) h :=
  s.withTmp (hE := T.hE) (W := T.W) fun p hp => by rcases List.mem_cons.mp hp with rfl | hp; exact r; exact s.tmp p hp
theorem St.tail {c : Cx} {m : Loc} {led : List As} {T : Tmp} {h : Heap} {v : V} {x : Value} (s : St c m led (T.cons v x) h) : St c m led T h := s.withTmp (hE := T.hE) (W := T.W) fun p hp => s.tmp p (.tail _ hp)
theorem St.head {c : Cx} {m : Loc} {led : List As} {T : Tmp} {h : Heap} {v : V} {x : Value} (s : St c m led (T.cons v x) h) : VR h v x := s.tmp (v, x) (.head _)

/-- a sub-ledger -/
theorem St.sub {c : Cx} {m : Loc} {led led' : List As} {T : Tmp} {h : Heap} (s : St c m led T h) (k : led'.Sublist led) : St c m led' T h :=
  have ka : (addrsOf led').Sublist (addrsOf led) := by
    clear s
    induction k with
    | slnil => exact .slnil
    | cons a _ ih => simp only [addrsOf, List.flatMap_cons]; exact ih.trans (List.sublist_append_right _ _)
    | cons_cons a _ ih => simp only [addrsOf, List.flatMap_cons]; exact List.Sublist.append_left ih _
  ⟨s.ns, s.keys, s.kinds, s.base, s.low, s.ext, s.nd.sublist (ka.cons_cons _), fun x hx => s.ok x (k.subset hx), fun a ha => s.own a (ka.subset ha), s.tmp⟩
theorem addrs_perm {led led' : List As} (k : led.Perm led') : (addrsOf led).Perm (addrsOf led') := List.Perm.flatMap_right _ k
theorem St.perm {c : Cx} {m : Loc} {led led' : List As} {T : Tmp} {h : Heap} (s : St c m led T h) (k : led.Perm led') : St c m led' T h :=
  have ka := addrs_perm k
  ⟨s.ns, s.keys, s.kinds, s.base, s.low, s.ext, (ka.cons _).nodup_iff.mp s.nd, fun x hx => s.ok x (k.mem_iff.mpr hx), fun a ha => s.own a (ka.mem_iff.mpr ha), s.tmp⟩

theorem St.lt {c : Cx} {m : Loc} {led : List As} {T : Tmp} {h : Heap} (s : St c m led T h) : ∀ a ∈ addrsOf led, a < h.objs.size := fun a ha => by
  obtain ⟨x, hx, hax⟩ := List.mem_flatMap.mp ha
  obtain ⟨o, ho, _⟩ := (s.ok x hx).get a hax
  exact Heap.lt_size ho
theorem St.Llt {c : Cx} {m : Loc} {led : List As} {T : Tmp} {h : Heap} (s : St c m led T h) : c.L < h.objs.size := let ⟨_, a, _⟩ := s.ns; a.lt

theorem get_none_of_ge {h : Heap} {a : Addr} (e : h.objs.size ≤ a) : h.get? a = none := by
  cases q : h.get? a with
  | none => rfl
  | some o => exact absurd (Heap.lt_size q) (Nat.not_lt.mpr e)
theorem St.fresh {c : Cx} {m : Loc} {led : List As} {T : Tmp} {h : Heap} (s : St c m led T h) {a : Addr} (e : h.get? a = none) (hl : a ≠ c.L) : c.h₀.get? a = none ∧ (T.hE.get? a = none ∨ a ∈ T.W) := by
  refine ⟨?_, ?_⟩
  · cases q : c.h₀.get? a with
    | none => rfl
    | some o => rw [s.base a o q] at e; cases e
  · by_cases hw : a ∈ T.W
    · exact .inr hw
    · left
      cases q : T.hE.get? a with
      | none => rfl
      | some o => rw [s.ext a o hl hw q] at e; cases e

/-- new objects onto the ledger -/
theorem St.new {c : Cx} {m : Loc} {led : List As} {T : Tmp} {h h' : Heap} {x : As} (s : St c m led T h) (k : ∀ b o, h.get? b = some o → h'.get? b = some o) (hx : x.ok h')
    (hn : ∀ a ∈ x.addrs, h.objs.size ≤ a) (nd : x.addrs.Nodup) : St c m (x :: led) T h' := by
  have s' := s.keep k
  have lt := s.lt
  have hL := s.Llt
  refine ⟨s'.ns, s'.keys, s'.kinds, s'.base, s'.low, s'.ext, ?_, fun y hy => ?_, fun a ha => ?_, s'.tmp⟩
  · have e : addrsOf (x :: led) = x.addrs ++ addrsOf led := by simp only [addrsOf, List.flatMap_cons]
    rw [e, List.nodup_cons]
    have old := s.nd
    rw [List.nodup_cons] at old
    refine ⟨fun q => ?_, List.nodup_append.mpr ⟨nd, old.2, fun a ha b hb q => ?_⟩⟩
    · rcases List.mem_append.mp q with q | q
      · exact absurd hL (Nat.not_lt.mpr (hn _ q))
      · exact old.1 q
    · subst q
      exact absurd (lt a hb) (Nat.not_lt.mpr (hn a ha))
  · rcases List.mem_cons.mp hy with rfl | hy
    · exact hx
    · exact s'.ok y hy
  · have e : addrsOf (x :: led) = x.addrs ++ addrsOf led := by simp only [addrsOf, List.flatMap_cons]
    rw [e] at ha
    rcases List.mem_append.mp ha with q | q
    · exact s.fresh (get_none_of_ge (hn a q)) (fun e => absurd hL (Nat.not_lt.mpr (e ▸ hn a q)))
    · exact s'.own a q

/-- x stands in the ledger; x' in its place -/
inductive UpdA (x x' : As) : List As → List As → Prop
  | head {r} : UpdA x x' (x :: r) (x' :: r)
  | tail {p r r'} : UpdA x x' r r' → UpdA x x' (p :: r) (p :: r')
inductive MemA (x : As) : List As → Prop
  | head {r} : MemA x (x :: r)
  | tail {p r} : MemA x r → MemA x (p :: r)
theorem MemA.mem {x : As} {l : List As} (g : MemA x l) : x ∈ l := by
  induction g with
  | head => exact .head _
  | tail _ ih => exact .tail _ ih
theorem UpdA.mem {x x' : As} {l l' : List As} (g : UpdA x x' l l') : x ∈ l := by
  induction g with
  | head => exact .head _
  | tail _ ih => exact .tail _ ih
theorem UpdA.split {x x' : As} {l l' : List As} (g : UpdA x x' l l') : ∃ a b, l = a ++ x :: b ∧ l' = a ++ x' :: b := by
  induction g with
  | @head r => exact ⟨[], r, rfl, rfl⟩
  | @tail p _ _ _ ih =>
    obtain ⟨a, b, e, e'⟩ := ih
    exact ⟨p :: a, b, by rw [e]; rfl, by rw [e']; rfl⟩
theorem UpdA.addrs {x x' : As} (ea : x'.addrs = x.addrs) {l l' : List As} (u : UpdA x x' l l') : addrsOf l' = addrsOf l := by
  obtain ⟨a, b, rfl, rfl⟩ := u.split
  simp only [addrsOf, List.flatMap_append, List.flatMap_cons, ea]

theorem tk_of_same {h h' : Heap} {a : Addr} {o : Obj} (hs : Heap.SameBut a h h') (ho : h.get? a = some o) (hn : ¬ Imm o) : TK h h' := fun b ob i e => by
  by_cases q : b = a
  · subst q; rw [ho] at e; cases e; exact absurd i hn
  · rw [hs.2 b q]; exact e

theorem St.upd {c : Cx} {m : Loc} {led led' : List As} {T : Tmp} {h h' : Heap} {x x' : As} {a : Addr} (s : St c m led T h) (u : UpdA x x' led led') (ea : x'.addrs = x.addrs) (ha : a ∈ x.addrs)
    (hs : Heap.SameBut a h h') (hx : TK h h' → x'.ok h') : St c m led' T h' := by
  obtain ⟨o, ho, hn, _⟩ := (s.ok x u.mem).get a ha
  have tk := tk_of_same hs ho hn
  have hal : a ∈ addrsOf led := List.mem_flatMap.mpr ⟨x, u.mem, ha⟩
  have nd := s.nd
  rw [List.nodup_cons] at nd
  have hLa : c.L ≠ a := fun e => nd.1 (e ▸ hal)
  have own := s.own a hal
  obtain ⟨mv, hns, hr⟩ := s.ns
  have ed := u.addrs ea
  refine ⟨⟨mv, hns.sameBut hs hLa, hr.mono tk⟩, s.keys, s.kinds, fun b ob e => ?_, s.low, fun b ob e1 e2 e3 => ?_, by rw [ed]; exact s.nd, fun y hy => ?_, by rw [ed]; exact s.own, s.tmp.mono tk⟩
  · rw [hs.2 b (fun q => by rw [q, own.1] at e; cases e)]; exact s.base b ob e
  · rw [hs.2 b (fun q => by
      subst q
      rcases own.2 with z | z
      · rw [z] at e3; cases e3
      · exact e2 z)]
    exact s.ext b ob e1 e2 e3
  · obtain ⟨l1, l2, e1, e2⟩ := u.split
    subst e1 e2
    have hoff : ∀ z, (z ∈ l1 ∨ z ∈ l2) → a ∉ z.addrs := by
      intro z hz haz
      have n2 := nd.2
      simp only [addrsOf, List.flatMap_append, List.flatMap_cons] at n2
      rw [List.nodup_append] at n2
      obtain ⟨n1, n3, n4⟩ := n2
      rw [List.nodup_append] at n3
      rcases hz with hz | hz
      · exact n4 a (List.mem_flatMap.mpr ⟨z, hz, haz⟩) a (List.mem_append_left _ ha) rfl
      · exact n3.2.2 a ha a (List.mem_flatMap.mpr ⟨z, hz, haz⟩) rfl
    have stay : ∀ z, (z ∈ l1 ∨ z ∈ l2) → z.ok h' := fun z hz => by
      refine (s.ok z (List.mem_append.mpr (hz.imp id (.tail _)))).mono tk fun b hb ob e => ?_
      rw [hs.2 b (fun q => hoff z hz (q ▸ hb))]; exact e
    rcases List.mem_append.mp hy with q | q
    · exact stay y (.inl q)
    · rcases List.mem_cons.mp q with rfl | q
      · exact hx tk
      · exact stay y (.inr q)

theorem ns_notTup {h : Heap} {a : Addr} {mv : PySem.Str → Option Value} (n : h.Ns a mv) : ∃ o, h.get? a = some o ∧ ¬ Imm o := by
  obtain ⟨o, es, ep, ho, hd, _⟩ := n
  exact ⟨o, ho, fun e => by cases e <;> cases hd⟩

/-- a local is stored -/
theorem St.loc {c : Cx} {m m' : Loc} {led : List As} {T : Tmp} {h h' : Heap} {x : PySem.Str} {v : V} {y : Value} {mv : PySem.Str → Option Value} (s : St c m led T h) (u : SetL x v m m') (hmv : h.Ns c.L mv) (hr : LocR h m mv)
    (hs : Heap.SameBut c.L h h') (hn : h'.Ns c.L (fun z => if z = x then some y else mv z)) (r : VR h v y) : St c m' led T h' := by
  obtain ⟨o, ho, hno⟩ := ns_notTup hmv
  have tk := tk_of_same hs ho hno
  have nd := s.nd
  rw [List.nodup_cons] at nd
  refine ⟨⟨_, hn, fun z => ?_⟩, by rw [u.keys]; exact s.keys, by rw [u.keys]; exact s.kinds, fun b ob e => ?_, s.low, fun b ob e1 e2 e3 => ?_, s.nd, fun z hz => ?_, s.own, s.tmp.mono tk⟩
  · rw [u.look s.keys z]
    by_cases e : z = x
    · rw [if_pos e, if_pos e]; exact r.mono tk
    · rw [if_neg e, if_neg e]; exact (hr z).mono tk
  · rw [hs.2 b (Nat.ne_of_lt (Nat.lt_of_lt_of_le (Heap.lt_size e) s.low))]; exact s.base b ob e
  · rw [hs.2 b e1]; exact s.ext b ob e1 e2 e3
  · refine (s.ok z hz).mono tk fun b hb ob e => ?_
    rw [hs.2 b (fun q => nd.1 (List.mem_flatMap.mpr ⟨z, hz, q ▸ hb⟩))]; exact e

/-- from here on: another entry heap, and what of it may be turned -/
theorem St.rebase {c : Cx} {m : Loc} {led : List As} {T : Tmp} {h : Heap} (s : St c m led T h) (W : List Addr) (hW : ∀ a ∈ addrsOf led, a ∈ W) : St c m led ⟨h, W, T.t⟩ h :=
  ⟨s.ns, s.keys, s.kinds, s.base, s.low, fun _ _ _ _ e => e, s.nd, s.ok, fun a ha => ⟨(s.own a ha).1, .inr (hW a ha)⟩, s.tmp⟩
/-- and back -/
theorem St.back {c : Cx} {m m' : Loc} {led led' : List As} {T : Tmp} {h h' : Heap} (s : St c m led T h) (s' : St c m' led' ⟨h, addrsOf led, T.t⟩ h') : St c m' led' T h' := by
  have nd := s.nd
  rw [List.nodup_cons] at nd
  refine ⟨s'.ns, s'.keys, s'.kinds, s'.base, s'.low, fun b o e1 e2 e3 => s'.ext b o e1 (fun hb => ?_) (s.ext b o e1 e2 e3), s'.nd, s'.ok, fun a ha => ⟨(s'.own a ha).1, ?_⟩, s'.tmp⟩
  · rcases (s.own b hb).2 with z | z
    · rw [z] at e3; cases e3
    · exact e2 z
  · rcases (s'.own a ha).2 with z | z
    · have nd' := s'.nd
      rw [List.nodup_cons] at nd'
      exact (s.fresh z (fun e => nd'.1 (e ▸ ha))).2
    · exact (s.own a z).2

noncomputable abbrev Post {α β : Type} (R : Heap → β → α → Prop) (c : Cx) (T : Tmp) (K : β → Loc → List As → Prop) (a : α) (s' : Shared) : Prop :=
  ∃ b h' tk' m' led', s' = ⟨h', c.g, c.d, tk', c.os⟩ ∧ St c m' led' T h' ∧ R h' b a ∧ K b m' led'
theorem Post.go {α β : Type} {R : Heap → β → α → Prop} {c : Cx} {T : Tmp} {K : β → Loc → List As → Prop} {a : α} {s' : Shared} {Q : Prop} (z : Post R c T K a s')
    (k : ∀ b h' tk' m' led', s' = ⟨h', c.g, c.d, tk', c.os⟩ → St c m' led' T h' → R h' b a → K b m' led' → Q) : Q := by
  obtain ⟨b, h', tk', m', led', e, s, r, z⟩ := z
  exact k b h' tk' m' led' e s r z
/-- the symbolic judgement: from every heap that answers to (m, led), t comes to an end, with b for its value and K of what stands then -/
noncomputable def SP {α β : Type} (R : Heap → β → α → Prop) (c : Cx) (m : Loc) (led : List As) (t : Sem α) (K : β → Loc → List As → Prop) : Prop :=
  ∀ T h tk, St c m led T h → wpAny c.M c.A t (Post R c T K) (fun _ _ => False) ⟨h, c.g, c.d, tk, c.os⟩
theorem VR.i {h : Heap} {i : Int} {t : Tok} : VR h (.int i) (.int i t) := by simp only [VR]; exact ⟨t, rfl⟩
theorem VR.s {h : Heap} {x : PySem.Str} {t : Tok} : VR h (.str x) (.str x t) := by simp only [VR]; exact ⟨t, rfl⟩
theorem VR.b {h : Heap} {b : Bool} : VR h (.bool b) (.bool b) := by simp only [VR]
theorem VR.n {h : Heap} : VR h .none .none := by simp only [VR]
theorem VR.r {h : Heap} {a : Addr} : VR h (.ref a) (.ref a) := by simp only [VR]
theorem VR.g {h : Heap} {v : Value} : VR h (.glob v) v := by simp only [VR]
theorem VR.ti {h : Heap} {vs : List V} {a : Addr} {items : Array Value} {n : Nat} (e : h.get? a = some (tupObj items n)) (r : VRs h vs items.toList) : VR h (.tup vs) (.ref a) := by simp only [VR]; exact ⟨a, items, n, rfl, e, r⟩
theorem VR.io {h : Heap} {i : Int} {x : Value} (r : VR h (.int i) x) : ∃ t, x = .int i t := by simpa only [VR] using r
theorem VR.so {h : Heap} {y : PySem.Str} {x : Value} (r : VR h (.str y) x) : ∃ t, x = .str y t := by simpa only [VR] using r
theorem VR.bo {h : Heap} {b : Bool} {x : Value} (r : VR h (.bool b) x) : x = .bool b := by simpa only [VR] using r
theorem VR.no {h : Heap} {x : Value} (r : VR h .none x) : x = .none := by simpa only [VR] using r
theorem VR.ro {h : Heap} {a : Addr} {x : Value} (r : VR h (.ref a) x) : x = .ref a := by simpa only [VR] using r
theorem VR.go {h : Heap} {v x : Value} (r : VR h (.glob v) x) : x = v := by simpa only [VR] using r
theorem VR.rn {h : Heap} {n : Int} {a : Addr} {t u v : Tok} (e : h.get? a = some (rngObj #[.int 0 t, .int n u, .int 1 v])) : VR h (.rng n) (.ref a) := by simp only [VR]; exact ⟨a, t, u, v, rfl, e⟩
theorem VR.rno {h : Heap} {n : Int} {x : Value} (r : VR h (.rng n) x) : ∃ a t u v, x = .ref a ∧ h.get? a = some (rngObj #[.int 0 t, .int n u, .int 1 v]) := by simpa only [VR] using r
theorem VR.to {h : Heap} {vs : List V} {x : Value} (r : VR h (.tup vs) x) : ∃ a items n, x = .ref a ∧ h.get? a = some (tupObj items n) ∧ VRs h vs items.toList := by simpa only [VR] using r

inductive F where
  | next
  | brk
  | cont
  | ret (v : V)
noncomputable def FR (h : Heap) : F → Flow → Prop
  | .next, f => f = .next
  | .brk, f => f = .brk
  | .cont, f => f = .cont
  | .ret v, f => ∃ x, f = .ret x ∧ VR h v x
noncomputable def BR (_ : Heap) (b b' : Bool) : Prop := b' = b
noncomputable def UR (_ : Heap) (_ _ : Unit) : Prop := True

noncomputable abbrev NoE : Value → Shared → Prop := fun _ _ => False

section
variable {α β γ δ : Type} {R : Heap → β → α → Prop} {R' : Heap → δ → γ → Prop} {c : Cx} {m m' : Loc} {led led' : List As}

theorem SP.mono {t : Sem α} {K K' : β → Loc → List As → Prop} (h : SP R c m led t K) (k : ∀ b m' led', K b m' led' → K' b m' led') : SP R c m led t K' := fun T hp tk s =>
  wpAny_mono (h T hp tk s) (fun _ _ zz => Post.go zz fun b h' tk' m' led' e s' r z => ⟨b, h', tk', m', led', e, s', r, k _ _ _ z⟩) fun _ _ x => x

/-- an operation upon one value, two, three -/
noncomputable def P1 (R : Heap → β → α → Prop) (c : Cx) (m : Loc) (led : List As) (f : Value → Sem α) (v : V) (K : β → Loc → List As → Prop) : Prop :=
  ∀ x T h tk, St c m led T h → VR h v x → wpAny c.M c.A (f x) (Post R c T K) NoE ⟨h, c.g, c.d, tk, c.os⟩
noncomputable def P2 (R : Heap → β → α → Prop) (c : Cx) (m : Loc) (led : List As) (f : Value → Value → Sem α) (v u : V) (K : β → Loc → List As → Prop) : Prop :=
  ∀ x y T h tk, St c m led T h → VR h v x → VR h u y → wpAny c.M c.A (f x y) (Post R c T K) NoE ⟨h, c.g, c.d, tk, c.os⟩
noncomputable def P3 (R : Heap → β → α → Prop) (c : Cx) (m : Loc) (led : List As) (f : Value → Value → Value → Sem α) (v u w : V) (K : β → Loc → List As → Prop) : Prop :=
  ∀ x y z T h tk, St c m led T h → VR h v x → VR h u y → VR h w z → wpAny c.M c.A (f x y z) (Post R c T K) NoE ⟨h, c.g, c.d, tk, c.os⟩

theorem post_here {T : Tmp} {K : β → Loc → List As → Prop} {a : α} {b : β} {h : Heap} {tk : Nat} (s : St c m led T h) (r : R h b a) (k : K b m led) : Post R c T K a ⟨h, c.g, c.d, tk, c.os⟩ :=
  ⟨b, h, tk, m, led, rfl, s, r, k⟩
end

section
variable {c : Cx} {m m' : Loc} {led led' : List As} {K : V → Loc → List As → Prop}

noncomputable abbrev SE (c : Cx) (m : Loc) (led : List As) (e : Expr) (K : V → Loc → List As → Prop) : Prop := SP VR c m led (eval e c.env) K
noncomputable abbrev SB (c : Cx) (m : Loc) (led : List As) (e : Expr) (K : Bool → Loc → List As → Prop) : Prop := SP BR c m led (isTrue e c.env (eval e c.env)) K
noncomputable abbrev SS (c : Cx) (m : Loc) (led : List As) (s : Stmt) (K : F → Loc → List As → Prop) : Prop := SP FR c m led (exec s c.env) K
noncomputable abbrev SX (c : Cx) (m : Loc) (led : List As) (s : List Stmt) (K : F → Loc → List As → Prop) : Prop := SP FR c m led (execs s c.env) K


/-- what is done with a value: named, so that no binder stands over the rest of the walk -/
noncomputable abbrev KO2 (c : Cx) (f : Value → Value → Sem Value) (K : V → Loc → List As → Prop) (v1 v2 : V) (m : Loc) (led : List As) : Prop := P2 VR c m led f v1 v2 K
noncomputable abbrev KO1 (c : Cx) (r : Expr) (f : Value → Value → Sem Value) (K : V → Loc → List As → Prop) (v1 : V) (m : Loc) (led : List As) : Prop := SE c m led r (KO2 c f K v1)
noncomputable abbrev KT (c : Cx) (K : Bool → Loc → List As → Prop) (v : V) (m : Loc) (led : List As) : Prop := P1 BR c m led truthy v K
noncomputable abbrev KN (K : Bool → Loc → List As → Prop) (b : Bool) (m : Loc) (led : List As) : Prop := K (!b) m led
noncomputable abbrev KA (c : Cx) (rest : List Expr) (pos : Pos) (K : Bool → Loc → List As → Prop) (b : Bool) (m : Loc) (led : List As) : Prop := if b = true then SB c m led (.BoolOp .And rest pos) K else K false m led
noncomputable abbrev KR (c : Cx) (rest : List Expr) (pos : Pos) (K : Bool → Loc → List As → Prop) (b : Bool) (m : Loc) (led : List As) : Prop := if b = true then K true m led else SB c m led (.BoolOp .Or rest pos) K
noncomputable abbrev KIE (c : Cx) (b o : Expr) (K : V → Loc → List As → Prop) (q : Bool) (m : Loc) (led : List As) : Prop := if q = true then SE c m led b K else SE c m led o K

/-- constants -/
theorem e_int {i : Int} {k : Nat} {pos : Pos} (h : K (.int i) m led) : SE c m led (.Constant (.int i) k pos) K := fun T hp tk s =>
  wpAny_Constant_int (post_here s VR.i h)
theorem e_str {x : PySem.Str} {k : Nat} {pos : Pos} (h : K (.str x) m led) : SE c m led (.Constant (.str x) k pos) K := fun T hp tk s =>
  Constant_str (post_here s VR.s h)
theorem e_bool {b : Bool} {k : Nat} {pos : Pos} (h : K (.bool b) m led) : SE c m led (.Constant (.bool b) k pos) K := fun T hp tk s =>
  wpAny_pure (post_here s VR.b h)

/-- names -/
theorem e_loc {x : PySem.Str} {pos : Pos} {v : V} (g : GetL x v m) (h : K v m led) (hk : c.env.scope.kind = .function) (hd : (x == ("__debug__" : PySem.Str)) = false := by decide) : SE c m led (.Name x pos) K := fun T hp tk s => by
  obtain ⟨mv, hn, hr⟩ := s.ns
  have e := hr x
  rw [look_of_mem s.keys g.mem] at e
  cases hx : mv x with
  | none => rw [hx] at e; exact e.elim
  | some y =>
    rw [hx] at e
    exact wpAny_Name (wpAny_loadName_local hk (s.kinds x (List.mem_map.mpr ⟨_, g.mem, rfl⟩)) hn hx (post_here s e h)) hd

theorem e_binop {l r : Expr} {op : Operator} {pos : Pos}
    (h : SE c m led l (KO1 c r (binaryOp op) K)) : SE c m led (.BinOp l op r pos) K := fun T hp tk s =>
  wpAny_BinOp (wpAny_mono (h T hp tk s) (fun a s1 zz => Post.go zz fun v1 h1 tk1 m1 led1 e s1' r1 k1 => by
    subst e
    refine wpAny_mono (k1 (T.cons v1 a) h1 tk1 (s1'.cons r1)) (fun b s2 zz => Post.go zz fun v2 h2 tk2 m2 led2 e s2' r2 k2 => ?_) fun _ _ x => x
    subst e
    exact k2 a b T h2 tk2 s2'.tail s2'.head r2) fun _ _ x => x)

theorem e_cmp {l r : Expr} {op : CmpOp} {pos : Pos} (hm : behindInMarks op r = false)
    (h : SE c m led l (KO1 c r (compareOp op) K)) : SE c m led (.Compare l [op] [r] pos) K := fun T hp tk s =>
  wpAny_Compare1 (wpAny_mono (h T hp tk s) (fun a s1 zz => Post.go zz fun v1 h1 tk1 m1 led1 e s1' r1 k1 => by
    subst e
    refine wpAny_mono (k1 (T.cons v1 a) h1 tk1 (s1'.cons r1)) (fun b s2 zz => Post.go zz fun v2 h2 tk2 m2 led2 e s2' r2 k2 => ?_) fun _ _ x => x
    subst e
    exact k2 a b T h2 tk2 s2'.tail s2'.head r2) fun _ _ x => x) hm

theorem b_cmp {l r : Expr} {op : CmpOp} {pos : Pos} {K : Bool → Loc → List As → Prop} (hm : behindInMarks op r = false)
    (h : SE c m led l (KO1 c r (compareOp op) (KT c K))) : SB c m led (.Compare l [op] [r] pos) K := fun T hp tk s =>
  wpAny_isTrue_Compare1 (wpAny_mono (h T hp tk s) (fun a s1 zz => Post.go zz fun v1 h1 tk1 m1 led1 e s1' r1 k1 => by
    subst e
    refine wpAny_mono (k1 (T.cons v1 a) h1 tk1 (s1'.cons r1)) (fun b s2 zz => Post.go zz fun v2 h2 tk2 m2 led2 e s2' r2 k2 => ?_) fun _ _ x => x
    subst e
    refine wpAny_mono (k2 a b T h2 tk2 s2'.tail s2'.head r2) (fun d s3 zz => Post.go zz fun v3 h3 tk3 m3 led3 e s3' r3 k3 => ?_) fun _ _ x => x
    subst e
    exact k3 d T h3 tk3 s3' r3) fun _ _ x => x) hm

theorem b_plain {e : Expr} {K : Bool → Loc → List As → Prop} (he : ∀ whole, isTrue e c.env whole = (do let v ← whole; standAt e.pos; holding [v] (truthy v)))
    (h : SE c m led e (KT c K)) : SB c m led e K := fun T hp tk s =>
  isTrue_plain (wpAny_mono (h T hp tk s) (fun a s1 zz => Post.go zz fun v1 h1 tk1 m1 led1 e s1' r1 k1 => by subst e; exact k1 a T h1 tk1 s1' r1) fun _ _ x => x) (he _)

theorem b_not {e : Expr} {pos : Pos} {K : Bool → Loc → List As → Prop} (h : SB c m led e (KN K)) : SB c m led (.UnaryOp .Not e pos) K := fun T hp tk s =>
  isTrue_not (wpAny_mono (h T hp tk s) (fun a s1 zz => Post.go zz fun v1 h1 tk1 m1 led1 e s1' r1 k1 => by have e1 : a = v1 := r1; subst e1; exact ⟨_, h1, tk1, m1, led1, e, s1', rfl, k1⟩) fun _ _ x => x)
theorem b_and_nil {pos : Pos} {K : Bool → Loc → List As → Prop} (h : K true m led) : SB c m led (.BoolOp .And [] pos) K := fun T hp tk s => isTrue_and_nil (post_here s rfl h)
theorem b_or_nil {pos : Pos} {K : Bool → Loc → List As → Prop} (h : K false m led) : SB c m led (.BoolOp .Or [] pos) K := fun T hp tk s => isTrue_or_nil (post_here s rfl h)
theorem b_and {e : Expr} {rest : List Expr} {pos : Pos} {K : Bool → Loc → List As → Prop}
    (h : SB c m led e (KA c rest pos K)) : SB c m led (.BoolOp .And (e :: rest) pos) K := fun T hp tk s =>
  isTrue_and (wpAny_mono (h T hp tk s) (fun a s1 zz => Post.go zz fun v1 h1 tk1 m1 led1 e s1' r1 k1 => by
    have e1 : a = v1 := r1
    subst e e1
    cases a
    · exact post_here s1' rfl k1
    · exact k1 T h1 tk1 s1') fun _ _ x => x)
theorem b_or {e : Expr} {rest : List Expr} {pos : Pos} {K : Bool → Loc → List As → Prop}
    (h : SB c m led e (KR c rest pos K)) : SB c m led (.BoolOp .Or (e :: rest) pos) K := fun T hp tk s =>
  isTrue_or (wpAny_mono (h T hp tk s) (fun a s1 zz => Post.go zz fun v1 h1 tk1 m1 led1 e s1' r1 k1 => by
    have e1 : a = v1 := r1
    subst e e1
    cases a
    · exact k1 T h1 tk1 s1'
    · exact post_here s1' rfl k1) fun _ _ x => x)
theorem e_ifexp {t b o : Expr} {pos : Pos} (h : SB c m led t (KIE c b o K)) : SE c m led (.IfExp t b o pos) K := fun T hp tk s =>
  IfExp_ (wpAny_mono (h T hp tk s) (fun a s1 zz => Post.go zz fun v1 h1 tk1 m1 led1 e s1' r1 k1 => by
    have e1 : a = v1 := r1
    subst e e1
    cases a <;> exact k1 T h1 tk1 s1') fun _ _ x => x)

theorem e_sub {value slice : Expr} {pos : Pos}
    (h : SE c m led value (KO1 c slice (subscriptTail value slice) K)) : SE c m led (.Subscript value slice pos) K := fun T hp tk s =>
  Subscript_ (wpAny_mono (h T hp tk s) (fun a s1 zz => Post.go zz fun v1 h1 tk1 m1 led1 e s1' r1 k1 => by
    subst e
    refine wpAny_mono (k1 (T.cons v1 a) h1 tk1 (s1'.cons r1)) (fun b s2 zz => Post.go zz fun v2 h2 tk2 m2 led2 e s2' r2 k2 => ?_) fun _ _ x => x
    subst e
    exact k2 a b T h2 tk2 s2'.tail s2'.head r2) fun _ _ x => x)

/-- ints -/
theorem p_add {a b : Int} (h : K (.int (a + b)) m led) : P2 VR c m led (binaryOp .Add) (.int a) (.int b) K := fun x y T hp tk s r1 r2 => by
  obtain ⟨t, rfl⟩ := r1.io; obtain ⟨u, rfl⟩ := r2.io; exact P.add_int (post_here s VR.i h)
theorem p_sub {a b : Int} (h : K (.int (a - b)) m led) : P2 VR c m led (binaryOp .Sub) (.int a) (.int b) K := fun x y T hp tk s r1 r2 => by
  obtain ⟨t, rfl⟩ := r1.io; obtain ⟨u, rfl⟩ := r2.io; exact P.sub_int (post_here s VR.i h)
theorem p_mul {a b : Int} (hm : IntMulOk a b) (h : K (.int (a * b)) m led) : P2 VR c m led (binaryOp .Mult) (.int a) (.int b) K := fun x y T hp tk s r1 r2 => by
  obtain ⟨t, rfl⟩ := r1.io; obtain ⟨u, rfl⟩ := r2.io; exact P.mul_int (post_here s VR.i h) hm
theorem p_eq {a b : Int} (h : K (.bool (decide (a = b))) m led) : P2 VR c m led (compareOp .Eq) (.int a) (.int b) K := fun x y T hp tk s r1 r2 => by
  obtain ⟨t, rfl⟩ := r1.io; obtain ⟨u, rfl⟩ := r2.io; exact P.eq_int (post_here s VR.b (by rw [show (a == b) = decide (a = b) from rfl]; exact h))
theorem p_ne {a b : Int} (h : K (.bool (decide (a ≠ b))) m led) : P2 VR c m led (compareOp .NotEq) (.int a) (.int b) K := fun x y T hp tk s r1 r2 => by
  obtain ⟨t, rfl⟩ := r1.io; obtain ⟨u, rfl⟩ := r2.io; exact P.ne_int (post_here s VR.b (by rw [show (a != b) = decide (a ≠ b) by by_cases h : a = b <;> simp [h]]; exact h))
theorem p_lt {a b : Int} (h : K (.bool (decide (a < b))) m led) : P2 VR c m led (compareOp .Lt) (.int a) (.int b) K := fun x y T hp tk s r1 r2 => by
  obtain ⟨t, rfl⟩ := r1.io; obtain ⟨u, rfl⟩ := r2.io; exact P.lt_int (post_here s VR.b h)
theorem p_ge {a b : Int} (h : K (.bool (decide (a ≥ b))) m led) : P2 VR c m led (compareOp .GtE) (.int a) (.int b) K := fun x y T hp tk s r1 r2 => by
  obtain ⟨t, rfl⟩ := r1.io; obtain ⟨u, rfl⟩ := r2.io; exact P.ge_int (post_here s VR.b h)
theorem p_mod {a b : Int} (hh : c.A.handled = none) (hb : b ≠ 0) (h : K (.int (a.fmod b)) m led) : P2 VR c m led (binaryOp .Mod) (.int a) (.int b) K := fun x y T hp tk s r1 r2 => by
  obtain ⟨t, rfl⟩ := r1.io; obtain ⟨u, rfl⟩ := r2.io; exact mod_int_or hh (fun z => absurd z hb) fun _ => post_here s VR.i h
theorem noPylong {a b : Int} (hb : b.natAbs < 2 ^ 30) : Builtin.divisionGoesByPylong a b = false := PyProof.noPylong_small (by (first | lia | omega))
theorem p_div {a b : Int} (hb : b ≠ 0) (hs : b.natAbs < 2 ^ 30) (h : K (.int (a.fdiv b)) m led) : P2 VR c m led (binaryOp .FloorDiv) (.int a) (.int b) K := fun x y T hp tk s r1 r2 => by
  obtain ⟨t, rfl⟩ := r1.io; obtain ⟨u, rfl⟩ := r2.io; exact floordiv_int hb (post_here s VR.i h) (.inl (noPylong hs))
theorem p_shl {a b : Int} (h0 : 0 ≤ b) (h1 : b ≤ 1000000) (ha : a.natAbs < 2 ^ 64) (h : K (.int (a * 2 ^ b.toNat)) m led) : P2 VR c m led (binaryOp .LShift) (.int a) (.int b) K := fun x y T hp tk s r1 r2 => by
  obtain ⟨t, rfl⟩ := r1.io; obtain ⟨u, rfl⟩ := r2.io; exact lshift_int_small h0 h1 ha (post_here s VR.i h)
theorem p_shr {a b : Int} (h0 : 0 ≤ b) (h : K (.int (a.fdiv (2 ^ b.toNat))) m led) : P2 VR c m led (binaryOp .RShift) (.int a) (.int b) K := fun x y T hp tk s r1 r2 => by
  obtain ⟨t, rfl⟩ := r1.io; obtain ⟨u, rfl⟩ := r2.io; exact rshift_int h0 (post_here s VR.i h)
theorem p_and {a b : Int} (h : K (.int (Builtin.bitAnd a b)) m led) : P2 VR c m led (binaryOp .BitAnd) (.int a) (.int b) K := fun x y T hp tk s r1 r2 => by
  obtain ⟨t, rfl⟩ := r1.io; obtain ⟨u, rfl⟩ := r2.io; exact and_int (post_here s VR.i h)
theorem p_or {a b : Int} (h : K (.int (Builtin.bitOr a b)) m led) : P2 VR c m led (binaryOp .BitOr) (.int a) (.int b) K := fun x y T hp tk s r1 r2 => by
  obtain ⟨t, rfl⟩ := r1.io; obtain ⟨u, rfl⟩ := r2.io; exact or_int (post_here s VR.i h)
theorem p_xor {a b : Int} (h : K (.int (Builtin.bitXor a b)) m led) : P2 VR c m led (binaryOp .BitXor) (.int a) (.int b) K := fun x y T hp tk s r1 r2 => by
  obtain ⟨t, rfl⟩ := r1.io; obtain ⟨u, rfl⟩ := r2.io; exact xor_int (post_here s VR.i h)
theorem p_pow {a b : Int} (h0 : 0 ≤ b) (hs : (Builtin.Int.intBits a : Int) * b ≤ 2 ^ 27) (h : K (.int (a ^ b.toNat)) m led) : P2 VR c m led (binaryOp .Pow) (.int a) (.int b) K := fun x y T hp tk s r1 r2 => by
  obtain ⟨t, rfl⟩ := r1.io; obtain ⟨u, rfl⟩ := r2.io; exact pow_int h0 hs (post_here s VR.i h)
theorem p_iadd {a b : Int} (h : K (.int (a + b)) m led) : P2 VR c m led (inplaceOp .Add) (.int a) (.int b) K := fun x y T hp tk s r1 r2 => by
  obtain ⟨t, rfl⟩ := r1.io; obtain ⟨u, rfl⟩ := r2.io; exact P.iadd_int (post_here s VR.i h)
theorem p_isub {a b : Int} (h : K (.int (a - b)) m led) : P2 VR c m led (inplaceOp .Sub) (.int a) (.int b) K := fun x y T hp tk s r1 r2 => by
  obtain ⟨t, rfl⟩ := r1.io; obtain ⟨u, rfl⟩ := r2.io; exact P.isub_int (post_here s VR.i h)
theorem str_beq (x y : PySem.Str) : (x.cps.toList == y.cps.toList) = decide (x = y) := by
  obtain ⟨⟨a⟩⟩ := x; obtain ⟨⟨b⟩⟩ := y
  by_cases e : a = b
  · subst e; simp
  · have : ¬ ((⟨⟨a⟩⟩ : PySem.Str) = ⟨⟨b⟩⟩) := fun h => e (by injection h with h; injection h)
    simp [e]
theorem p_eqs {a b : PySem.Str} (h : K (.bool (decide (a = b))) m led) : P2 VR c m led (compareOp .Eq) (.str a) (.str b) K := fun x y T hp tk s r1 r2 => by
  obtain ⟨t, rfl⟩ := r1.so; obtain ⟨u, rfl⟩ := r2.so; exact PySem.P.eq_str (post_here s VR.b (by rw [str_beq]; exact h))
theorem t_bool {b : Bool} {K : Bool → Loc → List As → Prop} (h : K b m led) : P1 BR c m led truthy (.bool b) K := fun x T hp tk s r => by
  rw [r.bo]; exact wpAny_truthy_bool (post_here s rfl h)
theorem t_int {i : Int} {K : Bool → Loc → List As → Prop} (h : K (decide (i ≠ 0)) m led) : P1 BR c m led truthy (.int i) K := fun x T hp tk s r => by
  obtain ⟨t, rfl⟩ := r.io; exact P.truthy_int (post_here s rfl (by rw [show (i != 0) = decide (i ≠ 0) by by_cases h : i = 0 <;> simp [h]]; exact h))
end
section
variable {c : Cx} {m m' : Loc} {led led' : List As} {K : F → Loc → List As → Prop}

noncomputable abbrev KRet (K : F → Loc → List As → Prop) (v : V) (m : Loc) (led : List As) : Prop := K (.ret v) m led
noncomputable abbrev KIf (c : Cx) (b o : List Stmt) (K : F → Loc → List As → Prop) (q : Bool) (m : Loc) (led : List As) : Prop := if q = true then SX c m led b K else SX c m led o K
theorem FR.next {h : Heap} : FR h .next .next := rfl
theorem FR.ret {h : Heap} {v : V} {x : Value} (r : VR h v x) : FR h (.ret v) (.ret x) := ⟨x, rfl, r⟩

theorem s_nil (h : K .next m led) : SX c m led [] K := fun T hp tk s => wpAny_execs_nil (post_here s FR.next h)
/-- what a statement list does behind its first -/
noncomputable def Then (c : Cx) (rest : List Stmt) (K : F → Loc → List As → Prop) : F → Loc → List As → Prop
  | .next, m, led => SX c m led rest K
  | f, m, led => K f m led
theorem s_cons {s : Stmt} {rest : List Stmt} (h : SS c m led s (Then c rest K)) : SX c m led (s :: rest) K := fun T hp tk st =>
  wpAny_execs_cons (wpAny_mono (h T hp tk st) (fun f s1 zz => Post.go zz fun v1 h1 tk1 m1 led1 e s1' r1 k1 => by
    subst e
    cases v1 with
    | next => rw [show f = Flow.next from r1]; exact k1 T h1 tk1 s1'
    | brk => rw [show f = Flow.brk from r1]; exact post_here s1' (b := F.brk) rfl k1
    | cont => rw [show f = Flow.cont from r1]; exact post_here s1' (b := F.cont) rfl k1
    | ret v => obtain ⟨x, rfl, hx⟩ := r1; exact post_here s1' (FR.ret hx) k1) fun _ _ x => x)

theorem s_cont {pos : Pos} (h : K .cont m led) : SS c m led (.Continue pos) K := fun T hp tk s => wpAny_Continue (post_here s (b := F.cont) rfl h)
theorem s_ret {e : Expr} {pos : Pos} (h : SE c m led e (KRet K)) : SS c m led (.Return (some e) pos) K := fun T hp tk s =>
  wpAny_Return_some (wpAny_mono (h T hp tk s) (fun a s1 zz => Post.go zz fun v1 h1 tk1 m1 led1 e s1' r1 k1 => by subst e; exact post_here s1' (FR.ret r1) k1) fun _ _ x => x)
theorem s_ret0 {pos : Pos} (h : K (.ret .none) m led) : SS c m led (.Return none pos) K := fun T hp tk s => wpAny_Return_none (post_here s (FR.ret VR.n) h)
theorem s_if {t : Expr} {b o : List Stmt} {pos : Pos} (h : SB c m led t (KIf c b o K)) : SS c m led (.If t b o pos) K := fun T hp tk s =>
  wpAny_If (wpAny_mono (h T hp tk s) (fun a s1 zz => Post.go zz fun v1 h1 tk1 m1 led1 e s1' r1 k1 => by
    have e1 : a = v1 := r1
    subst e e1
    cases a <;> exact k1 T h1 tk1 s1') fun _ _ x => x)

/-- a local name's store -/
noncomputable def Store (x : PySem.Str) (v : V) (m : Loc) (k : Loc → Prop) : Prop := ∃ m', SetL x v m m' ∧ k m'
noncomputable abbrev KNx (K : F → Loc → List As → Prop) (led : List As) (m : Loc) : Prop := K .next m led
noncomputable abbrev KSt (x : PySem.Str) (K : F → Loc → List As → Prop) (v : V) (m : Loc) (led : List As) : Prop := Store x v m (KNx K led)
noncomputable abbrev KAu (c : Cx) (op : Operator) (v : V) (x : PySem.Str) (K : F → Loc → List As → Prop) (v1 : V) (m : Loc) (led : List As) : Prop := P2 VR c m led (inplaceOp op) v v1 (KSt x K)
noncomputable abbrev KEx (K : F → Loc → List As → Prop) (v : V) (m : Loc) (led : List As) : Prop := v = .none ∧ K .next m led
noncomputable abbrev KU (K : F → Loc → List As → Prop) (_ : Unit) (m : Loc) (led : List As) : Prop := K .next m led
noncomputable abbrev KAt2 (c : Cx) (attr : PySem.Str) (K : F → Loc → List As → Prop) (v u : V) (m : Loc) (led : List As) : Prop := P2 UR c m led (fun x y => setAttr x attr y) u v (KU K)
noncomputable abbrev KAt1 (c : Cx) (o : Expr) (attr : PySem.Str) (K : F → Loc → List As → Prop) (v : V) (m : Loc) (led : List As) : Prop := SE c m led o (KAt2 c attr K v)
noncomputable abbrev KSb3 (c : Cx) (K : F → Loc → List As → Prop) (v u j : V) (m : Loc) (led : List As) : Prop := P3 UR c m led setItem u j v (KU K)
noncomputable abbrev KSb2 (c : Cx) (i : Expr) (K : F → Loc → List As → Prop) (v u : V) (m : Loc) (led : List As) : Prop := SE c m led i (KSb3 c K v u)
noncomputable abbrev KSb1 (c : Cx) (o i : Expr) (K : F → Loc → List As → Prop) (v : V) (m : Loc) (led : List As) : Prop := SE c m led o (KSb2 c i K v)
noncomputable abbrev KAa4 (c : Cx) (attr : PySem.Str) (K : F → Loc → List As → Prop) (u w : V) (m : Loc) (led : List As) : Prop := P2 UR c m led (fun x y => setAttr x attr y) u w (KU K)
noncomputable abbrev KAa3 (c : Cx) (attr : PySem.Str) (op : Operator) (K : F → Loc → List As → Prop) (u old v : V) (m : Loc) (led : List As) : Prop := P2 VR c m led (inplaceOp op) old v (KAa4 c attr K u)
noncomputable abbrev KAa2 (c : Cx) (attr : PySem.Str) (op : Operator) (e : Expr) (K : F → Loc → List As → Prop) (u old : V) (m : Loc) (led : List As) : Prop := SE c m led e (KAa3 c attr op K u old)
noncomputable abbrev KAa1 (c : Cx) (attr : PySem.Str) (op : Operator) (e : Expr) (K : F → Loc → List As → Prop) (u : V) (m : Loc) (led : List As) : Prop := P1 VR c m led (fun x => getAttr x attr true) u (KAa2 c attr op e K u)
noncomputable abbrev KAs5 (c : Cx) (K : F → Loc → List As → Prop) (u j w : V) (m : Loc) (led : List As) : Prop := P3 UR c m led setItem u j w (KU K)
noncomputable abbrev KAs4 (c : Cx) (op : Operator) (K : F → Loc → List As → Prop) (u j old v : V) (m : Loc) (led : List As) : Prop := P2 VR c m led (inplaceOp op) old v (KAs5 c K u j)
noncomputable abbrev KAs3 (c : Cx) (op : Operator) (e : Expr) (K : F → Loc → List As → Prop) (u j old : V) (m : Loc) (led : List As) : Prop := SE c m led e (KAs4 c op K u j old)
noncomputable abbrev KAs2 (c : Cx) (op : Operator) (e : Expr) (K : F → Loc → List As → Prop) (u j : V) (m : Loc) (led : List As) : Prop := P2 VR c m led getItem u j (KAs3 c op e K u j)
noncomputable abbrev KAs1 (c : Cx) (i : Expr) (op : Operator) (e : Expr) (K : F → Loc → List As → Prop) (u : V) (m : Loc) (led : List As) : Prop := SE c m led i (KAs2 c op e K u)

theorem env_plain {e : Env} (hk : e.scope.kind = .function) : (e.scope.kind == .class || (e.scope.kind == .module && e.locals != e.globals)) = false := by rw [hk]; rfl

theorem store_loc {x : PySem.Str} {v : V} {y : Value} {T : Tmp} {h : Heap} {tk : Nat} {Q : Unit → Shared → Prop} (hk : c.env.scope.kind = .function) (s : St c m led T h) (u : SetL x v m m') (r : VR h v y)
    (q : ∀ h' tk', St c m' led T h' → Q () ⟨h', c.g, c.d, tk', c.os⟩) : wpAny c.M c.A (storeName c.env x y) Q NoE ⟨h, c.g, c.d, tk, c.os⟩ := by
  obtain ⟨mv, hn, hr⟩ := s.ns
  exact wpAny_storeName_local (s.kinds x u.mem) hn (fun h' hn' hs => q h' _ (s.loc u hn hr hs hn' r)) (env_plain hk)

theorem s_assign {x : PySem.Str} {e : Expr} {p pos : Pos} (hk : c.env.scope.kind = .function) (hs : swapsWith e (some (.Name x p)) pos.line c.env = pure false)
    (h : SE c m led e (KSt x K)) : SS c m led (.Assign [.Name x p] e pos) K := fun T hp tk s =>
  wpAny_Assign_Name (wpAny_mono (h T hp tk s) (fun a s1 zz => Post.go zz fun v1 h1 tk1 m1 led1 e s1' r1 ⟨m2, u, k1⟩ => by
    subst e
    exact store_loc hk s1' u r1 fun h' tk' s' => post_here s' FR.next k1) fun _ _ x => x) hs

theorem s_aug {x : PySem.Str} {op : Operator} {e : Expr} {p pos : Pos} {v : V} (hk : c.env.scope.kind = .function) (g : GetL x v m)
    (h : SE c m led e (KAu c op v x K)) : SS c m led (.AugAssign (.Name x p) op e pos) K := fun T hp tk s => by
  obtain ⟨mv, hn, hr⟩ := s.ns
  have e' := hr x
  rw [look_of_mem s.keys g.mem] at e'
  cases hx : mv x with
  | none => rw [hx] at e'; exact e'.elim
  | some y =>
    rw [hx] at e'
    refine wpAny_AugAssign_Name (wpAny_loadName_local hk (s.kinds x (List.mem_map.mpr ⟨_, g.mem, rfl⟩)) hn hx ?_)
    refine wpAny_mono (h (T.cons v y) hp tk (s.cons e')) (fun a s1 zz => Post.go zz fun v1 h1 tk1 m1 led1 e s1' r1 k1 => ?_) fun _ _ x => x
    subst e
    refine wpAny_mono (k1 y a T h1 tk1 s1'.tail s1'.head r1) (fun b s2 zz => Post.go zz fun v2 h2 tk2 m2 led2 e s2' r2 ⟨m3, u, k2⟩ => ?_) fun _ _ x => x
    subst e
    exact store_loc hk s2' u r2 fun h' tk' s' => post_here s' FR.next k2

theorem s_expr {e : Expr} {pos : Pos} (hi : interactive c.env = false) (hs : swapsWith e none pos.line c.env = pure false)
    (h : SE c m led e (KEx K)) : SS c m led (.Expr e pos) K := fun T hp tk s =>
  wpAny_Expr (wpAny_mono (h T hp tk s) (fun a s1 zz => Post.go zz fun v1 h1 tk1 m1 led1 e s1' r1 ⟨ev, k1⟩ => by
    subst e ev
    rw [r1.no]
    exact post_here s1' FR.next k1) fun _ _ x => x) hi hs

theorem s_assign_attr {o e : Expr} {attr : PySem.Str} {p pos : Pos} (hs : swapsWith e (some (.Attribute o attr p)) pos.line c.env = pure false)
    (h : SE c m led e (KAt1 c o attr K)) : SS c m led (.Assign [.Attribute o attr p] e pos) K := fun T hp tk s =>
  plainObj_wpAny_Assign_Attribute (wpAny_mono (h T hp tk s) (fun a s1 zz => Post.go zz fun v1 h1 tk1 m1 led1 e s1' r1 k1 => by
    subst e
    refine wpAny_mono (k1 (T.cons v1 a) h1 tk1 (s1'.cons r1)) (fun b s2 zz => Post.go zz fun v2 h2 tk2 m2 led2 e s2' r2 k2 => ?_) fun _ _ x => x
    subst e
    refine wpAny_mono (k2 b a T h2 tk2 s2'.tail r2 s2'.head) (fun d s3 zz => Post.go zz fun v3 h3 tk3 m3 led3 e s3' r3 k3 => ?_) fun _ _ x => x
    subst e
    exact post_here s3' FR.next k3) fun _ _ x => x) hs

theorem s_assign_sub {o i e : Expr} {p pos : Pos} (hs : swapsWith e (some (.Subscript o i p)) pos.line c.env = pure false)
    (h : SE c m led e (KSb1 c o i K)) : SS c m led (.Assign [.Subscript o i p] e pos) K := fun T hp tk s =>
  wpAny_Assign_Subscript (wpAny_mono (h T hp tk s) (fun a s1 zz => Post.go zz fun v1 h1 tk1 m1 led1 e s1' r1 k1 => by
    subst e
    refine wpAny_mono (k1 (T.cons v1 a) h1 tk1 (s1'.cons r1)) (fun b s2 zz => Post.go zz fun v2 h2 tk2 m2 led2 e s2' r2 k2 => ?_) fun _ _ x => x
    subst e
    refine wpAny_mono (k2 ((T.cons v1 a).cons v2 b) h2 tk2 (s2'.cons r2)) (fun d s3 zz => Post.go zz fun v3 h3 tk3 m3 led3 e s3' r3 k3 => ?_) fun _ _ x => x
    subst e
    refine wpAny_mono (k3 b d a T h3 tk3 s3'.tail.tail s3'.head r3 s3'.tail.head) (fun d s4 zz => Post.go zz fun v4 h4 tk4 m4 led4 e s4' r4 k4 => ?_) fun _ _ x => x
    subst e
    exact post_here s4' FR.next k4) fun _ _ x => x) hs

theorem s_aug_attr {o e : Expr} {attr : PySem.Str} {op : Operator} {p pos : Pos}
    (h : SE c m led o (KAa1 c attr op e K)) : SS c m led (.AugAssign (.Attribute o attr p) op e pos) K := fun T hp tk s =>
  wpAny_AugAssign_AttributeAny (wpAny_mono (h T hp tk s) (fun a s1 zz => Post.go zz fun u h1 tk1 m1 led1 e s1' r1 k1 => by
    subst e
    refine wpAny_mono (k1 a (T.cons u a) h1 tk1 (s1'.cons r1) r1) (fun b s2 zz => Post.go zz fun old h2 tk2 m2 led2 e s2' r2 k2 => ?_) fun _ _ x => x
    subst e
    refine wpAny_mono (k2 ((T.cons u a).cons old b) h2 tk2 (s2'.cons r2)) (fun d s3 zz => Post.go zz fun v3 h3 tk3 m3 led3 e s3' r3 k3 => ?_) fun _ _ x => x
    subst e
    refine wpAny_mono (k3 b d (T.cons u a) h3 tk3 s3'.tail s3'.head r3) (fun z s4 zz => Post.go zz fun v4 h4 tk4 m4 led4 e s4' r4 k4 => ?_) fun _ _ x => x
    subst e
    refine wpAny_mono (k4 a z T h4 tk4 s4'.tail s4'.head r4) (fun _ s5 zz => Post.go zz fun v5 h5 tk5 m5 led5 e s5' r5 k5 => ?_) fun _ _ x => x
    subst e
    exact post_here s5' FR.next k5) fun _ _ x => x)

theorem s_aug_sub {o i e : Expr} {op : Operator} {p pos : Pos} (ha : ∀ ov iv new, augStore i ov iv new = (do holding [new, ov, iv] (setItem ov iv new); release [new, ov, iv] []; pure .next))
    (h : SE c m led o (KAs1 c i op e K)) : SS c m led (.AugAssign (.Subscript o i p) op e pos) K := fun T hp tk s =>
  wpAny_AugAssign_Subscript_any (wpAny_mono (h T hp tk s) (fun a s1 zz => Post.go zz fun u h1 tk1 m1 led1 e s1' r1 k1 => by
    subst e
    refine wpAny_mono (k1 (T.cons u a) h1 tk1 (s1'.cons r1)) (fun b s2 zz => Post.go zz fun j h2 tk2 m2 led2 e s2' r2 k2 => ?_) fun _ _ x => x
    subst e
    refine wpAny_mono (k2 a b ((T.cons u a).cons j b) h2 tk2 (s2'.cons r2) s2'.head r2) (fun d s3 zz => Post.go zz fun old h3 tk3 m3 led3 e s3' r3 k3 => ?_) fun _ _ x => x
    subst e
    refine wpAny_mono (k3 (((T.cons u a).cons j b).cons old d) h3 tk3 (s3'.cons r3)) (fun f s4 zz => Post.go zz fun v4 h4 tk4 m4 led4 e s4' r4 k4 => ?_) fun _ _ x => x
    subst e
    refine wpAny_mono (k4 d f ((T.cons u a).cons j b) h4 tk4 s4'.tail s4'.head r4) (fun z s5 zz => Post.go zz fun v5 h5 tk5 m5 led5 e s5' r5 k5 => ?_) fun _ _ x => x
    subst e
    refine wpAny_mono (k5 a b z T h5 tk5 s5'.tail.tail s5'.tail.head s5'.head r5) (fun _ s6 zz => Post.go zz fun v6 h6 tk6 m6 led6 e s6' r6 k6 => ?_) fun _ _ x => x
    subst e
    exact post_here s6' FR.next k6) fun _ _ x => x) ha

/-- targets -/
noncomputable def PA (c : Cx) (m : Loc) (led : List As) (t : Expr) (v : V) (K : Loc → List As → Prop) : Prop := P1 UR c m led (assign t c.env) v fun _ m led => K m led
noncomputable abbrev KSl (K : Loc → List As → Prop) (led : List As) (m : Loc) : Prop := K m led
noncomputable abbrev KPn (K : F → Loc → List As → Prop) (m : Loc) (led : List As) : Prop := K .next m led
noncomputable abbrev KTup (c : Cx) (ts : List Expr) (k : Nat) (p : Pos) (K : F → Loc → List As → Prop) (v : V) (m : Loc) (led : List As) : Prop := PA c m led (.Tuple ts k p) v (KPn K)
theorem a_name {x : PySem.Str} {p : Pos} {v : V} {K : Loc → List As → Prop} (hk : c.env.scope.kind = .function) (h : Store x v m (KSl K led)) : PA c m led (.Name x p) v K := fun y T hp tk s r => by
  obtain ⟨m2, u, k⟩ := h
  exact wpAny_assign_Name (store_loc hk s u r fun h' tk' s' => post_here s' (b := ()) trivial k)
/-- names of a tuple target, one by one -/
inductive Stores (K : Loc → List As → Prop) : List Expr → List V → Loc → List As → Prop
  | nil {m : Loc} {led : List As} : K m led → Stores K [] [] m led
  | cons {x : PySem.Str} {p : Pos} {ts : List Expr} {v : V} {vs : List V} {m m' : Loc} {led : List As} : SetL x v m m' → Stores K ts vs m' led → Stores K (.Name x p :: ts) (v :: vs) m led
theorem assignEach_name (x : PySem.Str) (p : Pos) (ts : List Expr) (e : Env) : assignEach (.Name x p :: ts) e = (false, assign (.Name x p) e) :: assignEach ts e := rfl
theorem stores_run {K : Loc → List As → Prop} (hk : c.env.scope.kind = .function) {ts : List Expr} {vs : List V} {m : Loc} {led : List As} (k : Stores K ts vs m led) : ∀ (ys : List Value) (T : Tmp) (hp : Heap) (tk : Nat), St c m led T hp → VRs hp vs ys →
    wpAny c.M c.A (assignInOrder ((assignEach ts c.env).map (·.2)) ys) (Post UR c T fun _ m led => K m led) NoE ⟨hp, c.g, c.d, tk, c.os⟩ := by
  induction k with
  | nil k =>
    intro ys T hp tk s r
    rw [r.inv_nil]
    exact wpAny_pure (post_here s (b := ()) trivial k)
  | @cons x p ts v vs m m' led u _ ih =>
    intro ys T hp tk s r
    obtain ⟨y, ys', rfl, r1, r2⟩ := r.inv
    rw [assignEach_name, List.map_cons]
    unfold assignInOrder
    refine wpAny_bind (wpAny_holding (wpAny_assign_Name ?_))
    obtain ⟨mv, hn, hr⟩ := s.ns
    obtain ⟨o, ho, hno⟩ := ns_notTup hn
    refine wpAny_storeName_local (s.kinds x u.mem) hn (fun h' hn' hs => ?_) (env_plain hk)
    exact ih ys' T h' _ (s.loc u hn hr hs hn' r1) (r2.mono (tk_of_same hs ho hno))
theorem Stores.len {K : Loc → List As → Prop} (e : Env) {ts : List Expr} {vs : List V} {m : Loc} {led : List As} (k : Stores K ts vs m led) : (assignEach ts e).length = vs.length ∧ (assignEach ts e).findIdx? (·.1) = none := by
  induction k with
  | nil => exact ⟨rfl, rfl⟩
  | cons _ _ ih =>
    rw [assignEach_name]
    refine ⟨by simp only [List.length_cons, ih.1], ?_⟩
    rw [List.findIdx?_cons, ih.2]
    rfl
theorem a_tuple {ts : List Expr} {k : Nat} {p : Pos} {vs : List V} {K : Loc → List As → Prop} (hh : c.A.handled = none) (hk : c.env.scope.kind = .function) (h : Stores K ts vs m led) : PA c m led (.Tuple ts k p) (.tup vs) K := fun y T hp tk s r => by
  obtain ⟨a, items, n, rfl, ha, hr⟩ := r.to
  refine wpAny_assign_Tuple hh ⟨_, ha, rfl, n, rfl⟩ ?_ (h.len c.env).2 fun h' he => ?_
  · rw [(h.len c.env).1, hr.length]; simp
  · have keep : ∀ b o, hp.get? b = some o → h'.get? b = some o := fun b o e => he b o (Nat.ne_of_lt (Heap.lt_size e)) e
    exact stores_run hk h items.toList T h' tk (s.keep keep) (hr.mono (TK.of_keep keep))

theorem s_assign_tuple {ts : List Expr} {k : Nat} {p pos : Pos} {e : Expr} (hs : swapsWithSole [.Tuple ts k p] e pos.line c.env = pure false) (hw : swappedStores [.Tuple ts k p] e c.env = pure none)
    (h : SE c m led e (KTup c ts k p K)) : SS c m led (.Assign [.Tuple ts k p] e pos) K := fun T hp tk s =>
  Assign_Tuple (wpAny_mono (h T hp tk s) (fun a s1 zz => Post.go zz fun v1 h1 tk1 m1 led1 e s1' r1 k1 => by
    subst e
    refine wpAny_mono (k1 a T h1 tk1 s1' r1) (fun b s2 zz => Post.go zz fun v2 h2 tk2 m2 led2 e s2' r2 k2 => ?_) fun _ _ x => x
    subst e
    exact post_here s2' FR.next k2) fun _ _ x => x) hs hw
end
section
variable {c : Cx} {m m' : Loc} {led led' : List As} {K : F → Loc → List As → Prop}

/-- an iterator at I: its objects stand apart from all that the frame turns -/
structure It (c : Cx) (h : Heap) (I : Addr) (fp : List Addr) (items : List V) : Prop where
  walk : ∃ (P : Nat → Value → Prop) (S : Nat → Heap → Prop), Walks c.prog c.w c.A I fp [I] items.length P S ∧ S 0 h ∧
    (∀ i x, i < items.length → P i x → ∃ v, items[i]? = some v ∧ VR h v x) ∧
    (∀ i h', S i h' → ∃ o, h'.get? I = some o ∧ ¬ Imm o ∧ ∃ vs, o.data = .fields vs) ∧
    (∀ (target : Expr) i (s : Shared) v (Q : Unit → Shared → Prop), S i s.heap → Q () s → wpAny c.M c.A (letOwnedTupleGo target (.ref I) v) Q NoE s)
  live : ∀ b ∈ fp, b ≠ I → ∃ o, h.get? b = some o

theorem St.hide {c : Cx} {m : Loc} {led : List As} {T : Tmp} {h : Heap} (s : St c m led T h) (I : Addr) : St c m led ⟨hideAll h [I], addrsOf led, T.t⟩ h :=
  ⟨s.ns, s.keys, s.kinds, s.base, s.low, fun b o _ _ e => of_hideAll _ e, s.nd, s.ok, fun a ha => ⟨(s.own a ha).1, .inr ha⟩, s.tmp⟩
theorem St.unhide {c : Cx} {m m' : Loc} {led led' : List As} {T : Tmp} {h h' : Heap} {I : Addr} (s : St c m led T h) (s' : St c m' led' ⟨hideAll h [I], addrsOf led, T.t⟩ h') (hI : T.hE.get? I = none) : St c m' led' T h' := by
  have nd' := s'.nd
  rw [List.nodup_cons] at nd'
  refine ⟨s'.ns, s'.keys, s'.kinds, s'.base, s'.low, fun b o e1 e2 e3 => s'.ext b o e1 (fun hb => ?_) (hideAll_get _ (s.ext b o e1 e2 e3) fun q => ?_), s'.nd, s'.ok, fun a ha => ⟨(s'.own a ha).1, ?_⟩, s'.tmp⟩
  · rcases (s.own b hb).2 with z | z
    · rw [z] at e3; cases e3
    · exact e2 z
  · rw [List.mem_singleton.mp q, hI] at e3; cases e3
  · rcases (s'.own a ha).2 with z | z
    · by_cases e : a = I
      · subst e; exact .inl hI
      · refine (s.fresh (a := a) ?_ (fun e => nd'.1 (e ▸ ha))).2
        cases q : h.get? a with
        | none => rfl
        | some o => rw [hideAll_get [I] q (fun z => e (List.mem_singleton.mp z))] at z; cases z
    · exact (s.own a z).2

theorem St.tk {c : Cx} {m m' : Loc} {led led' : List As} {T : Tmp} {h h' : Heap} {I : Addr} (s : St c m led T h) (s' : St c m' led' ⟨hideAll h [I], addrsOf led, T.t⟩ h') (hI : ∀ o, Imm o → h.get? I ≠ some o) : TK h h' := fun a o i e => by
  refine s'.ext a _ (fun q => ?_) (fun q => ?_) (hideAll_get _ e fun q => hI o i (by rw [← List.mem_singleton.mp q]; exact e))
  · obtain ⟨mv, hn, _⟩ := s.ns
    obtain ⟨o, ho, hno⟩ := ns_notTup hn
    rw [← q, e] at ho
    cases ho
    exact hno i
  · obtain ⟨x, hx, hax⟩ := List.mem_flatMap.mp q
    obtain ⟨o, ho, hno, _⟩ := (s.ok x hx).get a hax
    rw [e] at ho
    cases ho
    exact hno i

/-- what a loop's turn leaves -/
noncomputable def Turn (J : Loc → List As → Prop) (K : F → Loc → List As → Prop) : F → Loc → List As → Prop
  | .next, m, led => J m led
  | .cont, m, led => J m led
  | .brk, m, led => K .next m led
  | .ret v, m, led => K (.ret v) m led

theorem for_core {target : Expr} {body : List Stmt} {T : Tmp} {h : Heap} {tk : Nat} {I : Addr} {fp : List Addr} {items : List V} (it : It c h I fp items) (s : St c m led T h)
    (hIT : T.hE.get? I = none) (hIb : c.h₀.get? I = none) (hIL : I ≠ c.L) (hfl : ∀ b ∈ fp, b ≠ c.L ∧ b ∉ addrsOf led)
    (J : Nat → Loc → List As → Prop) (j0 : J 0 m led)
    (turn : ∀ i v m led, items[i]? = some v → J i m led → PA c m led target v fun m2 led2 => SX c m2 led2 body (Turn (J (i + 1)) K))
    (done : ∀ m led, J items.length m led → K .next m led) :
    codeAny c.M c.A (.forLoop target (.ref I) body [] c.env) (fun r s' => match r with | .ok f => Post FR c T K f s' | .error e => cameBackBy c.M c.A c.env NoE e s') ⟨h, c.g, c.d, tk, c.os⟩ := by
  obtain ⟨P, S, W, hS, hP, hf, hgo⟩ := it.walk
  have hIfp : ∀ o, Imm o → h.get? I ≠ some o := fun o' i e => by
    obtain ⟨o, ho, hd⟩ := hf 0 h hS
    rw [e] at ho; cases ho; exact hd.1 i
  refine codeAny_forLoop_any
    (fun k s' => ∃ h' tk' m' led' i, s' = ⟨h', c.g, c.d, tk', c.os⟩ ∧ S i h' ∧ St c m' led' ⟨hideAll h [I], addrsOf led, T.t⟩ h' ∧ (∀ b ∈ fp, b ∉ addrsOf led') ∧ J i m' led' ∧ i ≤ items.length ∧ k = items.length + 1 - i) ?_ (items.length + 1)
    ⟨h, tk, m, led, 0, rfl, hS, s.hide I, fun b hb => (hfl b hb).2, j0, Nat.zero_le _, rfl⟩
  rintro k s' ⟨h', tk', m', led', i, rfl, hSi, si, hoff, hJ, hi, rfl⟩
  -- the step of the iterator leaves the frame's state as it was
  have step : ∀ h₁, (∀ b o, b ∉ [I] → h'.get? b = some o → h₁.get? b = some o) → St c m' led' ⟨hideAll h [I], addrsOf led, T.t⟩ h₁ := fun h₁ hk => by
    obtain ⟨oI, hoI, hni, vsI, hdI⟩ := hf i h' hSi
    have hIoff : I ∉ addrsOf led' := fun q => by
      obtain ⟨x, hx, hax⟩ := List.mem_flatMap.mp q
      obtain ⟨o, ho, _, hno⟩ := (si.ok x hx).get I hax
      rw [hoI] at ho; cases ho
      exact hno _ hdI
    have tk₁ : TK h' h₁ := fun a o' im e => hk a _ (fun q => by
      rw [List.mem_singleton.mp q, hoI] at e
      cases e
      exact hni im) e
    obtain ⟨mv, hn, hr⟩ := si.ns
    refine ⟨⟨mv, hn.at' fun o e => hk _ o (fun q => hIL (List.mem_singleton.mp q).symm) e, hr.mono tk₁⟩, si.keys, si.kinds, fun b o e => hk b o (fun q => ?_) (si.base b o e), si.low, fun b o e1 e2 e3 => hk b o (fun q => ?_) (si.ext b o e1 e2 e3), si.nd, fun x hx => ?_, si.own, si.tmp.mono tk₁⟩
    · rw [List.mem_singleton.mp q, hIb] at e; cases e
    · rw [List.mem_singleton.mp q] at e3
      rw [hideAll_none [I] (.head _)] at e3; cases e3
    · exact (si.ok x hx).mono tk₁ fun a ha o e => hk a o (fun q => hIoff (List.mem_flatMap.mpr ⟨x, hx, (List.mem_singleton.mp q) ▸ ha⟩)) e
  by_cases hlt : i < items.length
  · refine W.item i _ _ _ hlt hSi fun x h₁ tk₁ hPx hS₁ hk => ?_
    have s₁ := step h₁ hk
    obtain ⟨v, hv, hr⟩ := hP i x hlt hPx
    have r₁ : VR h₁ v x := hr.mono (s.tk s₁ hIfp)
    refine wpAny_mono (hgo target (i + 1) ⟨h₁, c.g, c.d, tk₁, c.os⟩ x (fun _ s' => s' = ⟨h₁, c.g, c.d, tk₁, c.os⟩) hS₁ rfl) (fun _ s₂ e => ?_) fun _ _ x => x.elim
    subst e
    have s₁' := s₁.rebase (addrsOf led') fun _ q => q
    refine wpAny_mono (turn i v m' led' hv hJ x _ h₁ tk₁ s₁' r₁) (fun _ s₂ zz => Post.go zz fun _ h₂ tk₂ m₂ led₂ e s₂' _ k₂ => ?_) fun _ _ x => x.elim
    subst e
    refine wpAny_mono (k₂ _ h₂ tk₂ s₂') (fun f s₃ zz => Post.go zz fun fl h₃ tk₃ m₃ led₃ e s₃' rf k₃ => ?_) fun _ _ x => x.elim
    subst e
    have livefp : ∀ b ∈ fp, ∃ o, h₁.get? b = some o := fun b hb => by
      by_cases q : b = I
      · obtain ⟨o, ho, _⟩ := hf (i + 1) h₁ hS₁
        exact ⟨o, q ▸ ho⟩
      · obtain ⟨o, ho⟩ := it.live b hb q
        exact ⟨o, s₁.ext b o (hfl b hb).1 (hfl b hb).2 (hideAll_get _ ho fun z => q (List.mem_singleton.mp z))⟩
    have fin : J (i + 1) m₃ led₃ → ∃ k, k < items.length + 1 - i ∧ ∃ h' tk' m' led' i, (⟨h₃, c.g, c.d, tk₃, c.os⟩ : Shared) = ⟨h', c.g, c.d, tk', c.os⟩ ∧ S i h' ∧ St c m' led' ⟨hideAll h [I], addrsOf led, T.t⟩ h' ∧ (∀ b ∈ fp, b ∉ addrsOf led') ∧ J i m' led' ∧ i ≤ items.length ∧ k = items.length + 1 - i := fun hJ₃ => by
      refine ⟨items.length + 1 - (i + 1), by (first | lia | omega), h₃, tk₃, m₃, led₃, i + 1, rfl, W.frame _ _ _ hS₁ fun b hb o e => s₃'.ext b o (hfl b hb).1 (hoff b hb) e, s₁.back s₃', fun b hb q => ?_, hJ₃, hlt, rfl⟩
      rcases (s₃'.own b q).2 with z | z
      · obtain ⟨o, ho⟩ := livefp b hb
        rw [ho] at z; cases z
      · exact hoff b hb z
    cases fl with
    | next => rw [show f = Flow.next from rf]; exact fin k₃
    | cont => rw [show f = Flow.cont from rf]; exact fin k₃
    | brk => rw [show f = Flow.brk from rf]; exact ⟨F.next, h₃, tk₃, m₃, led₃, rfl, s.unhide (s₁.back s₃') hIT, rfl, k₃⟩
    | ret u => obtain ⟨y, rfl, hy⟩ := rf; exact ⟨F.ret u, h₃, tk₃, m₃, led₃, rfl, s.unhide (s₁.back s₃') hIT, FR.ret hy, k₃⟩
  · have hin : i = items.length := by (first | lia | omega)
    subst hin
    refine W.done _ _ _ hSi fun h₁ tk₁ hk => ?_
    have s₁ := step h₁ hk
    exact wpAny_execs_nil ⟨F.next, h₁, tk₁, m', led', rfl, s.unhide s₁ hIT, rfl, done m' led' hJ⟩

/-- x taken out of the ledger -/
inductive Sel (x : As) : List As → List As → Prop
  | head {r : List As} : Sel x (x :: r) r
  | tail {p : As} {r r' : List As} : Sel x r r' → Sel x (p :: r) (p :: r')
theorem Sel.perm {x : As} {l r : List As} (g : Sel x l r) : l.Perm (x :: r) := by
  induction g with
  | head => exact .refl _
  | @tail p _ _ _ ih => exact (ih.cons p).trans (List.Perm.swap _ _ _)

theorem addrs_cons (x : As) (l : List As) : addrsOf (x :: l) = x.addrs ++ addrsOf l := by simp only [addrsOf, List.flatMap_cons]

theorem St.tk_ext {c : Cx} {m m' : Loc} {led led' : List As} {T : Tmp} {h h' : Heap} (s : St c m led T h) (s' : St c m' led' ⟨h, addrsOf led, T.t⟩ h') : TK h h' := fun a o i e => by
  refine s'.ext a _ (fun q => ?_) (fun q => ?_) e
  · obtain ⟨mv, hn, _⟩ := s.ns
    obtain ⟨o, ho, hno⟩ := ns_notTup hn
    rw [← q, e] at ho
    cases ho
    exact hno i
  · obtain ⟨x, hx, hax⟩ := List.mem_flatMap.mp q
    obtain ⟨o, ho, hno, _⟩ := (s.ok x hx).get a hax
    rw [e] at ho
    cases ho
    exact hno i

theorem St.unsel {c : Cx} {m m' : Loc} {x : As} {rest led' : List As} {T : Tmp} {h h' : Heap} (s : St c m (x :: rest) T h) (s' : St c m' led' ⟨h, addrsOf rest, T.t⟩ h') : St c m' (x :: led') T h' := by
  have sr : St c m rest T h := s.sub (List.sublist_cons_self _ _)
  have tk := sr.tk_ext s'
  have nd := s.nd
  rw [List.nodup_cons, addrs_cons, List.nodup_append] at nd
  obtain ⟨nL, nx, nr, nxr⟩ := nd
  have nd' := s'.nd
  rw [List.nodup_cons] at nd'
  refine ⟨s'.ns, s'.keys, s'.kinds, s'.base, s'.low, fun b o e1 e2 e3 => s'.ext b o e1 (fun hb => ?_) (s.ext b o e1 e2 e3), ?_, fun y hy => ?_, fun a ha => ?_, s'.tmp⟩
  · rcases (sr.own b hb).2 with z | z
    · rw [z] at e3; cases e3
    · exact e2 z
  · rw [List.nodup_cons, addrs_cons, List.nodup_append]
    refine ⟨fun q => ?_, nx, nd'.2, fun a ha b hb e => ?_⟩
    · rcases List.mem_append.mp q with q | q
      · exact nL (List.mem_append_left _ q)
      · exact nd'.1 q
    · subst e
      obtain ⟨o, ho, _⟩ := (s.ok x (.head _)).get a ha
      rcases (s'.own a hb).2 with z | z
      · rw [ho] at z; cases z
      · exact nxr a ha a z rfl
  · rcases List.mem_cons.mp hy with rfl | hy
    · exact (s.ok y (.head _)).mono tk fun a ha o e => s'.ext a o (fun q => nL (List.mem_append_left _ (q ▸ ha))) (fun q => nxr a ha a q rfl) e
    · exact s'.ok y hy
  · rw [addrs_cons] at ha
    rcases List.mem_append.mp ha with q | q
    · exact s.own a (by rw [addrs_cons]; exact List.mem_append_left _ q)
    · refine ⟨(s'.own a q).1, ?_⟩
      rcases (s'.own a q).2 with z | z
      · exact (s.fresh z (fun e => nd'.1 (e ▸ q))).2
      · exact (sr.own a z).2


/-- a loop over items that are known beforehand: an invariant, its turn, its end -/
noncomputable def ForK (c : Cx) (target : Expr) (body : List Stmt) (K : F → Loc → List As → Prop) (items : List V) (m : Loc) (led : List As) : Prop :=
  ∃ J : Nat → Loc → List As → Prop, J 0 m led ∧
    (∀ i v m led, items[i]? = some v → J i m led → PA c m led target v fun m2 led2 => SX c m2 led2 body (Turn (J (i + 1)) K)) ∧
    ∀ m led, J items.length m led → K .next m led
theorem ForK.mk {target : Expr} {body : List Stmt} {items : List V} (J : Nat → Loc → List As → Prop) (j0 : J 0 m led)
    (turn : ∀ i v m led, items[i]? = some v → J i m led → PA c m led target v fun m2 led2 => SX c m2 led2 body (Turn (J (i + 1)) K))
    (done : ∀ m led, J items.length m led → K .next m led) : ForK c target body K items m led := ⟨J, j0, turn, done⟩

theorem for_list {target : Expr} {body : List Stmt} {T : Tmp} {h : Heap} {tk : Nat} {l : Addr} {vs : List V} (hh : c.A.handled = none) (s : St c m (.lst l vs :: led) T h)
    (k : ForK c target body (fun f m led => K f m (.lst l vs :: led)) vs m led) :
    wpAny c.M c.A (pyIter (.ref l)) (fun it s₂ => codeAny c.M c.A (.forLoop target it body [] c.env) (fun r s' => match r with | .ok f => Post FR c T K f s' | .error e => cameBackBy c.M c.A c.env NoE e s') s₂) NoE ⟨h, c.g, c.d, tk, c.os⟩ := by
  obtain ⟨items, n, hl, hr⟩ := s.ok _ (.head _)
  obtain ⟨J, j0, turn, done⟩ := k
  have hlt := Heap.lt_size hl
  refine wpAny_pyIter_list hl.isList ?_
  have keep : ∀ b o, h.get? b = some o → (h.push { cls := .type "list_iterator", data := .fields #[.ref l, .int 0 0] }).get? b = some o := fun b o e => Heap.get?_push_of_some _ e
  have sr : St c m led ⟨h, addrsOf led, T.t⟩ (h.push { cls := .type "list_iterator", data := .fields #[.ref l, .int 0 0] }) := ((s.sub (List.sublist_cons_self _ _)).rebase (addrsOf led) fun _ q => q).keep keep
  have nd := s.nd
  rw [List.nodup_cons, addrs_cons, List.nodup_append] at nd
  have hLl : l ≠ c.L := fun e => nd.1 (e ▸ List.mem_append_left _ (.head _))
  have hlr : l ∉ addrsOf led := fun q => nd.2.2.2 l (.head _) l q rfl
  have hIn := get_none_of_ge (h := h) (Nat.le_refl _)
  have fr := s.fresh hIn (fun e => absurd s.Llt (e ▸ Nat.lt_irrefl _))
  have hIlt : ∀ a, a < h.objs.size → a ≠ h.objs.size := fun a e => Nat.ne_of_lt e
  have itI : It c (h.push { cls := .type "list_iterator", data := .fields #[.ref l, .int 0 0] }) h.objs.size [h.objs.size, l] vs := by
    have W := Walks.list (prog := c.prog) (w := c.w) hh h.objs.size l (Nat.ne_of_lt hlt) items
    have hlen : items.size = vs.length := by rw [hr.length]; simp
    rw [hlen] at W
    refine ⟨⟨_, _, W, ⟨⟨_, Heap.get?_push_size _ rfl, rfl, rfl⟩, ⟨_, keep _ _ hl, rfl, n, rfl⟩⟩, fun i x _ hx => ?_, fun i h' hS => ?_, fun target i s' v Q hS hQ => letGo_listiter hS.1 hQ⟩, fun b hb hne => ?_⟩
    · obtain ⟨v, hv, rv⟩ := hr.get' (i := i) (x := x) (by simpa using hx)
      exact ⟨v, hv, rv.mono (TK.of_keep keep)⟩
    · obtain ⟨o, ho, hc, hd⟩ := hS.1
      exact ⟨o, ho, fun e => by cases e <;> first | (cases hd; done) | (injection hc with hc; exact absurd hc (by decide)), _, hd⟩
    · rcases List.mem_cons.mp hb with e | hb
      · exact absurd e hne
      · rw [List.mem_singleton.mp hb]; exact ⟨_, keep _ _ hl⟩
  have core := for_core (K := fun f m led => K f m (.lst l vs :: led)) (tk := tk) itI sr
    hIn fr.1 (fun e => absurd s.Llt (e ▸ Nat.lt_irrefl _)) (fun b hb => by
      rcases List.mem_cons.mp hb with rfl | hb
      · exact ⟨fun e => absurd s.Llt (e ▸ Nat.lt_irrefl _), fun q => absurd (s.lt _ (by rw [addrs_cons]; exact List.mem_append_right _ q)) (Nat.lt_irrefl _)⟩
      · rw [List.mem_singleton.mp hb]; exact ⟨hLl, hlr⟩) J j0 turn done
  refine codeAny_mono core fun r s' z => ?_
  cases r with
  | error e => exact z
  | ok f =>
    obtain ⟨b, h', tk', m', led', e, s2, rf, kk⟩ := z
    exact ⟨b, h', tk', m', _, e, s.unsel s2, rf, kk⟩
end
section
variable {c : Cx} {m m' : Loc} {led led' : List As} {K : F → Loc → List As → Prop}

theorem St.tup_off {T : Tmp} {h : Heap} (s : St c m led T h) {a : Addr} {o : Obj} (ho : h.get? a = some o) (hi : Imm o) : a ≠ c.L ∧ a ∉ addrsOf led := by
  refine ⟨fun e => ?_, fun q => ?_⟩
  · obtain ⟨mv, hn, _⟩ := s.ns
    obtain ⟨o', ho', hno⟩ := ns_notTup hn
    rw [← e, ho] at ho'; cases ho'; exact hno hi
  · obtain ⟨x, hx, hax⟩ := List.mem_flatMap.mp q
    obtain ⟨o', ho', hno, _⟩ := (s.ok x hx).get a hax
    rw [ho] at ho'; cases ho'; exact hno hi

theorem for_new {target : Expr} {body : List Stmt} {T : Tmp} {h : Heap} {tk : Nat} {ob : Obj} {fp : List Addr} {items : List V} (s : St c m led T h)
    (hf : ob.isFreed = false) (it : It c (h.push ob) h.objs.size fp items) (hfl : ∀ b ∈ fp, b ≠ h.objs.size → b ≠ c.L ∧ b ∉ addrsOf led)
    (k : ForK c target body K items m led) :
    codeAny c.M c.A (.forLoop target (.ref h.objs.size) body [] c.env) (fun r s' => match r with | .ok f => Post FR c T K f s' | .error e => cameBackBy c.M c.A c.env NoE e s') ⟨h.push ob, c.g, c.d, tk, c.os⟩ := by
  obtain ⟨J, j0, turn, done⟩ := k
  have keep : ∀ b o, h.get? b = some o → (h.push ob).get? b = some o := fun b o e => Heap.get?_push_of_some _ e
  have hIn := get_none_of_ge (h := h) (Nat.le_refl _)
  have hIL : h.objs.size ≠ c.L := fun e => absurd s.Llt (e ▸ Nat.lt_irrefl _)
  have fr := s.fresh hIn hIL
  have core := for_core (K := K) (tk := tk) it ((s.rebase (addrsOf led) fun _ q => q).keep keep) hIn fr.1 hIL (fun b hb => by
      by_cases e : b = h.objs.size
      · subst e
        exact ⟨hIL, fun q => absurd (s.lt _ q) (Nat.lt_irrefl _)⟩
      · exact hfl b hb e) J j0 turn done
  refine codeAny_mono core fun r s' z => ?_
  cases r with
  | error e => exact z
  | ok f =>
    obtain ⟨b, h', tk', m', led', e, s2, rf, kk⟩ := z
    exact ⟨b, h', tk', m', _, e, s.back s2, rf, kk⟩

noncomputable def rngV (n : Int) : List V := (List.range n.toNat).map fun (i : Nat) => V.int (i : Int)
theorem rngV_len (n : Int) : (rngV n).length = n.toNat := by simp [rngV]
theorem rngV_get {n : Int} {i : Nat} {v : V} (e : (rngV n)[i]? = some v) : v = .int (i : Int) ∧ (i : Int) < n := by
  unfold rngV at e
  rw [List.getElem?_map, Option.map_eq_some_iff] at e
  obtain ⟨j, hj, e⟩ := e
  obtain ⟨hl, hj⟩ := List.getElem?_eq_some_iff.mp hj
  simp at hj hl
  subst hj
  exact ⟨e.symm, by (first | lia | omega)⟩

theorem range_small {n : Int} (hn : n < 2 ^ 40) (h0 : 0 ≤ n) : Builtin.Range.small 0 n 1 = true := by
  unfold Builtin.Range.small
  rw [rangeSize_one]
  unfold Builtin.Range.rangeFitsLong
  by_cases e : 0 < n
  · simp [e]; (first | lia | omega)
  · have : n = 0 := by (first | lia | omega)
    subst this; decide

theorem letGo_rng {E : Value → Shared → Prop} {target : Expr} {I : Addr} {x left step : Int} {v : Value} {Q' : Unit → Shared → Prop} {s' : Shared} {M : Model} {A : Around} (hit : IsRangeIter s'.heap I x left step) (h : Q' () s') :
    wpAny M A (letOwnedTupleGo target (.ref I) v) Q' E s' := by
  unfold letOwnedTupleGo
  cases target <;> first
    | exact wpAny_pure h
    | (cases v <;> first
        | exact wpAny_pure h
        | (refine wpAny_bind (wpAny_load hit ?_)
           exact wpAny_pure h))

theorem for_rng {target : Expr} {body : List Stmt} {T : Tmp} {h : Heap} {tk : Nat} {r : Addr} {n : Int} {t u v : Tok} (hh : c.A.handled = none) (hn : n < 2 ^ 40) (h0 : 0 ≤ n) (s : St c m led T h)
    (hr : h.get? r = some (rngObj #[.int 0 t, .int n u, .int 1 v]))
    (k : ForK c target body K (rngV n) m led) :
    wpAny c.M c.A (pyIter (.ref r)) (fun it s₂ => codeAny c.M c.A (.forLoop target it body [] c.env) (fun r s' => match r with | .ok f => Post FR c T K f s' | .error e => cameBackBy c.M c.A c.env NoE e s') s₂) NoE ⟨h, c.g, c.d, tk, c.os⟩ := by
  refine wpAny_pyIter_range hr (range_small hn h0) ?_
  refine for_new s rfl ?_ (fun b hb e => absurd (List.mem_singleton.mp hb) e) k
  have hz : Builtin.Range.rangeSize 0 n 1 = n := by rw [rangeSize_one]; split <;> (first | lia | omega)
  rw [hz]
  have W := Walks.range (prog := c.prog) (w := c.w) hh h.objs.size 0 1 n.toNat
  have hlen : n.toNat = (rngV n).length := (rngV_len n).symm
  have W' := W
  rw [hlen] at W'
  refine ⟨⟨_, _, W', ?_, fun i x hi hx => ?_, fun i h' hS => ?_, fun target i s' v Q hS hQ => ?_⟩, fun b hb hne => absurd (List.mem_singleton.mp hb) hne⟩
  · have : ((rngV n).length : Int) = n := by rw [rngV_len]; (first | lia | omega)
    show (h.push _).get? _ = some _
    rw [this, show (0 : Int) + ((0 : Nat) : Int) * 1 = 0 from rfl, show n - ((0 : Nat) : Int) = n by (first | lia | omega)]
    exact Heap.get?_push_size _ rfl
  · obtain ⟨t, rfl⟩ := hx
    refine ⟨.int (i : Int), ?_, by rw [show (0 : Int) + (i : Int) * 1 = (i : Int) by (first | lia | omega)]; exact VR.i⟩
    rw [rngV_len] at hi
    unfold rngV
    rw [List.getElem?_map, List.getElem?_range hi]
    rfl
  · exact ⟨_, hS, fun e => by generalize hz : ({ cls := .type "range_iterator", dict := none, data := .fields #[rawInt (0 + (i : Int) * 1), rawInt (((rngV n).length : Int) - (i : Int)), rawInt 1], slots := #[] } : Obj) = z at e; cases e <;> simp at hz, _, rfl⟩
  · exact letGo_rng hS hQ

theorem for_tup {target : Expr} {body : List Stmt} {T : Tmp} {h : Heap} {tk : Nat} {vs : List V} {x : Value} (hh : c.A.handled = none) (s : St c m led T h)
    (hr : VR h (.tup vs) x) (k : ForK c target body K vs m led) :
    wpAny c.M c.A (pyIter x) (fun it s₂ => codeAny c.M c.A (.forLoop target it body [] c.env) (fun r s' => match r with | .ok f => Post FR c T K f s' | .error e => cameBackBy c.M c.A c.env NoE e s') s₂) NoE ⟨h, c.g, c.d, tk, c.os⟩ := by
  obtain ⟨a, items, n, rfl, ha, hr⟩ := hr.to
  have hlt := Heap.lt_size ha
  refine wpAny_pyIter_tuple ⟨_, ha, rfl, n, rfl⟩ ?_
  have off := s.tup_off ha (.tup _ _)
  have keep : ∀ b o, h.get? b = some o → (h.push { cls := .type "tuple_iterator", data := .fields #[.ref a, .int 0 0] }).get? b = some o := fun b o e => Heap.get?_push_of_some _ e
  refine for_new (fp := [h.objs.size, a]) s rfl ?_ (fun b hb e => ?_) k
  · have W := Walks.tuple (prog := c.prog) (w := c.w) hh h.objs.size a (Nat.ne_of_lt hlt) items
    have hlen : items.size = vs.length := by rw [hr.length]; simp
    rw [hlen] at W
    refine ⟨⟨_, _, W, ⟨⟨_, Heap.get?_push_size _ rfl, rfl, rfl⟩, ⟨_, keep _ _ ha, rfl, n, rfl⟩⟩, fun i x _ hx => ?_, fun i h' hS => ?_, fun target i s' v Q hS hQ => letGo_tupleiter hS.1 hQ⟩, fun b hb hne => ?_⟩
    · obtain ⟨v, hv, rv⟩ := hr.get' (i := i) (x := x) (by simpa using hx)
      exact ⟨v, hv, rv.mono (TK.of_keep keep)⟩
    · obtain ⟨o, ho, hc, hd⟩ := hS.1
      exact ⟨o, ho, fun e => by cases e <;> first | (cases hd; done) | (injection hc with hc; exact absurd hc (by decide)), _, hd⟩
    · rcases List.mem_cons.mp hb with e | hb
      · exact absurd e hne
      · rw [List.mem_singleton.mp hb]; exact ⟨_, keep _ _ ha⟩
  · rcases List.mem_cons.mp hb with q | hb
    · exact absurd q e
    · rw [List.mem_singleton.mp hb]; exact off

end
section
variable {c c' : Cx} {m m' : Loc} {led led' : List As} {K : F → Loc → List As → Prop}

/-- the ledger in another order, less some -/
noncomputable def SubP (led led' : List As) : Prop := ∃ d, led.Perm (led' ++ d)
theorem SubP.refl (l : List As) : SubP l l := ⟨[], by simp⟩
theorem SubP.nil (l : List As) : SubP l [] := ⟨l, by simp⟩
theorem SubP.cons {x : As} {l l1 r : List As} (s : Sel x l l1) (h : SubP l1 r) : SubP l (x :: r) :=
  let ⟨d, p⟩ := h; ⟨d, s.perm.trans (p.cons x)⟩
theorem SubP.trans {a b d : List As} (h : SubP a b) (k : SubP b d) : SubP a d := by
  obtain ⟨x, p⟩ := h; obtain ⟨y, q⟩ := k
  exact ⟨y ++ x, p.trans ((q.append_right x).trans (by rw [List.append_assoc]))⟩
theorem SubP.of_perm {a b : List As} (p : a.Perm b) : SubP a b := ⟨[], by simpa using p⟩
inductive Dn (led : List As) (p : List As → Prop) : Prop | mk (l : List As) (s : SubP led l) (h : p l) : Dn led p
inductive X2 {A B : Type} (p : A → B → Prop) : Prop | mk (a0 : A) (a1 : B) (h : p a0 a1) : X2 p
inductive X3 {A B C : Type} (p : A → B → C → Prop) : Prop | mk (a0 : A) (a1 : B) (a2 : C) (h : p a0 a1 a2) : X3 p
inductive X4 {A B C D : Type} (p : A → B → C → D → Prop) : Prop | mk (a0 : A) (a1 : B) (a2 : C) (a3 : D) (h : p a0 a1 a2 a3) : X4 p
inductive X5 {A B C D E : Type} (p : A → B → C → D → E → Prop) : Prop | mk (a0 : A) (a1 : B) (a2 : C) (a3 : D) (a4 : E) (h : p a0 a1 a2 a3 a4) : X5 p
inductive X6 {A B C D E G : Type} (p : A → B → C → D → E → G → Prop) : Prop | mk (a0 : A) (a1 : B) (a2 : C) (a3 : D) (a4 : E) (a5 : G) (h : p a0 a1 a2 a3 a4 a5) : X6 p
inductive X7 {A B C D E G H : Type} (p : A → B → C → D → E → G → H → Prop) : Prop | mk (a0 : A) (a1 : B) (a2 : C) (a3 : D) (a4 : E) (a5 : G) (a6 : H) (h : p a0 a1 a2 a3 a4 a5 a6) : X7 p
inductive X8 {A B C D E G H I : Type} (p : A → B → C → D → E → G → H → I → Prop) : Prop | mk (a0 : A) (a1 : B) (a2 : C) (a3 : D) (a4 : E) (a5 : G) (a6 : H) (a7 : I) (h : p a0 a1 a2 a3 a4 a5 a6 a7) : X8 p
inductive X9 {A B C D E G H I J : Type} (p : A → B → C → D → E → G → H → I → J → Prop) : Prop | mk (a0 : A) (a1 : B) (a2 : C) (a3 : D) (a4 : E) (a5 : G) (a6 : H) (a7 : I) (a8 : J) (h : p a0 a1 a2 a3 a4 a5 a6 a7 a8) : X9 p
theorem St.subp {T : Tmp} {h : Heap} (s : St c m led T h) (k : SubP led led') : St c m led' T h :=
  let ⟨d, p⟩ := k; (s.perm p).sub (List.sublist_append_left _ _)
theorem SP.weak {α β : Type} {R : Heap → β → α → Prop} {t : Sem α} {K : β → Loc → List As → Prop} (h : SP R c m led t fun b m' led1 => Dn led1 (K b m')) : SP R c m led t K := fun T hp tk s =>
  wpAny_mono (h T hp tk s) (fun _ _ zz => Post.go zz fun b h' tk' m' led' e s' r ⟨led2, k, z⟩ => ⟨b, h', tk', m', led2, e, s'.subp k, r, z⟩) fun _ _ x => x
theorem SP.sub {α β : Type} {R : Heap → β → α → Prop} {t : Sem α} {K : β → Loc → List As → Prop} (k : SubP led led') (h : SP R c m led' t K) : SP R c m led t K := fun T hp tk s => h T hp tk (s.subp k)

/-- while: a measure and an invariant -/
theorem s_while0 {test : Expr} {body : List Stmt} {pos : Pos} (J : Nat → Loc → List As → Prop) (n : Nat) (j0 : J n m led)
    (turn : ∀ n m led, J n m led → SB c m led test fun b m1 led1 => if b = true then SX c m1 led1 body (Turn (fun m led => ∃ n', n' < n ∧ J n' m led) K) else K .next m1 led1) :
    SS c m led (.While test body [] pos) K := fun T hp tk s => by
  refine wpAny_While (codeAny_whileLoop (fun n s' => ∃ h' tk' m' led', s' = ⟨h', c.g, c.d, tk', c.os⟩ ∧ St c m' led' T h' ∧ J n m' led') ?_ n ⟨hp, tk, m, led, rfl, s, j0⟩)
  rintro n s' ⟨h', tk', m', led', rfl, si, hJ⟩
  refine wpAny_mono (turn n m' led' hJ T h' tk' si) (fun b s2 zz => Post.go zz fun v1 h1 tk1 m1 led1 e s1' r1 k1 => ?_) fun _ _ x => x.elim
  have e1 : b = v1 := r1
  subst e e1
  cases b with
  | false => exact wpAny_execs_nil ⟨F.next, h1, tk1, m1, led1, rfl, s1', rfl, k1⟩
  | true =>
    refine wpAny_mono (k1 T h1 tk1 s1') (fun f s3 zz => Post.go zz fun fl h₃ tk₃ m₃ led₃ e s₃' rf k₃ => ?_) fun _ _ x => x.elim
    subst e
    cases fl with
    | next => rw [show f = Flow.next from rf]; obtain ⟨n', hn', hj⟩ := k₃; exact ⟨n', hn', h₃, tk₃, m₃, led₃, rfl, s₃', hj⟩
    | cont => rw [show f = Flow.cont from rf]; obtain ⟨n', hn', hj⟩ := k₃; exact ⟨n', hn', h₃, tk₃, m₃, led₃, rfl, s₃', hj⟩
    | brk => rw [show f = Flow.brk from rf]; exact ⟨F.next, h₃, tk₃, m₃, led₃, rfl, s₃', rfl, k₃⟩
    | ret u => obtain ⟨y, rfl, hy⟩ := rf; exact ⟨F.ret u, h₃, tk₃, m₃, led₃, rfl, s₃', FR.ret hy, k₃⟩

theorem s_while {test : Expr} {body : List Stmt} {pos : Pos} (J : Nat → Loc → List As → Prop) (n : Nat) (j0 : J n m led)
    (turn : ∀ n m led (KJ : Loc → List As → Prop) (KF : F → Loc → List As → Prop), (∀ m led, (∃ n', n' < n ∧ J n' m led) → KJ m led) → (∀ fl m led, K fl m led → KF fl m led) → J n m led → SB c m led test fun b m1 led1 => if b = true then SX c m1 led1 body (Turn KJ KF) else KF .next m1 led1) :
    SS c m led (.While test body [] pos) K := s_while0 J n j0 fun n m led j => turn n m led _ K (fun _ _ z => z) (fun _ _ _ z => z) j

/-- into another frame, and out of it -/
theorem St.into {T : Tmp} {h : Heap} {m0 : Loc} {mv : PySem.Str → Option Value} (s : St c m led T h) (hC : h.Ns c'.L mv) (hr : LocR h m0 mv) (keys : (m0.map (·.1)).Nodup)
    (kinds : ∀ x ∈ m0.map (·.1), c'.env.kindOf x = some .local) (hoff : c'.L ∉ addrsOf led) (hb : c'.h₀ = c.h₀) (hlow : c.h₀.objs.size ≤ c'.L) : St c' m0 led ⟨h, addrsOf led, T.t⟩ h := by
  have nd := s.nd
  rw [List.nodup_cons] at nd
  exact ⟨⟨mv, hC, hr⟩, keys, kinds, fun b o e => s.base b o (hb ▸ e), hb ▸ hlow, fun _ _ _ _ e => e, List.nodup_cons.mpr ⟨hoff, nd.2⟩, s.ok, fun a ha => ⟨hb ▸ (s.own a ha).1, .inr ha⟩, s.tmp⟩
theorem St.outof {T : Tmp} {h h' : Heap} {mv : PySem.Str → Option Value} (s : St c m led T h) (s' : St c' m' led' ⟨h, addrsOf led, T.t⟩ h') (hC : h.Ns c'.L mv) (hne : c'.L ≠ c.L) (hoff : c'.L ∉ addrsOf led) (hb : c'.h₀ = c.h₀)
    (hT : T.hE.get? c'.L = none ∨ c'.L ∈ T.W) : St c m led' T h' := by
  have nd := s.nd
  rw [List.nodup_cons] at nd
  have nd' := s'.nd
  rw [List.nodup_cons] at nd'
  have tk : TK h h' := fun a o i e => by
    refine s'.ext a _ (fun q => ?_) (fun q => ?_) e
    · obtain ⟨o, ho, hno⟩ := ns_notTup hC
      rw [← q, e] at ho
      cases ho
      exact hno i
    · exact (s.tup_off e i).2 q
  obtain ⟨mv₀, hn, hr⟩ := s.ns
  have hLat : ∀ o, h.get? c.L = some o → h'.get? c.L = some o := fun o e => s'.ext _ _ (Ne.symm hne) nd.1 e
  refine ⟨⟨mv₀, hn.at' hLat, hr.mono tk⟩, s.keys, s.kinds, fun b o e => s'.base b o (hb ▸ e), s.low, fun b o e1 e2 e3 => s'.ext b o (fun q => ?_) (fun q => ?_) (s.ext b o e1 e2 e3), ?_, s'.ok, fun a ha => ⟨hb ▸ (s'.own a ha).1, ?_⟩, s'.tmp⟩
  · subst q
    rcases hT with z | z
    · rw [z] at e3; cases e3
    · exact e2 z
  · rcases (s.own b q).2 with z | z
    · rw [z] at e3; cases e3
    · exact e2 z
  · refine List.nodup_cons.mpr ⟨fun q => ?_, nd'.2⟩
    rcases (s'.own _ q).2 with z | z
    · obtain ⟨o, ho, _⟩ := ns_notTup hn
      rw [ho] at z; cases z
    · exact nd.1 z
  · rcases (s'.own a ha).2 with z | z
    · refine s.fresh z (fun e => ?_) |>.2
      obtain ⟨o, ho, _⟩ := ns_notTup hn
      subst e
      rw [ho] at z; cases z
    · exact (s.own a z).2

/-- a frame that nobody has a hand in -/
structure Off (c : Cx) (led : List As) (T : Tmp) (C : Addr) : Prop where
  ne : C ≠ c.L
  off : C ∉ addrsOf led
  h0 : c.h₀.get? C = none
  hE : T.hE.get? C = none ∨ C ∈ T.W
theorem St.off_at {T : Tmp} {h : Heap} (s : St c m led T h) {C : Addr} (hC : h.get? C = none) : Off c led T C := by
  have hne : C ≠ c.L := fun e => by
    obtain ⟨mv, hn, _⟩ := s.ns
    obtain ⟨o, ho, _⟩ := ns_notTup hn
    rw [← e, hC] at ho; cases ho
  have f := s.fresh hC hne
  refine ⟨hne, fun q => ?_, f.1, f.2⟩
  obtain ⟨x, hx, hax⟩ := List.mem_flatMap.mp q
  obtain ⟨o, ho, _⟩ := (s.ok x hx).get C hax
  rw [hC] at ho; cases ho
theorem St.same {T : Tmp} {h h' : Heap} {C : Addr} {mv : PySem.Str → Option Value} (s : St c m led T h) (f : Off c led T C) (hn : h.Ns C mv) (hs : Heap.SameBut C h h') : St c m led T h' := by
  obtain ⟨o, ho, hno⟩ := ns_notTup hn
  have tk := tk_of_same hs ho hno
  obtain ⟨mv₀, hn₀, hr⟩ := s.ns
  refine ⟨⟨mv₀, hn₀.sameBut hs (Ne.symm f.ne), hr.mono tk⟩, s.keys, s.kinds, fun b o e => ?_, s.low, fun b o e1 e2 e3 => ?_, s.nd, fun x hx => ?_, s.own, s.tmp.mono tk⟩
  · rw [hs.2 b (fun q => by rw [q, f.h0] at e; cases e)]; exact s.base b o e
  · rw [hs.2 b (fun q => by
      subst q
      rcases f.hE with z | z
      · rw [z] at e3; cases e3
      · exact e2 z)]
    exact s.ext b o e1 e2 e3
  · refine (s.ok x hx).mono tk fun a ha o e => ?_
    rw [hs.2 a (fun q => f.off (List.mem_flatMap.mpr ⟨x, hx, q ▸ ha⟩))]; exact e

/-- a call of a def: its body within a frame of its own -/
noncomputable def PN {α β : Type} (R : Heap → β → α → Prop) (c : Cx) (m : Loc) (led : List As) (f : List Value → Sem α) (vs : List V) (K : β → Loc → List As → Prop) : Prop :=
  ∀ xs T h tk, St c m led T h → VRs h vs xs → wpAny c.M c.A (f xs) (Post R c T K) NoE ⟨h, c.g, c.d, tk, c.os⟩

theorem St.unsels : ∀ {rest pre led' : List As} {T : Tmp} {h h' : Heap}, St c m (rest ++ pre) T h → St c m' led' ⟨h, addrsOf pre, T.t⟩ h' → St c m' (rest ++ led') T h'
  | [], pre, led', T, h, h', s, s' => s.back s'
  | x :: r, pre, led', T, h, h', s, s' => by
    have s1 : St c m (r ++ pre) ⟨h, addrsOf (r ++ pre), T.t⟩ h := (s.sub (List.sublist_cons_self _ _)).rebase _ fun _ q => q
    exact s.unsel (St.unsels s1 s')
/-- what a call needs not see stands as it stood -/
theorem PN.frame {α β : Type} {R : Heap → β → α → Prop} {f : List Value → Sem α} {vs : List V} {K : β → Loc → List As → Prop} {rest pre : List As} (p : led.Perm (rest ++ pre))
    (h : PN R c m pre f vs fun b m' led' => K b m' (rest ++ led')) : PN R c m led f vs K := fun xs T hp tk s r => by
  have s1 := s.perm p
  refine wpAny_mono (h xs _ hp tk ((s1.sub (List.sublist_append_right _ _)).rebase (addrsOf pre) fun _ q => q) r) (fun a s' zz => Post.go zz fun b h' tk' m' led' e s' r k => ?_) fun _ _ x => x
  exact ⟨b, h', tk', m', rest ++ led', e, s1.unsels s', r, k⟩
theorem PN.mono {α β : Type} {R : Heap → β → α → Prop} {f : List Value → Sem α} {vs : List V} {K K' : β → Loc → List As → Prop} (h : PN R c m led f vs K) (k : ∀ b m' led', K b m' led' → K' b m' led') : PN R c m led f vs K' := fun xs T hp tk s r =>
  wpAny_mono (h xs T hp tk s r) (fun _ _ zz => Post.go zz fun b h' tk' m' led' e s' r z => ⟨b, h', tk', m', led', e, s', r, k _ _ _ z⟩) fun _ _ x => x

/-- what a call of f with vs answers -/
noncomputable def Calls (c : Cx) (f : Value) (vs : List V) (led : List As) (K : V → List As → Prop) : Prop :=
  ∀ m xs T h tk, St c m led T h → VRs h vs xs → codeAny c.M c.A (.call f ⟨xs, []⟩) (fun r s' => match r with | .ok (.ret a) => Post VR c T (fun v m' led' => m' = m ∧ K v led') a s' | _ => False) ⟨h, c.g, c.d, tk, c.os⟩
theorem Calls.pn {f : Value} {vs : List V} {K : V → List As → Prop} (h : Calls c f vs led K) (m : Loc) : PN VR c m led (fun xs => call f xs) vs fun v m' led' => m' = m ∧ K v led' := fun xs T hp tk s r =>
  wpAny_call (codeAny_mono (h m xs T hp tk s r) fun r s' z => by
    rcases r with e | (v | _ | _ | _) <;> first | exact z | exact z.elim)
theorem Calls.use {f : Value} {vs : List V} {K : V → List As → Prop} {K' : V → Loc → List As → Prop} {rest pre : List As} (h : Calls c f vs pre K) (p : led.Perm (rest ++ pre)) (k : ∀ v led', K v led' → K' v m (rest ++ led')) :
    PN VR c m led (fun xs => call f xs) vs K' := PN.frame p ((h.pn m).mono fun v m' led' ⟨e, z⟩ => by subst e; exact k v led' z)

theorem VRs.back {h : Heap} : ∀ {vs : List V} {xs : List Value}, vs.length = xs.length → (∀ p ∈ vs.zip xs, VR h p.1 p.2) → VRs h vs xs
  | [], [], _, _ => .nil
  | v :: vs, x :: xs, e, r => .cons (r (v, x) (.head _)) (VRs.back (by simpa using e) fun p hp => r p (.tail _ hp))
theorem VRs.pairs {h : Heap} : ∀ {vs : List V} {xs : List Value}, VRs h vs xs → ∀ p ∈ vs.zip xs, VR h p.1 p.2
  | [], [], _, p, hp => by cases hp
  | v :: vs, x :: xs, r, p, hp => by
    simp only [VRs] at r
    rcases List.mem_cons.mp hp with rfl | hp
    · exact r.1
    · exact VRs.pairs r.2 p hp
  | [], _ :: _, r, _, _ => by simp only [VRs] at r
  | _ :: _, [], r, _, _ => by simp only [VRs] at r
noncomputable abbrev Tmp.pre (T : Tmp) (vs : List V) (xs : List Value) : Tmp := ⟨T.hE, T.W, vs.zip xs ++ T.t⟩
theorem St.pre {T : Tmp} {h : Heap} {vs : List V} {xs : List Value} (s : St c m led T h) (r : VRs h vs xs) : St c m led (T.pre vs xs) h :=
  s.withTmp (hE := T.hE) (W := T.W) fun p hp => (List.mem_append.mp hp).elim (r.pairs p) (s.tmp p)
theorem St.unpre {T : Tmp} {h : Heap} {vs : List V} {xs : List Value} (s : St c m led (T.pre vs xs) h) (e : vs.length = xs.length) : VRs h vs xs ∧ St c m led T h :=
  ⟨VRs.back e fun p hp => s.tmp p (List.mem_append_left _ hp), s.withTmp (hE := T.hE) (W := T.W) fun p hp => s.tmp p (List.mem_append_right _ hp)⟩

/-- the arguments of a call -/
noncomputable abbrev SA (c : Cx) (m : Loc) (led : List As) (pos : Pos) (args : List Expr) (K : List V → Loc → List As → Prop) : Prop := SP VRs c m led (spliced (backTo pos (starEach args c.env))) K
theorem sa_nil {pos : Pos} {K : List V → Loc → List As → Prop} (h : K [] m led) : SA c m led pos [] K := fun T hp tk s => spliced_none (post_here s VRs.nil h)
noncomputable abbrev KSa2 (K : List V → Loc → List As → Prop) (v : V) (vs : List V) (m : Loc) (led : List As) : Prop := K (v :: vs) m led
noncomputable abbrev KSa1 (c : Cx) (pos : Pos) (rest : List Expr) (K : List V → Loc → List As → Prop) (v : V) (m : Loc) (led : List As) : Prop := SA c m led pos rest (KSa2 K v)
theorem sa_cons {pos : Pos} {e : Expr} {rest : List Expr} {K : List V → Loc → List As → Prop} (h : SE c m led e (KSa1 c pos rest K))
    (he : starEach (e :: rest) c.env = (false, eval e c.env) :: starEach rest c.env := by rfl) : SA c m led pos (e :: rest) K := fun T hp tk s =>
  spliced_more (wpAny_mono (h T hp tk s) (fun a s1 zz => Post.go zz fun v1 h1 tk1 m1 led1 e s1' r1 k1 => by
    subst e
    refine wpAny_mono (k1 (T.cons v1 a) h1 tk1 (s1'.cons r1)) (fun b s2 zz => Post.go zz fun v2 h2 tk2 m2 led2 e s2' r2 k2 => ?_) fun _ _ x => x
    subst e
    exact post_here s2'.tail (VRs.cons s2'.head r2) k2) fun _ _ x => x) he

/-- a callee with its first arguments, and the others yet to come -/
noncomputable def CW (c : Cx) (m : Loc) (led : List As) (pos : Pos) (f : Value) (args : List Expr) (first : List V) (K : V → Loc → List As → Prop) : Prop :=
  ∀ xs T h tk, St c m led T h → VRs h first xs → wpAny c.M c.A (callWith pos f xs (backTo pos (starEach args c.env)) []) (Post VR c T K) NoE ⟨h, c.g, c.d, tk, c.os⟩
noncomputable abbrev KPN (c : Cx) (f : Value) (first : List V) (K : V → Loc → List As → Prop) (vs : List V) (m : Loc) (led : List As) : Prop := PN VR c m led (fun ys => call f ys) (first ++ vs) K
noncomputable def KC1 (c : Cx) (pos : Pos) (args : List Expr) (K : V → Loc → List As → Prop) : V → Loc → List As → Prop
  | .glob f, m, led => CW c m led pos f args [] K
  | _, _, _ => False
section
variable {pos : Pos} {e : Expr} {rest args : List Expr} {first : List V} {K : V → Loc → List As → Prop}

theorem sa_run {f : Value} {first : List V} {xs : List Value} {T : Tmp} {h : Heap} {tk : Nat} (s : St c m led T h) (r : VRs h first xs)
    (k : SA c m led pos args (KPN c f first K)) :
    wpAny c.M c.A (spliced (backTo pos (starEach args c.env))) (fun ys s₁ => (∀ b o, c.h₀.get? b = some o → s₁.heap.get? b = some o) ∧ wpAny c.M c.A (call f (xs ++ ys)) (Post VR c T K) NoE s₁) NoE ⟨h, c.g, c.d, tk, c.os⟩ := by
  refine wpAny_mono (k (T.pre first xs) h tk (s.pre r)) (fun b s2 zz => Post.go zz fun v2 h2 tk2 m2 led2 e s2' r2 k2 => ?_) fun _ _ x => x
  subst e
  have u := s2'.unpre r.length
  exact ⟨u.2.base, k2 (xs ++ b) T h2 tk2 u.2 (u.1.append r2)⟩

theorem cw_builtin {id : String} (k : SA c m led pos (e :: rest) (KPN c (.builtin id) first K))
    (he : starEach (e :: rest) c.env = (false, eval e c.env) :: starEach rest c.env := by rfl)
    (hplain : (backTo pos (starEach rest c.env)).any (·.1) = false := by rfl) : CW c m led pos (.builtin id) (e :: rest) first K := fun xs T h tk s r => by
  have k := sa_run (tk := tk) s r k
  rw [he] at k ⊢
  exact Calls.callWith_builtin (by show (false || (backTo pos (starEach rest c.env)).any (·.1)) = false; rw [hplain]; rfl) (Calls.evalArgs_plain (wpAny_mono k (fun _ _ z => by rw [show _ ++ _ = _ from rfl]; exact z.2) fun _ _ x => x))
theorem cw_type {id : String} (k : SA c m led pos (e :: rest) (KPN c (.type id) first K))
    (he : starEach (e :: rest) c.env = (false, eval e c.env) :: starEach rest c.env := by rfl)
    (hplain : (backTo pos (starEach rest c.env)).any (·.1) = false := by rfl) : CW c m led pos (.type id) (e :: rest) first K := fun xs T h tk s r => by
  have k := sa_run (tk := tk) s r k
  rw [he] at k ⊢
  exact PyProof.Rows.callWith_type (by show (false || (backTo pos (starEach rest c.env)).any (·.1)) = false; rw [hplain]; rfl) (Calls.evalArgs_plain (wpAny_mono k (fun _ _ z => by rw [show _ ++ _ = _ from rfl]; exact z.2) fun _ _ x => x))
theorem cw_K {Kf : PySem.W.Frag} {f : Value} (X : Kf.In c.h₀) (hk : keepIn Kf f = true) (k : SA c m led pos (e :: rest) (KPN c f first K))
    (he : starEach (e :: rest) c.env = (false, eval e c.env) :: starEach rest c.env := by rfl)
    (hplain : (backTo pos (starEach rest c.env)).any (·.1) = false := by rfl) : CW c m led pos f (e :: rest) first K := fun xs T h tk s r =>
  callWith_K X hk (wpAny_mono (sa_run (tk := tk) s r k) (fun _ _ z => ⟨X.keeps z.1, z.2⟩) fun _ _ x => x) he hplain
theorem cw_K0 {Kf : PySem.W.Frag} {f : Value} (X : Kf.In c.h₀) (hk : keepIn Kf f = true) (k : PN VR c m led (fun ys => call f ys) first K) : CW c m led pos f [] first K := fun xs T h tk s r =>
  callWith_K0 (X.keeps s.base) hk (by rw [List.append_nil]; exact k xs T h tk s r)

theorem e_call {func : Expr} (h : SE c m led func (KC1 c pos args K))
    (he : eval (.Call func args [] pos) c.env = (do callWith pos (← eval func c.env) [] (backTo pos (starEach args c.env)) (backToKw pos (keywordEach [] c.env))) := by rfl) : SE c m led (.Call func args [] pos) K := fun T hp tk s =>
  Call_ (wpAny_mono (h T hp tk s) (fun a s1 zz => Post.go zz fun v1 h1 tk1 m1 led1 e s1' r1 k1 => by
    cases v1 with
    | glob f => _
    | _ => exact k1.elim
    subst e
    rw [r1.go]
    exact k1 [] T h1 tk1 s1' .nil) fun _ _ x => x) he

/-- a method: the callee and what goes ahead -/
noncomputable def GM (c : Cx) (m : Loc) (led : List As) (name : PySem.Str) (pl : Sem Bool) (v : V) (K : Value → List V → Prop) : Prop :=
  ∀ x T h tk, St c m led T h → VR h v x → wpAny c.M c.A (getMethod x name pl) (fun fx s₁ => ∃ tk' first, s₁ = ⟨h, c.g, c.d, tk', c.os⟩ ∧ VRs h first fx.2 ∧ K fx.1 first) NoE ⟨h, c.g, c.d, tk, c.os⟩
noncomputable abbrev KM2 (c : Cx) (pos : Pos) (args : List Expr) (K : V → Loc → List As → Prop) (m : Loc) (led : List As) (f : Value) (first : List V) : Prop := CW c m led pos f args first K
noncomputable abbrev KM1 (c : Cx) (name : PySem.Str) (pl : Sem Bool) (pos : Pos) (args : List Expr) (K : V → Loc → List As → Prop) (v : V) (m : Loc) (led : List As) : Prop := GM c m led name pl v (KM2 c pos args K m led)
theorem e_method {o : Expr} {name : PySem.Str} {apos : Pos} {pl : Sem Bool} (h : SE c m led o (KM1 c name pl pos args K))
    (he : eval (.Call (.Attribute o name apos) args [] pos) c.env = (do
      let ov ← eval o c.env
      standAt apos.atName
      let (f, first) ← holding [ov] (getMethod ov name pl)
      callWith pos f first (backTo pos (starEach args c.env)) []) := by rfl) : SE c m led (.Call (.Attribute o name apos) args [] pos) K := fun T hp tk s =>
  MethodCall_ (wpAny_mono (h T hp tk s) (fun a s1 zz => Post.go zz fun v1 h1 tk1 m1 led1 e s1' r1 k1 => by
    subst e
    refine wpAny_mono (k1 a T h1 tk1 s1' r1) (fun fx s2 ⟨tk', first, e, rf, k2⟩ => ?_) fun _ _ x => x
    subst e
    exact k2 fx.2 T h1 tk' s1' rf) fun _ _ x => x) he
end
end
/-- what holds of every frame here -/
structure Ok (c : Cx) (Kf : PySem.W.Frag) (k : Nat) : Prop where
  X : Kf.In c.h₀
  hh : c.A.handled = none
  dp : c.A.depth + k ≤ 990
  un : c.A.units + 4 * k ≤ 8000
  nl : c.h₀.NoLimit
  bt : ∃ mb, c.h₀.Ns builtinsNs mb ∧ ∀ x : PySem.Str, x ≠ "__name__" → mb x = bootBuiltins x
  gl : c.env.globals = mainGlobals
  bu : c.env.builtins = builtinsNs
  kf : c.env.scope.kind = .function
  pl : Builtin.pylongFrames < 0 ∨ True

section
variable {c c' : Cx} {m m' : Loc} {led led' : List As} {K : V → Loc → List As → Prop} {Kf : PySem.W.Frag} {k : Nat}


theorem e_glob {x : PySem.Str} {pos : Pos} {v : Value} (o : Ok c Kf k) (hx : c.env.kindOf x = some .globalImplicit) (hn : nsIn Kf mainGlobals x = some (some v)) (h : K (.glob v) m led)
    (hd : (x == ("__debug__" : PySem.Str)) = false := by decide) : SE c m led (.Name x pos) K := fun T hp tk s => by
  refine Calls.Name_function_global o.kf hx ?_ hd
  unfold loadGlobal
  rw [o.gl]
  refine wpAny_bind ((looks_nsIn (M := c.M) (o.X.keeps s.base) hn).here ?_)
  exact wpAny_pure (post_here s VR.g h)
theorem e_globi {x : PySem.Str} {pos : Pos} {i : Int} {t : Tok} (o : Ok c Kf k) (hx : c.env.kindOf x = some .globalImplicit) (hn : nsIn Kf mainGlobals x = some (some (.int i t))) (h : K (.int i) m led)
    (hd : (x == ("__debug__" : PySem.Str)) = false := by decide) : SE c m led (.Name x pos) K := fun T hp tk s => by
  refine Calls.Name_function_global o.kf hx ?_ hd
  unfold loadGlobal
  rw [o.gl]
  refine wpAny_bind ((looks_nsIn (M := c.M) (o.X.keeps s.base) hn).here ?_)
  exact wpAny_pure (post_here s VR.i h)
theorem e_boot {x : PySem.Str} {pos : Pos} {v : Value} (o : Ok c Kf k) (hx : c.env.kindOf x = some .globalImplicit) (hn : nsIn Kf mainGlobals x = some none) (hb : bootBuiltins x = some v) (h : K (.glob v) m led)
    (hd : (x == ("__debug__" : PySem.Str)) = false := by decide) (hm : x ≠ ("__name__" : PySem.Str) := by decide) : SE c m led (.Name x pos) K := fun T hp tk s => by
  refine Calls.Name_function_global o.kf hx ?_ hd
  unfold loadGlobal
  rw [o.gl, o.bu]
  refine wpAny_bind ((looks_nsIn (M := c.M) (o.X.keeps s.base) hn).here ?_)
  obtain ⟨mb, hmb, hmx⟩ := o.bt
  refine wpAny_bind (wpAny_nsGet (hmb.keeps s.base) ?_)
  rw [hmx x hm, hb]
  exact wpAny_pure (post_here s VR.g h)
theorem e_cell {x : PySem.Str} {pos : Pos} {v : V} {a : Addr} (o : Ok c Kf k) (g : MemA (.cel a (some v)) led) (hc : c.env.cells.lookup x = some a) (hx : c.env.kindOf x = some .cell) (h : K v m led)
    (hd : (x == ("__debug__" : PySem.Str)) = false := by decide) : SE c m led (.Name x pos) K := fun T hp tk s => by
  obtain ⟨y, hy, r⟩ := s.ok _ g.mem
  cases y with
  | none => exact r.elim
  | some y => exact wpAny_Name (wpAny_loadName_cell o.kf hx hc hy (post_here s r h)) hd

/-- the frame of a callee -/
noncomputable abbrev Cx.deep (c : Cx) (env : Env) : Cx := { c with A := c.A.deeper env, env := env }
theorem Ok.deep {env : Env} (o : Ok c Kf (k + 1)) (g : env.globals = mainGlobals) (b : env.builtins = builtinsNs) (kf : env.scope.kind = .function) : Ok (c.deep env) Kf k :=
  ⟨o.X, o.hh, by have := o.dp; show c.A.depth + 1 + k ≤ 990; (first | lia | omega), by have := o.un; show c.A.units + 3 + 4 * k ≤ 8000; (first | lia | omega), o.nl, o.bt, g, b, kf, o.pl⟩

/-- what a body gives back -/
noncomputable def Ret (K : V → List As → Prop) : F → Loc → List As → Prop
  | .ret v, _, led => Dn led (K v)
  | .next, _, led => Dn led (K .none)
  | _, _, _ => False

theorem mem_lookup {α : Type} {x : PySem.Str} {v : α} : ∀ {m : List (PySem.Str × α)}, (m.map (·.1)).Nodup → (x, v) ∈ m → m.lookup x = some v
  | [], _, h => nomatch h
  | (y, u) :: r, nd, h => by
    rw [List.map_cons, List.nodup_cons] at nd
    rw [List.lookup_cons]
    rcases List.mem_cons.mp h with e | h2
    · obtain ⟨e1, e2⟩ := Prod.mk.inj e
      rw [e1, e2]; simp
    · have : (x == y) = false := by
        rw [beq_eq_false_iff_ne]; rintro rfl
        exact nd.1 (List.mem_map.mpr ⟨_, h2, rfl⟩)
      rw [this]; exact mem_lookup nd.2 h2
theorem lookup_none {α : Type} {x : PySem.Str} : ∀ {m : List (PySem.Str × α)}, x ∉ m.map (·.1) → m.lookup x = none
  | [], _ => rfl
  | (y, u) :: r, h => by
    rw [List.map_cons] at h
    have : (x == y) = false := beq_eq_false_iff_ne.mpr fun e => h (e ▸ .head _)
    rw [List.lookup_cons, this]
    exact lookup_none fun q => h (.tail _ q)

/-- parameters, their values, and the other locals -/
noncomputable def bindLoc (ps : List PySem.Str) (vs : List V) (others : List PySem.Str) : Loc := (ps.zip vs).map (fun p => (p.1, some p.2)) ++ others.map fun y => (y, none)
theorem bindLoc_ok {h : Heap} : ∀ {ps : List PySem.Str} {vs : List V} {xs : List Value} {others : List PySem.Str}, ps.length = vs.length → (ps ++ others).Nodup → VRs h vs xs → ∀ y, OR h (look (bindLoc ps vs others) y) ((ps.zip xs).lookup y)
  | [], [], [], others, _, nd, _, y => by
    show OR h (look (others.map fun y => (y, none)) y) none
    have : look (others.map fun y => (y, (none : Option V))) y = none := by
      unfold look
      cases q : (others.map fun y => (y, (none : Option V))).lookup y with
      | none => rfl
      | some z =>
        have := PySem.mem_of_lookup q
        obtain ⟨_, _, e⟩ := List.mem_map.mp this
        cases e; rfl
    rw [this]; trivial
  | p :: ps, v :: vs, x :: xs, others, hl, nd, r, y => by
    simp only [VRs] at r
    rw [List.cons_append, List.nodup_cons] at nd
    show OR h (List.lookup y ((p, some v) :: bindLoc ps vs others)).join (List.lookup y ((p, x) :: ps.zip xs))
    rw [List.lookup_cons, List.lookup_cons]
    cases q : y == p with
    | true => exact r.1
    | false => exact bindLoc_ok (by simpa using hl) nd.2 r.2 y
  | [], _ :: _, _, _, hl, _, _, _ => by simp at hl
  | _ :: _, [], _, _, hl, _, _, _ => by simp at hl
  | [], [], _ :: _, _, _, _, r, _ => by simp only [VRs] at r
  | _ :: _, _ :: _, [], _, _, _, r, _ => by simp only [VRs] at r
theorem bindLoc_keys {ps : List PySem.Str} {vs : List V} {others : List PySem.Str} (h : ps.length = vs.length) : (bindLoc ps vs others).map (·.1) = ps ++ others := by
  unfold bindLoc
  rw [List.map_append, List.map_map, List.map_map]
  congr 1
  · show ((ps.zip vs).map (·.1)) = ps
    exact List.map_fst_zip (by (first | lia | omega))
  · show others.map (fun y => y) = others
    simp
theorem reverse_lookup {xs : List (PySem.Str × Value)} (nd : (xs.map (·.1)).Nodup) (y : PySem.Str) : xs.reverse.lookup y = xs.lookup y := by
  cases q : xs.lookup y with
  | some v =>
    exact mem_lookup (by rw [List.map_reverse]; exact List.pairwise_reverse.mpr (nd.imp fun q => Ne.symm q)) (List.mem_reverse.mpr (PySem.mem_of_lookup q))
  | none =>
    refine lookup_none fun z => ?_
    rw [List.map_reverse, List.mem_reverse] at z
    obtain ⟨p, hp, e⟩ := List.mem_map.mp z
    have := mem_lookup nd (x := p.1) (v := p.2) hp
    rw [e, q] at this; cases this

/-- a call of a def whose names are all its frame's own -/
theorem calls_def {fa : Addr} {fd : FuncData} {ob : Obj} {body : List Stmt} {ps others : List PySem.Str} {vs : List V} {K : V → List As → Prop} (o : Ok c Kf (k + 1))
    (hl : Kf.lookup fa = some ob) (hdata : ob.data = .func fd) (hcd : c.h₀.CodeRec fd.code fd.qualname) (hbody : fd.body = .stmts body)
    (hbind : ∀ xs : List Value, xs.length = ps.length → ∀ h : Heap, (∀ b o, c.h₀.get? b = some o → h.get? b = some o) → ∀ tk, BindsTo ⟨h, c.g, c.d, tk, c.os⟩ fd ⟨xs, []⟩ (ps.zip xs))
    (hcell : ∀ x ∈ fd.scope.names, x.2 ≠ .cell) (hn : ps.length = vs.length) (nd : (ps ++ others).Nodup) (hloc : ∀ x ∈ ps ++ others, fd.scope.names.lookup x = some .local)
    (hg : fd.globals = mainGlobals) (hbu : fd.builtins = builtinsNs) (hk : fd.scope.kind = .function) (hco : fd.scope.isCoroutine = false) (hgen : fd.scope.isGenerator = false)
    (h : ∀ L, SX (c.deep (callEnv fd L fa)) (bindLoc ps vs others) led body (Ret K)) : Calls c (.ref fa) vs led K := fun m xs T hp tk s r => by
  have hlen : xs.length = ps.length := by rw [hn, r.length]
  have ndp : ((ps.zip xs).map (·.1)).Nodup := by
    rw [List.map_fst_zip (by (first | lia | omega))]
    exact (List.nodup_append.mp nd).1
  refine (codeAny_call_def (binds := ps.zip xs) (show c.A.depth < 1000 by have := o.dp; (first | lia | omega)) (s.base _ _ (o.X _ _ hl)) hdata (o.nl.keeps s.base) (hcd.keeps s.base) hbody (hbind xs hlen hp s.base tk) hcell (fun x hx => hloc _ ?_) ?_ hco hgen hk)
  · exact List.mem_append_left _ (List.mem_map.mpr ⟨x, hx, rfl⟩ |> fun z => by rw [List.map_fst_zip (by (first | lia | omega))] at z; exact z)
  · intro h₁ hns keep
    have s1 := s.keep keep
    have hLn : hp.get? hp.objs.size = none := get_none_of_ge (Nat.le_refl _)
    have off := s.off_at hLn
    have e : (fun y => (ps.zip xs).reverse.lookup y) = fun y => (ps.zip xs).lookup y := funext fun y => reverse_lookup ndp y
    rw [e] at hns
    have tkp := TK.of_keep keep
    have s2 : St (c.deep (callEnv fd hp.objs.size fa)) (bindLoc ps vs others) led ⟨h₁, addrsOf led, T.t⟩ h₁ :=
      s1.into (c' := c.deep (callEnv fd hp.objs.size fa)) hns (fun y => bindLoc_ok hn nd (r.mono tkp) y) (by rw [bindLoc_keys hn]; exact nd)
        (fun x hx => by rw [bindLoc_keys hn] at hx; exact hloc x hx) off.off rfl (Nat.le_trans s.low (Nat.le_of_lt s.Llt))
    have run := h hp.objs.size _ h₁ (tk + (ps.zip xs).length) s2
    refine wpAny_mono run (fun f s' zz => Post.go zz fun fl h' tk' m' led' e s3 rf kk => ?_) fun _ _ x => x.elim
    subst e
    have s4 := s1.outof s3 hns off.ne off.off rfl off.hE
    cases fl with
    | next => obtain ⟨led2, sp, kk⟩ := kk; rw [show f = Flow.next from rf]; exact ⟨.none, h', tk', m, led2, rfl, s4.subp sp, VR.n, rfl, kk⟩
    | ret v => obtain ⟨led2, sp, kk⟩ := kk; obtain ⟨y, rfl, hy⟩ := rf; exact ⟨v, h', tk', m, led2, rfl, s4.subp sp, hy, rfl, kk⟩
    | brk => exact kk.elim
    | cont => exact kk.elim
end
section
variable {c c' : Cx} {m m' : Loc} {led led' : List As} {K : V → Loc → List As → Prop} {Kf : PySem.W.Frag} {k : Nat}

noncomputable def setAllL (kd : PySem.Str → Option NameKind) : List (PySem.Str × V) → Loc → Loc
  | [], m => m
  | (p, v) :: r, m => setAllL kd r (if kd p = some .local then m.map (fun q => if q.1 = p then (p, some v) else q) else m)
theorem map_set_keys {p : PySem.Str} {v : V} (m : Loc) : (m.map (fun q => if q.1 = p then (p, some v) else q)).map (·.1) = m.map (·.1) := by
  induction m with
  | nil => rfl
  | cons q r ih =>
    rw [List.map_cons, List.map_cons, List.map_cons, ih]
    congr 1
    split
    · rename_i e; exact e.symm
    · rfl
theorem look_map_set {p : PySem.Str} {v : V} : ∀ {m : Loc}, (m.map (·.1)).Nodup → p ∈ m.map (·.1) → ∀ y, look (m.map (fun q => if q.1 = p then (p, some v) else q)) y = if y = p then some v else look m y
  | [], _, h, _ => nomatch h
  | (q, u) :: r, nd, h, y => by
    rw [List.map_cons] at nd h
    rw [List.map_cons]
    unfold look
    by_cases e : q = p
    · subst e
      rw [if_pos rfl, List.lookup_cons, List.lookup_cons]
      by_cases e' : y = q
      · subst e'; simp
      · have : (y == q) = false := beq_eq_false_iff_ne.mpr e'
        rw [this, if_neg e']
        have : r.map (fun q' : PySem.Str × Option V => if q'.1 = q then (q, some v) else q') = r := by
          conv => rhs; rw [← List.map_id r]
          refine List.map_congr_left fun z hz => ?_
          rw [if_neg]; rfl
          rintro rfl
          exact (List.nodup_cons.mp nd).1 (List.mem_map.mpr ⟨z, hz, rfl⟩)
        dsimp only
        rw [this]
    · rw [if_neg (show ¬ (q, u).1 = p from e), List.lookup_cons, List.lookup_cons]
      by_cases e' : y = q
      · subst e'; simp [e]
      · have : (y == q) = false := beq_eq_false_iff_ne.mpr e'
        rw [this]
        exact look_map_set (List.nodup_cons.mp nd).2 ((List.mem_cons.mp h).resolve_left fun z => e z.symm) y
theorem bindL_run {h : Heap} {kd : PySem.Str → Option NameKind} : ∀ {ps : List PySem.Str} {vs : List V} {xs : List Value}, VRs h vs xs → ∀ {m : Loc} {mv : PySem.Str → Option Value}, LocR h m mv → (m.map (·.1)).Nodup →
    (∀ p ∈ ps, kd p = some .local → p ∈ m.map (·.1)) → LocR h (setAllL kd (ps.zip vs) m) (bindL kd (ps.zip xs) mv) ∧ (setAllL kd (ps.zip vs) m).map (·.1) = m.map (·.1)
  | [], vs, xs, _, m, mv, r, nd, hk => by simp only [List.zip_nil_left, setAllL, bindL]; exact ⟨r, trivial⟩
  | p :: ps, [], [], _, m, mv, r, nd, hk => ⟨r, rfl⟩
  | p :: ps, v :: vs, x :: xs, q, m, mv, r, nd, hk => by
    simp only [VRs] at q
    simp only [List.zip_cons_cons, setAllL, bindL]
    by_cases e : kd p = some .local
    · simp only [if_pos e]
      have hm := hk p (.head _) e
      have := bindL_run (kd := kd) (ps := ps) q.2 (m := m.map (fun q => if q.1 = p then (p, some v) else q)) (mv := fun y => if y = p then some x else mv y) (fun y => by
        rw [look_map_set nd hm y]
        show OR h _ (if y = p then some x else mv y)
        by_cases e' : y = p
        · rw [if_pos e', if_pos e']; exact q.1
        · rw [if_neg e', if_neg e']; exact r y) (by rw [map_set_keys]; exact nd) (fun p' hp' he => by rw [map_set_keys]; exact hk p' (.tail _ hp') he)
      refine ⟨this.1, this.2.trans (map_set_keys m)⟩
    · simp only [if_neg e]
      exact bindL_run q.2 r nd fun p' hp' he => hk p' (.tail _ hp') he
  | _ :: _, [], _ :: _, q, _, _, _, _, _ => by simp only [VRs] at q
  | _ :: _, _ :: _, [], q, _, _, _, _, _ => by simp only [VRs] at q

/-- a call of a def one of whose parameters is a cell -/
theorem calls_cell {fa : Addr} {fd : FuncData} {ob : Obj} {body : List Stmt} {ps lo : List PySem.Str} {x : PySem.Str} {i : Nat} {v : V} {vs : List V} {m0 : Loc} {K : V → List As → Prop} (o : Ok c Kf (k + 1))
    (hl : Kf.lookup fa = some ob) (hdata : ob.data = .func fd) (hcd : c.h₀.CodeRec fd.code fd.qualname) (hbody : fd.body = .stmts body)
    (hbind : ∀ xs : List Value, xs.length = ps.length → bindArgs fd ⟨xs, []⟩ = pure (ps.zip xs)) (hclo : fd.closure = [])
    (hcells : ∀ n, cellsFrom n fd.scope.names [] = [(x, n)]) (hv : vs[i]? = some v)
    (hC : ∀ xs : List Value, xs.length = ps.length → bindC (fun y => fd.scope.names.lookup y) (ps.zip xs) (fun _ => none) x = xs[i]?)
    (hn : ps.length = vs.length) (nd : lo.Nodup) (hloc : ∀ y ∈ lo, fd.scope.names.lookup y = some .local)
    (hps : ∀ y ∈ ps, (fd.scope.names.lookup y = some .local ∧ y ∈ lo) ∨ (fd.scope.names.lookup y = some .cell ∧ y = x))
    (hm0 : setAllL (fun y => fd.scope.names.lookup y) (ps.zip vs) (lo.map fun y => (y, none)) = m0)
    (hg : fd.globals = mainGlobals) (hbu : fd.builtins = builtinsNs) (hk : fd.scope.kind = .function) (hco : fd.scope.isCoroutine = false) (hgen : fd.scope.isGenerator = false)
    (h : ∀ L, SX (c.deep (callEnvC fd L fa)) m0 (.cel (L + 1) (some v) :: led) body (Ret K)) : Calls c (.ref fa) vs led K := fun m xs T hp tk s r => by
  have hlen : xs.length = ps.length := by rw [hn, r.length]
  refine (codeAny_call_cells (binds := ps.zip xs) (show c.A.depth < 1000 by have := o.dp; (first | lia | omega)) (s.base _ _ (o.X _ _ hl)) hdata (o.nl.keeps s.base) (hcd.keeps s.base) hbody (hbind xs hlen) hclo (fun y hy => ?_) ?_ hco hgen hk)
  · have : y.1 ∈ ps := List.mem_map.mpr ⟨y, hy, rfl⟩ |> fun z => by rw [List.map_fst_zip (by (first | lia | omega))] at z; exact z
    rcases hps _ this with q | q
    · exact .inl q.1
    · refine .inr ⟨q.1, ?_⟩
      rw [hcells, q.2]; simp
  · rintro s₁ ⟨⟨⟨h₁, tk₁, rfl⟩, hns, keep, fresh⟩, hcl, hap, hab⟩
    have e0 : ({ heap := hp, gens := c.g, drawn := c.d, toks := tk, os := c.os } : Shared).heap = hp := rfl
    have hcs : (callEnvC fd hp.objs.size fa).cells = [(x, hp.objs.size + 1)] := hcells _
    have s1 := s.keep keep
    have hLn : hp.get? hp.objs.size = none := get_none_of_ge (Nat.le_refl _)
    have off := s.off_at hLn
    have tkp := TK.of_keep keep
    have hcx := hcl x (hp.objs.size + 1) (by rw [hcs]; simp)
    have s1' : St c m (.cel (hp.objs.size + 1) (some v) :: led) T h₁ := by
      refine s.new keep ?_ (fun a ha => by rw [List.mem_singleton.mp ha]; (first | lia | omega)) (by simp [As.addrs])
      refine ⟨_, hcx, ?_⟩
      have e := hC xs hlen
      obtain ⟨y, hy, hr⟩ := r.get hv
      rw [hy] at e
      show OR h₁ (some v) (bindC (fun y => fd.scope.names.lookup y) (ps.zip xs) (fun _ => none) x)
      rw [e]
      exact hr.mono tkp
    have offc : (callEnvC fd hp.objs.size fa).locals ∉ addrsOf (.cel (hp.objs.size + 1) (some v) :: led) := fun q => by
      rw [addrs_cons] at q
      rcases List.mem_append.mp q with q | q
      · have := List.mem_singleton.mp q
        exact absurd (show hp.objs.size = hp.objs.size + 1 from this) (by (first | lia | omega))
      · exact off.off q
    have bl := bindL_run (h := h₁) (kd := fun y => fd.scope.names.lookup y) (ps := ps) (r.mono tkp) (m := lo.map fun y => (y, none)) (mv := fun _ => none) (fun y => by
        have : look (lo.map fun y => (y, (none : Option V))) y = none := by
          unfold look
          cases q : (lo.map fun y => (y, (none : Option V))).lookup y with
          | none => rfl
          | some z =>
            have := PySem.mem_of_lookup q
            obtain ⟨_, _, e⟩ := List.mem_map.mp this
            cases e; rfl
        rw [this]; trivial) (by rw [List.map_map]; show (lo.map fun y => y).Nodup; simpa using nd) (fun p hp' he => by
          rw [List.map_map]
          show p ∈ lo.map fun y => y
          rcases hps p hp' with q | q
          · simpa using q.2
          · have he : fd.scope.names.lookup p = some .local := he
            rw [q.1] at he; cases he)
    rw [hm0] at bl
    have keys : m0.map (·.1) = lo := by rw [bl.2, List.map_map]; show lo.map (fun y => y) = lo; simp
    have s2 : St (c.deep (callEnvC fd hp.objs.size fa)) m0 (.cel (hp.objs.size + 1) (some v) :: led) ⟨h₁, addrsOf (.cel (hp.objs.size + 1) (some v) :: led), T.t⟩ h₁ :=
      s1'.into (c' := c.deep (callEnvC fd hp.objs.size fa)) hns bl.1 (by rw [keys]; exact nd) (fun y hy => by rw [keys] at hy; exact hloc y hy) offc rfl (Nat.le_trans s.low (Nat.le_of_lt s.Llt))
    have run := h hp.objs.size _ h₁ tk₁ s2
    refine wpAny_mono run (fun f s' zz => Post.go zz fun fl h' tk' m' led' e s3 rf kk => ?_) fun _ _ x => x.elim
    subst e
    have s4 := s1'.outof s3 hns off.ne offc rfl off.hE
    cases fl with
    | next => obtain ⟨led2, sp, kk⟩ := kk; rw [show f = Flow.next from rf]; exact ⟨.none, h', tk', m, led2, rfl, s4.subp sp, VR.n, rfl, kk⟩
    | ret v => obtain ⟨led2, sp, kk⟩ := kk; obtain ⟨y, rfl, hy⟩ := rf; exact ⟨v, h', tk', m, led2, rfl, s4.subp sp, hy, rfl, kk⟩
    | brk => exact kk.elim
    | cont => exact kk.elim
end
section
variable {c c' : Cx} {m m' : Loc} {led led' : List As} {K : V → Loc → List As → Prop} {Kf : PySem.W.Frag} {k : Nat}

/-- a comprehension's own frame -/
noncomputable abbrev Cx.comp (c : Cx) (scope : Scope) (cl : List (PySem.Str × Addr)) (C : Addr) : Cx := { c with env := compEnvC scope cl C c.env }
theorem Ok.comp {scope : Scope} {cl : List (PySem.Str × Addr)} {C : Addr} (o : Ok c Kf k) (hk : scope.kind = .function) : Ok (c.comp scope cl C) Kf k :=
  ⟨o.X, o.hh, o.dp, o.un, o.nl, o.bt, o.gl, o.bu, hk, o.pl⟩

/-- the elements of a comprehension, turn by turn -/
noncomputable def CompK (c : Cx) (scope : Scope) (cl : List (PySem.Str × Addr)) (x : PySem.Str) (elt : Expr) (items : List V) (led : List As) (K : List V → List As → Prop) : Prop :=
  ∃ J : Nat → List V → List As → Prop, J 0 [] led ∧
    (∀ i v us led C, items[i]? = some v → J i us led → SE (c.comp scope cl C) [(x, some v)] led elt fun u m' led' => (∃ w, m' = [(x, w)]) ∧ J (i + 1) (us ++ [u]) led') ∧
    ∀ us led, J items.length us led → K us led

theorem St.bump {T : Tmp} {h h' : Heap} {C : Addr} (s : St c m led T h) (f : Off c led T C) (hn : ∀ o, Imm o → h.get? C ≠ some o) (hk : ∀ b o, b ≠ C → h.get? b = some o → h'.get? b = some o) : St c m led T h' := by
  have tk : TK h h' := fun a o i e => hk a o (fun q => hn o i (q ▸ e)) e
  obtain ⟨mv₀, hn₀, hr⟩ := s.ns
  refine ⟨⟨mv₀, hn₀.at' fun o e => hk _ o (Ne.symm f.ne) e, hr.mono tk⟩, s.keys, s.kinds, fun b o e => ?_, s.low, fun b o e1 e2 e3 => ?_, s.nd, fun x hx => ?_, s.own, s.tmp.mono tk⟩
  · exact hk b o (fun q => by rw [q, f.h0] at e; cases e) (s.base b o e)
  · refine hk b o (fun q => ?_) (s.ext b o e1 e2 e3)
    subst q
    rcases f.hE with z | z
    · rw [z] at e3; cases e3
    · exact e2 z
  · exact (s.ok x hx).mono tk fun a ha o e => hk a o (fun q => f.off (List.mem_flatMap.mpr ⟨x, hx, q ▸ ha⟩)) e

theorem St.hideL {T : Tmp} {h : Heap} (s : St c m led T h) (Is : List Addr) : St c m led ⟨hideAll h Is, addrsOf led, T.t⟩ h :=
  ⟨s.ns, s.keys, s.kinds, s.base, s.low, fun b o _ _ e => of_hideAll _ e, s.nd, s.ok, fun a ha => ⟨(s.own a ha).1, .inr ha⟩, s.tmp⟩
theorem St.unhideL {T : Tmp} {h h' : Heap} {Is : List Addr} (s : St c m led T h) (s' : St c m' led' ⟨hideAll h Is, addrsOf led, T.t⟩ h') (hI : ∀ a ∈ Is, T.hE.get? a = none ∨ a ∈ T.W) : St c m' led' T h' := by
  have nd' := s'.nd
  rw [List.nodup_cons] at nd'
  refine ⟨s'.ns, s'.keys, s'.kinds, s'.base, s'.low, fun b o e1 e2 e3 => s'.ext b o e1 (fun hb => ?_) (hideAll_get _ (s.ext b o e1 e2 e3) fun q => ?_), s'.nd, s'.ok, fun a ha => ⟨(s'.own a ha).1, ?_⟩, s'.tmp⟩
  · rcases (s.own b hb).2 with z | z
    · rw [z] at e3; cases e3
    · exact e2 z
  · rcases hI b q with z | z
    · rw [z] at e3; cases e3
    · exact e2 z
  · rcases (s'.own a ha).2 with z | z
    · by_cases e : a ∈ Is
      · exact hI a e
      · refine (s.fresh (a := a) ?_ (fun e => nd'.1 (e ▸ ha))).2
        cases q : h.get? a with
        | none => rfl
        | some o => rw [hideAll_get Is q e] at z; cases z
    · exact (s.own a z).2
theorem St.tkL {T : Tmp} {h h' : Heap} {Is : List Addr} (s : St c m led T h) (s' : St c m' led' ⟨hideAll h Is, addrsOf led, T.t⟩ h') (hI : ∀ a ∈ Is, ∀ o, Imm o → h.get? a ≠ some o) : TK h h' := fun a o i e =>
  s'.ext a _ (s.tup_off e i).1 (s.tup_off e i).2 (hideAll_get _ e fun q => hI a q o i e)

theorem comp_core {elt iter : Expr} {x : PySem.Str} {px pos : Pos} {scope : Scope} {cl : List (PySem.Str × Addr)} {T : Tmp} {h : Heap} {tk : Nat} {I : Addr} {fp : List Addr} {items : List V} {KK : List V → List As → Prop}
    {RR : Value → Addr → Result → Shared → Prop} (it : It c h I fp items) (s : St c m led T h)
    (hIT : T.hE.get? I = none) (hIb : c.h₀.get? I = none) (hIL : I ≠ c.L) (hfl : ∀ b ∈ fp, b ≠ c.L ∧ b ∉ addrsOf led) (hlt : ∀ b ∈ fp, b < h.objs.size) (hsz : items.length ≤ sizeLine)
    (hcell : ∀ y ∈ scope.names, y.2 ≠ .cell) (hkind : scope.kind = .function) (hx : scope.names.lookup x = some .local)
    (k : CompK c scope cl x elt items led KK)
    (hRR : ∀ us led' D C h' tk' mC, KK us led' → St c m (.lst D us :: led') T h' → h'.Ns C mC → Off c (.lst D us :: led') T C → RR (.ref D) C (.ok .next) ⟨h', c.g, c.d, tk', c.os⟩) :
    wpAny c.M c.A (newList []) (fun acc s₃ => wpAny c.M c.A (newFunctionEnv scope c.env.globals cl [] c.env.qual none .none (some c.env)) (fun cenv s₄ =>
      codeAny c.M c.A (.compStart (.ListComp elt [⟨.Name x px, iter, [], 0⟩] scope pos) 0 (.ref I) acc { cenv with scope := relabel scope c.env }) (RR acc cenv.locals) s₄) NoE s₃) NoE ⟨h, c.g, c.d, tk, c.os⟩ := by
  obtain ⟨P, S, W, hS, hP, hf, hgo⟩ := it.walk
  obtain ⟨J, j0, turn, done⟩ := k
  refine wpAny_newObj_type (wpAny_newFunctionEnv hcell (by intro y hy; simp at hy) (fun h₁ hns₁ hsb₁ => ?_) hkind)
  dsimp only at hns₁ hsb₁ ⊢
  generalize hH2 : h.push { cls := .type "list", dict := none, data := .seq ([] : List Value).toArray } = H2 at hns₁ hsb₁ ⊢
  have hC : H2.objs.size = h.objs.size + 1 := by rw [← hH2, Heap.size_push]
  have hDC : h.objs.size ≠ H2.objs.size := by rw [hC]; exact Nat.ne_of_lt (Nat.lt_succ_self _)
  have keep : ∀ b o, h.get? b = some o → h₁.get? b = some o := fun b o e => hsb₁.extBut b o (by rw [hC]; exact Nat.ne_of_lt (Nat.lt_succ_of_lt (Heap.lt_size e))) (Heap.get?_push_of_some _ (hH2 ▸ Heap.get?_push_of_some _ e))
  have hacc : h₁.get? h.objs.size = some { cls := .type "list", dict := none, data := .seq ([] : List Value).toArray } := hsb₁.extBut _ _ hDC (Heap.get?_push_of_some _ (hH2 ▸ Heap.get?_push_size _ rfl))
  have hS₁ : S 0 h₁ := W.frame _ _ _ hS fun b _ o e => keep b o e
  have offC := s.off_at (C := H2.objs.size) (get_none_of_ge (by rw [hC]; (first | lia | omega)))
  have offD := s.off_at (C := h.objs.size) (get_none_of_ge (Nat.le_refl _))
  have hIlt : I < h.objs.size := by obtain ⟨o, ho, _⟩ := hf 0 h hS; exact Heap.lt_size ho
  have s1 : St c m (.lst h.objs.size [] :: led) T h₁ := s.new keep ⟨_, _, hacc, VRs.nil⟩ (fun a ha => by rw [List.mem_singleton.mp ha]; (first | lia | omega)) (by simp [As.addrs])
  -- the loop
  have loop : ∀ tk₀, codeAny c.M c.A (.compLoop (.ListComp elt [⟨.Name x px, iter, [], 0⟩] scope pos) 0 (.ref I) (.ref h.objs.size) (compEnvC scope cl H2.objs.size c.env)) (RR (.ref h.objs.size) H2.objs.size) ⟨h₁, c.g, c.d, tk₀, c.os⟩ := fun tk₀ => by
    refine codeAny_compLoop_list
      (fun k s' => ∃ h' tk' us led' i mC w, s' = ⟨h', c.g, c.d, tk', c.os⟩ ∧ S i h' ∧ St c m (.lst h.objs.size us :: led') ⟨hideAll h₁ [I, H2.objs.size], addrsOf (.lst h.objs.size [] :: led), T.t⟩ h' ∧
        h'.Ns H2.objs.size mC ∧ LocR h' [(x, w)] mC ∧ H2.objs.size ∉ addrsOf led' ∧ (∀ b ∈ fp, b ∉ addrsOf led') ∧ J i us led' ∧ i ≤ items.length ∧ us.length = i ∧ k = items.length + 1 - i) ?_ (items.length + 1)
      ⟨h₁, tk₀, [], led, 0, _, none, rfl, hS₁, ?_, hns₁, ?_, offC.off, fun b hb => (hfl b hb).2, j0, Nat.zero_le _, rfl, rfl⟩
    · rintro k s' ⟨h', tk', us, led', i, mC, w, rfl, hSi, si, hnC, hlC, hCoff, hfoff, hJ, hi, hul, rfl⟩
      have hIC : I ≠ H2.objs.size := by rw [hC]; exact Nat.ne_of_lt (Nat.lt_succ_of_lt hIlt)
      have fpC : ∀ b ∈ fp, b ≠ H2.objs.size := fun b hb => by rw [hC]; exact Nat.ne_of_lt (Nat.lt_succ_of_lt (hlt b hb))
      have fpD : ∀ b ∈ fp, b ≠ h.objs.size := fun b hb => Nat.ne_of_lt (hlt b hb)
      have nI : ∀ o, Imm o → h'.get? I ≠ some o := fun o im e => by
        obtain ⟨oI, hoI, hni, _⟩ := hf i h' hSi
        rw [hoI] at e; cases e; exact hni im
      have hIoff : I ∉ addrsOf (.lst h.objs.size us :: led') := fun q => by
        obtain ⟨y, hy, hay⟩ := List.mem_flatMap.mp q
        obtain ⟨o, ho, _, hno⟩ := (si.ok y hy).get I hay
        obtain ⟨oI, hoI, _, vsI, hdI⟩ := hf i h' hSi
        rw [hoI] at ho; cases ho
        exact hno _ hdI
      have offI : Off c (.lst h.objs.size us :: led') ⟨hideAll h₁ [I, H2.objs.size], addrsOf (.lst h.objs.size [] :: led), T.t⟩ I := ⟨hIL, hIoff, hIb, .inl (hideAll_none _ (.head _))⟩
      have step : ∀ h₂, (∀ b o, b ∉ [I] → h'.get? b = some o → h₂.get? b = some o) → St c m (.lst h.objs.size us :: led') ⟨hideAll h₁ [I, H2.objs.size], addrsOf (.lst h.objs.size [] :: led), T.t⟩ h₂ ∧ h₂.Ns H2.objs.size mC ∧ LocR h₂ [(x, w)] mC := fun h₂ hk => by
        have hk' : ∀ b o, b ≠ I → h'.get? b = some o → h₂.get? b = some o := fun b o e => hk b o (fun q => e (List.mem_singleton.mp q))
        have tkk : TK h' h₂ := fun a o im e => hk' a o (fun q => nI o im (q ▸ e)) e
        exact ⟨si.bump offI nI hk', hnC.at' fun o e => hk' _ o (Ne.symm hIC) e, hlC.mono tkk⟩
      have offC' : ∀ led₂ us₂, H2.objs.size ∉ addrsOf led₂ → H2.objs.size ∉ addrsOf (.lst h.objs.size us₂ :: led₂) := fun led₂ us₂ q z => by
        rw [addrs_cons] at z
        rcases List.mem_append.mp z with z | z
        · exact hDC (List.mem_singleton.mp z).symm
        · exact q z
      by_cases hlti : i < items.length
      · refine W.item i _ _ _ hlti hSi fun x₁ h₂ tk₂ hPx hS₂ hk => ?_
        obtain ⟨s₂, hn₂, hl₂⟩ := step h₂ hk
        obtain ⟨v, hv, hr⟩ := hP i x₁ hlti hPx
        have nC₁ : ∀ o, Imm o → h₁.get? H2.objs.size ≠ some o := fun o im e => by
          obtain ⟨o', ho', hno⟩ := ns_notTup hns₁
          rw [ho'] at e; cases e; exact hno im
        have nI₁ : ∀ o, Imm o → h₁.get? I ≠ some o := fun o im e => by
          obtain ⟨oI, hoI, hni, _⟩ := hf 0 h₁ hS₁
          rw [hoI] at e; cases e; exact hni im
        have r₂ : VR h₂ v x₁ := (hr.mono (TK.of_keep keep)).mono (s1.tkL s₂ fun a ha o im => by
          rcases List.mem_cons.mp ha with rfl | ha
          · exact nI₁ o im
          · rw [List.mem_singleton.mp ha]; exact nC₁ o im)
        -- the variable
        show wpAny _ _ (assign (.Name x px) _ x₁) _ _ _
        refine wpAny_assign_Name (wpAny_storeName_local (env := compEnvC scope cl H2.objs.size c.env) (lookup_relabel_local hx) hn₂ (fun h₃ hn₃ hs₃ => ?_) (by simp [compEnvC, relabel, hkind]))
        have offC₂ : Off c (.lst h.objs.size us :: led') ⟨hideAll h₁ [I, H2.objs.size], addrsOf (.lst h.objs.size [] :: led), T.t⟩ H2.objs.size := ⟨offC.ne, offC' _ _ hCoff, offC.h0, .inl (hideAll_none _ (.tail _ (.head _)))⟩
        have s₃ := s₂.same offC₂ hn₂ hs₃
        obtain ⟨oC, hoC, hnoC⟩ := ns_notTup hn₂
        have tk₃ := tk_of_same hs₃ hoC hnoC
        have s_in := s₃.into (c' := c.comp scope cl H2.objs.size) (m0 := [(x, some v)]) hn₃ (fun y => by
            have e := hl₂ y
            unfold look at e ⊢
            rw [List.lookup_cons] at e ⊢
            show OR h₃ _ (if y = x then some x₁ else mC y)
            by_cases q : y = x
            · subst q; rw [if_pos rfl, beq_self_eq_true]; exact r₂.mono tk₃
            · have : (y == x) = false := beq_eq_false_iff_ne.mpr q
              rw [this] at e ⊢
              rw [if_neg q]; exact e.mono tk₃) (by simp) (fun y hy => by
            simp only [List.map_cons, List.map_nil, List.mem_singleton] at hy
            subst hy; exact lookup_relabel_local hx) (offC' _ _ hCoff) rfl (Nat.le_trans s.low (by
              show c.L ≤ H2.objs.size
              rw [hC]
              have : c.L < h.objs.size := s.Llt
              exact Nat.le_of_lt (Nat.lt_succ_of_lt this)))
        have s_go := (s_in.sub (List.sublist_cons_self _ _)).rebase (addrsOf led') fun _ q => q
        have run := turn i v us led' H2.objs.size hv hJ _ h₃ (tk₂ + 1) s_go
        show wpAny c.M c.A (eval elt (compEnvC scope cl H2.objs.size c.env)) _ _ _
        refine wpAny_mono run (fun y s' ⟨u, h₄, tk₄, m₄, led₄, e, s₄, ru, ⟨w₄, em₄⟩, hJ₄⟩ => ?_) fun _ _ x => x.elim
        subst e em₄
        have s₅ := s_in.unsel s₄
        have s₆ := s₃.outof s₅ hn₃ offC.ne (offC' _ _ hCoff) rfl (.inl (hideAll_none _ (.tail _ (.head _))))
        obtain ⟨items₄, n₄, hl₄, hr₄⟩ := s₆.ok _ (.head _)
        have nd₄ := s₄.nd
        rw [List.nodup_cons] at nd₄
        have hC4 : H2.objs.size ∉ addrsOf led₄ := nd₄.1
        have hS₃ : S (i + 1) h₃ := W.frame _ _ _ hS₂ fun b hb o e => hs₃.extBut b o (fpC b hb) e
        have livefp : ∀ b ∈ fp, ∃ o, h₃.get? b = some o := fun b hb => by
          by_cases q : b = I
          · obtain ⟨o, ho, _⟩ := hf (i + 1) h₃ hS₃
            exact ⟨o, q ▸ ho⟩
          · obtain ⟨o, ho⟩ := it.live b hb q
            refine ⟨o, s₃.ext b o (hfl b hb).1 (fun z => ?_) (hideAll_get _ (keep _ _ ho) fun z => ?_)⟩
            · rw [addrs_cons] at z
              rcases List.mem_append.mp z with z | z
              · exact fpD b hb (List.mem_singleton.mp z)
              · exact (hfl b hb).2 z
            · rcases List.mem_cons.mp z with z | z
              · exact q z
              · exact fpC b hb (List.mem_singleton.mp z)
        have hS₄ : S (i + 1) h₄ := W.frame _ _ _ hS₃ fun b hb o e => s₄.ext b o (fpC b hb) (hfoff b hb) e
        refine wpAny_list_append_plain ⟨n₄, hl₄⟩ (fun h₅ hp₅ hs₅ => ?_) ?_
        · obtain ⟨n₅, hl₅⟩ := hp₅
          have s₇ : St c m (.lst h.objs.size (us ++ [u]) :: led₄) ⟨hideAll h₁ [I, H2.objs.size], addrsOf (.lst h.objs.size [] :: led), T.t⟩ h₅ :=
            s₆.upd (a := h.objs.size) .head rfl (.head _) hs₅ fun tk₅ => ⟨_, n₅, hl₅, by rw [Array.toList_push]; exact (hr₄.mono tk₅).append (VRs.one (ru.mono tk₅))⟩
          obtain ⟨mC₄, hnC₄, hlC₄⟩ := s₄.ns
          have tk₅ : TK h₄ h₅ := tk_of_same hs₅ hl₄ (fun e => by generalize hz : ({ cls := .type "list", dict := none, data := .seq items₄ n₄, slots := #[] } : Obj) = z at e; cases e <;> simp at hz)
          refine ⟨items.length + 1 - (i + 1), by (first | lia | omega), h₅, tk₄, us ++ [u], led₄, i + 1, mC₄, w₄, rfl, W.frame _ _ _ hS₄ fun b hb o e => hs₅.extBut b o (fpD b hb) e, s₇, hnC₄.sameBut hs₅ (Ne.symm hDC), hlC₄.mono tk₅, hC4, fun b hb q => ?_, hJ₄, hlti, by simp [hul], rfl⟩
          rcases (s₄.own b q).2 with z | z
          · obtain ⟨o, ho⟩ := livefp b hb
            rw [ho] at z; cases z
          · exact hfoff b hb z
        · have := hr₄.length
          have : items₄.size = us.length := by rw [this]; simp
          rw [this, hul]; (first | lia | omega)
      · have hin : i = items.length := by (first | lia | omega)
        refine W.done _ _ _ (hin ▸ hSi) fun h₂ tk₂ hk => ?_
        obtain ⟨s₂, hn₂, hl₂⟩ := step h₂ hk
        have sT := s1.unhideL s₂ (fun a ha => by
          rcases List.mem_cons.mp ha with rfl | ha
          · exact .inl hIT
          · rw [List.mem_singleton.mp ha]; exact offC.hE)
        exact hRR us led' _ _ h₂ tk₂ mC (done us led' (hin ▸ hJ)) sT hn₂ ⟨offC.ne, offC' _ _ hCoff, offC.h0, offC.hE⟩
    · exact s1.hideL _
    · intro y
      show OR h₁ (look [(x, none)] y) none
      unfold look
      rw [List.lookup_cons]
      cases (y == x) <;> trivial
  exact codeAny_compStart_list (loop _) (W.self 0 _ _ _ hS₁ (loop _))
end
section
variable {c c' : Cx} {m m' : Loc} {led led' : List As} {Kf : PySem.W.Frag} {k : Nat}

/-- all that the frame made and more: whatever is not of the base and not the frame -/
noncomputable def others (h₀ : Heap) (L : Addr) (h : Heap) (X : List Addr) : List (Addr × Obj) :=
  (List.range h.objs.size).filterMap fun a => if a = L ∨ a ∈ X ∨ (h₀.get? a).isSome then none else (h.get? a).map fun o => (a, o)
theorem others_mem {h₀ : Heap} {L : Addr} {h : Heap} {X : List Addr} {p : Addr × Obj} : p ∈ others h₀ L h X ↔ h.get? p.1 = some p.2 ∧ p.1 ≠ L ∧ p.1 ∉ X ∧ h₀.get? p.1 = none := by
  unfold others
  rw [List.mem_filterMap]
  constructor
  · rintro ⟨a, _, e⟩
    split at e
    · cases e
    · rename_i q
      rw [Option.map_eq_some_iff] at e
      obtain ⟨o, ho, rfl⟩ := e
      rw [not_or, not_or] at q
      exact ⟨ho, q.1, q.2.1, by simpa using q.2.2⟩
  · rintro ⟨e1, e2, e3, e4⟩
    refine ⟨p.1, List.mem_range.mpr (Heap.lt_size e1), ?_⟩
    rw [if_neg (by rw [not_or, not_or]; exact ⟨e2, e3, by rw [e4]; simp⟩), e1]; rfl
theorem others_news {h₀ : Heap} {L : Addr} {h : Heap} {X : List Addr} : News h₀ L h (others h₀ L h X) := fun p hp =>
  have q := others_mem.mp hp; ⟨q.1, q.2.1, q.2.2.2⟩

theorem St.upd' {T : Tmp} {h h' : Heap} {x x' : As} {a : Addr} {mv : PySem.Str → Option Value} (s : St c m led T h) (u : UpdA x x' led led') (ea : x'.addrs = x.addrs) (ha : a ∈ x.addrs)
    (hn : h.Ns c.L mv) (hr : LocR h m mv) (hn' : h'.Ns c.L mv) (hk : ∀ b o, b ≠ a → b ≠ c.L → h.get? b = some o → h'.get? b = some o) (hx : TK h h' → x'.ok h') : St c m led' T h' := by
  obtain ⟨o, ho, hni, _⟩ := (s.ok x u.mem).get a ha
  obtain ⟨oL, hoL, hnL⟩ := ns_notTup hn
  have tk : TK h h' := fun b ob i e => hk b ob (fun q => by subst q; rw [ho] at e; cases e; exact hni i) (fun q => by subst q; rw [hoL] at e; cases e; exact hnL i) e
  have hal : a ∈ addrsOf led := List.mem_flatMap.mpr ⟨x, u.mem, ha⟩
  have nd := s.nd
  rw [List.nodup_cons] at nd
  have hLa : c.L ≠ a := fun e => nd.1 (e ▸ hal)
  have own := s.own a hal
  have ed := u.addrs ea
  have hLb : ∀ b ob, c.h₀.get? b = some ob → b ≠ c.L := fun b ob e => Nat.ne_of_lt (Nat.lt_of_lt_of_le (Heap.lt_size e) s.low)
  refine ⟨⟨mv, hn', hr.mono tk⟩, s.keys, s.kinds, fun b ob e => hk b ob (fun q => by rw [q, own.1] at e; cases e) (hLb b ob e) (s.base b ob e), s.low, fun b ob e1 e2 e3 => hk b ob (fun q => by
      subst q
      rcases own.2 with z | z
      · rw [z] at e3; cases e3
      · exact e2 z) e1 (s.ext b ob e1 e2 e3), by rw [ed]; exact s.nd, fun y hy => ?_, by rw [ed]; exact s.own, s.tmp.mono tk⟩
  obtain ⟨l1, l2, e1, e2⟩ := u.split
  subst e1 e2
  have hoff : ∀ z, (z ∈ l1 ∨ z ∈ l2) → a ∉ z.addrs := by
    intro z hz haz
    have n2 := nd.2
    simp only [addrsOf, List.flatMap_append, List.flatMap_cons] at n2
    rw [List.nodup_append] at n2
    obtain ⟨n1, n3, n4⟩ := n2
    rw [List.nodup_append] at n3
    rcases hz with hz | hz
    · exact n4 a (List.mem_flatMap.mpr ⟨z, hz, haz⟩) a (List.mem_append_left _ ha) rfl
    · exact n3.2.2 a ha a (List.mem_flatMap.mpr ⟨z, hz, haz⟩) rfl
  have stay : ∀ z, (z ∈ l1 ∨ z ∈ l2) → z.ok h' := fun z hz => by
    refine (s.ok z (List.mem_append.mpr (hz.imp id (.tail _)))).mono tk fun b hb ob e => hk b ob (fun q => hoff z hz (q ▸ hb)) (fun q => ?_) e
    exact nd.1 (q ▸ List.mem_flatMap.mpr ⟨z, List.mem_append.mpr (hz.imp id (.tail _)), hb⟩)
  rcases List.mem_append.mp hy with q | q
  · exact stay y (.inl q)
  · rcases List.mem_cons.mp q with rfl | q
    · exact hx tk
    · exact stay y (.inr q)

/-- fields -/
noncomputable def getF (n : PySem.Str) : List (PySem.Str × V) → Option V
  | [] => none
  | (x, v) :: r => if x = n then some v else getF n r
noncomputable def setF (n : PySem.Str) (v : V) : List (PySem.Str × V) → List (PySem.Str × V)
  | [] => [(n, v)]
  | (x, u) :: r => if x = n then (x, v) :: r else (x, u) :: setF n v r
theorem isStr_str {x n : PySem.Str} {t : Tok} : (Value.str x t).isStr n = decide (x = n) := by
  have : (Value.str x t).isStr n = Value.isStrOf n (.str x t) := PySem.W.isStr_of n _
  rw [this]; simp only [Value.isStrOf]; by_cases e : x = n <;> simp [e]
theorem FsR.none {h : Heap} {fs es} (r : FsR h fs es) : es.any (·.refKey) = false := by
  induction r with
  | nil => rfl
  | cons _ _ ih => rw [List.any_cons, ih]; rfl
theorem FsR.get {h : Heap} {n : PySem.Str} {fs es} (r : FsR h fs es) : ∃ x, getL n es = some x ∧ OR h (getF n fs) x := by
  have hno := r.none
  unfold getL
  rw [hno]
  clear hno
  induction r with
  | nil => exact ⟨_, rfl, trivial⟩
  | @cons y v t hs x fs es e _ ih =>
    rw [List.find?_cons]
    unfold getF
    by_cases q : y = n
    · rw [if_pos q]
      have : (DictEntry.mk hs (.str y t) x).key.isStr n = true := by show (Value.str y t).isStr n = true; rw [isStr_str]; simpa using q
      rw [this]
      exact ⟨_, rfl, e⟩
    · rw [if_neg q]
      have : (DictEntry.mk hs (.str y t) x).key.isStr n = false := by show (Value.str y t).isStr n = false; rw [isStr_str]; simpa using q
      rw [this]
      exact ih
theorem FsR.set {h : Heap} {n : PySem.Str} {hsh : Int} {t : Tok} {v : V} {x : Value} {fs es} (r : FsR h fs es) (e : VR h v x) : FsR h (setF n v fs) (putL n hsh (.str n t) x es) := by
  induction r with
  | nil => exact .cons e .nil
  | @cons y u t' hs z fs es ez rr ih =>
    unfold setF putL
    by_cases q : y = n
    · rw [if_pos q, if_pos (by show (Value.str y t').isStr n = true; rw [isStr_str]; simpa using q)]
      exact .cons e rr
    · rw [if_neg q, if_neg (by show ¬ (Value.str y t').isStr n = true; rw [isStr_str]; simpa using q)]
      exact .cons ez ih
theorem FsR.len {h : Heap} {fs es} (r : FsR h fs es) : es.length = fs.length := by
  induction r with
  | nil => rfl
  | cons _ _ ih => simp only [List.length_cons, ih]
theorem putL_len {n : PySem.Str} {hsh : Int} {key v : Value} : ∀ (es : List DictEntry), (putL n hsh key v es).length ≤ es.length + 1
  | [] => by simp [putL]
  | e :: r => by
    unfold putL
    split
    · simp
    · have := putL_len (n := n) (hsh := hsh) (key := key) (v := v) r
      simp only [List.length_cons]; (first | lia | omega)

/-- what the text says of a class of its own: attributes are plain -/
structure ClsOk (Kf : PySem.W.Frag) (C : Addr) : Prop where
  sa : findIn Kf (.ref C) "__setattr__" = some (some (.builtin "object.__setattr__"))
  po : plainOver Kf C = true
  hd : hasDictIn Kf C = true

theorem inst_at {T : Tmp} {h : Heap} (s : St c m led T h) {a d C : Addr} {fs : List (PySem.Str × V)} (hm : MemA (.ins a d C fs) led) :
    ∃ es n, h.get? d = some (dictOf es n) ∧ FsR h fs es ∧ PySem.W.InstAt h a (instObj C d) C (some (dictOf es n)) := by
  obtain ⟨h1, es, n, h2, r⟩ := s.ok _ hm.mem
  exact ⟨es, n, h2, r, h1, rfl, rfl, h2⟩

/-- an attribute is read -/
theorem p_attr {a d C : Addr} {fs : List (PySem.Str × V)} {name : PySem.Str} {v : V} {K : V → Loc → List As → Prop} {ex : Bool} (o : Ok c Kf k) (hm : MemA (.ins a d C fs) led) (hg : plainGet Kf C name = true) (hh : hasDictIn Kf C = true)
    (ha : findIn Kf (.ref C) name = some none) (hf : getF name fs = some v) (hv : ∀ g, v ≠ .glob g) (h : K v m led) : P1 VR c m led (fun x => getAttr x name ex) (.ref a) K := fun x T hp tk s r => by
  rw [r.ro]
  obtain ⟨es, n, hd, rf, I⟩ := inst_at s hm
  obtain ⟨mv, F, hr⟩ := s.fr
  obtain ⟨y, hy, ry⟩ := rf.get (n := name)
  rw [hf] at ry
  cases y with
  | none => exact ry.elim
  | some y =>
    refine get_own (K := Kf) (attr := none) F o.X I hg hh ha rfl hy ?_ (post_here s ry h)
    have ry : VR hp v y := ry
    cases v with
    | none => rw [ry.no]; rfl
    | bool b => rw [ry.bo]; rfl
    | int i => obtain ⟨t, rfl⟩ := ry.io; rfl
    | str z => obtain ⟨t, rfl⟩ := ry.so; rfl
    | ref z => rw [ry.ro]; rfl
    | tup vs => obtain ⟨_, _, _, rfl, _⟩ := ry.to; rfl
    | rng z => obtain ⟨_, _, _, _, rfl, _⟩ := ry.rno; rfl
    | glob g => exact absurd rfl (hv g)
noncomputable abbrev KAttr (c : Cx) (name : PySem.Str) (K : V → Loc → List As → Prop) (u : V) (m : Loc) (led : List As) : Prop := P1 VR c m led (fun x => getAttr x name true) u K
theorem e_attr {o : Expr} {name : PySem.Str} {pos : Pos} {K : V → Loc → List As → Prop} (h : SE c m led o (KAttr c name K))
    (he : eval (.Attribute o name pos) c.env = (do
      let ov ← eval o c.env
      standAt pos.atName
      let r ← holding [ov] (getAttr ov name true)
      letTemporaryGo o ov r
      pure r) := by with_unfolding_all rfl) : SE c m led (.Attribute o name pos) K := fun T hp tk s =>
  Attribute_any_ (wpAny_mono (h T hp tk s) (fun a s1 zz => Post.go zz fun v1 h1 tk1 m1 led1 e s1' r1 k1 => by subst e; exact k1 a T h1 tk1 s1' r1) fun _ _ x => x) he

/-- an attribute is stored -/
theorem p_setattr {a d C : Addr} {fs : List (PySem.Str × V)} {name : PySem.Str} {v : V} {K : Unit → Loc → List As → Prop} (o : Ok c Kf k) (hu : UpdA (.ins a d C fs) (.ins a d C (setF name v fs)) led led') (hc : ClsOk Kf C)
    (ht : takerIn Kf C name = some none) (hl : fs.length ≤ 900) (h : K () m led') : P2 UR c m led (fun x y => setAttr x name y) (.ref a) v K := fun x y T hp tk s r1 r2 => by
  rw [r1.ro]
  have hmem := hu.mem
  obtain ⟨h1, es, n, hd, rf⟩ := s.ok _ hmem
  have I : PySem.W.InstAt hp a (instObj C d) C (some (dictOf es n)) := ⟨h1, rfl, rfl, hd⟩
  obtain ⟨mv, F, hr⟩ := s.fr
  have had : a ∈ addrsOf led := List.mem_flatMap.mpr ⟨_, hmem, .head _⟩
  have hdd : d ∈ addrsOf led := List.mem_flatMap.mpr ⟨_, hmem, .tail _ (.head _)⟩
  have nd := s.nd
  rw [List.nodup_cons] at nd
  have hLd : d ≠ c.L := fun e => nd.1 (e ▸ hdd)
  have N : News c.h₀ c.L hp ((d, dictOf es n) :: others c.h₀ c.L hp [d]) := fun p hp' => by
    rcases List.mem_cons.mp hp' with rfl | hp'
    · exact ⟨hd, hLd, (s.own d hdd).1⟩
    · exact others_news p hp'
  obtain ⟨y', hy', _⟩ := rf.get (n := name)
  have hlen := rf.len
  refine set_dict (K := Kf) F o.X N I rfl hc.sa hc.po ht hc.hd (by rw [hy']; rfl) rfl (Upd.head fun p hp' => ?_) ?_ fun h' F' N' => ?_
  · have := others_mem.mp hp'
    intro e
    exact this.2.2.1 (e ▸ .head _)
  · refine Nat.le_trans (putL_len es) ?_
    rw [hlen]; (first | lia | omega)
  · refine post_here (s.upd' (a := d) hu rfl (.tail _ (.head _)) F.ns hr F'.ns (fun b ob e1 e2 e3 => ?_) fun tk => ?_) (b := ()) trivial h
    · cases q : c.h₀.get? b with
      | some ob' =>
        have := s.base b ob' q
        rw [e3] at this; cases this
        exact F'.keep b ob q
      | none => exact (N' (b, ob) (.tail _ (others_mem.mpr ⟨e3, e2, by simpa using e1, q⟩))).1
    · refine ⟨?_, _, _, (N' _ (.head _)).1, (rf.mono tk).set (r2.mono tk)⟩
      cases q : c.h₀.get? a with
      | some ob' => rw [(s.own a had).1] at q; cases q
      | none =>
        refine (N' (a, instObj C d) (.tail _ (others_mem.mpr ⟨h1, fun e => nd.1 (e ▸ had), ?_, q⟩))).1
        intro e
        rw [List.mem_singleton] at e
        have e : a = d := e
        rw [← e, h1] at hd
        cases hd

/-- a method of an own class -/
theorem g_method {a d C f : Addr} {fs : List (PySem.Str × V)} {name : PySem.Str} {pl : Sem Bool} {K : Value → List V → Prop} (o : Ok c Kf k) (hm : MemA (.ins a d C fs) led) (hg : plainGet Kf C name = true)
    (hf : findIn Kf (.ref C) name = some (some (.ref f))) (ht : isFn Kf (.ref f) = true) (hn : getF name fs = none) (h : K (.ref f) [.ref a]) : GM c m led name pl (.ref a) K := fun x T hp tk s r => by
  rw [r.ro]
  obtain ⟨es, n, hd, rf, I⟩ := inst_at s hm
  obtain ⟨mv, F, hr⟩ := s.fr
  obtain ⟨y, hy, ry⟩ := rf.get (n := name)
  rw [hn] at ry
  cases y with
  | some y => exact ry.elim
  | none => exact method_inst (K := Kf) F o.X I hg hf ht hy ⟨_, _, rfl, VRs.one VR.r, h⟩
theorem g_append {l : Addr} {vs : List V} {pl : Sem Bool} {K : Value → List V → Prop} (hm : MemA (.lst l vs) led) (h : K (.builtin "list.append") [.ref l]) : GM c m led "append" pl (.ref l) K := fun x T hp tk s r => by
  rw [r.ro]
  obtain ⟨items, n, hl, _⟩ := s.ok _ hm.mem
  exact getMethod_builtin ⟨_, hl, rfl⟩ PySem.F.plainAttrs_list PySem.F.slot_list_append PySem.F.type_list_append (fun a e => by cases e; exact ⟨_, hl, rfl⟩) ⟨_, _, rfl, VRs.one VR.r, h⟩
end
theorem valueAt_stored {kvs : List (Int × Value)} {k : Int} {v : Value} (j : Int) : valueAt (stored kvs k v) j = if j = k then some v else valueAt kvs j := by
  unfold stored valueAt
  split
  · rename_i hany
    induction kvs with
    | nil => simp at hany
    | cons p r ih =>
      rw [List.map_cons, List.find?_cons, List.find?_cons]
      by_cases e : p.1 = k
      · rw [if_pos e]
        by_cases q : j = k
        · subst q; simp [e]
        · have h1 : decide (p.1 = j) = false := by simp; intro z; exact q (by rw [← z, e])
          dsimp only
          rw [h1, if_neg q]
          have : ∀ l : List (Int × Value), ((l.map fun kv => if kv.1 = k then (kv.1, v) else kv).find? fun kv => decide (kv.1 = j)).map (·.2) = (l.find? fun kv => decide (kv.1 = j)).map (·.2) := by
            intro l
            induction l with
            | nil => rfl
            | cons a l ih =>
              rw [List.map_cons, List.find?_cons, List.find?_cons]
              by_cases z : a.1 = k
              · rw [if_pos z]
                have : decide (a.1 = j) = false := by simp; intro z'; exact q (by rw [← z', z])
                dsimp only
                rw [this]; exact ih
              · rw [if_neg z]
                cases decide (a.1 = j)
                · exact ih
                · rfl
          exact this r
      · rw [if_neg e]
        have hr : r.any (fun kv => decide (kv.1 = k)) = true := by simpa [e] using hany
        cases hq : decide (p.1 = j) with
        | true =>
          have : j ≠ k := fun z => e (by rw [← z]; simpa using hq)
          rw [if_neg this]
        | false => exact ih hr
  · rename_i hany
    rw [List.find?_append]
    by_cases q : j = k
    · subst q
      have : kvs.find? (fun kv => decide (kv.1 = j)) = none := by
        rw [List.find?_eq_none]; intro x hx hx'
        exact hany (List.any_eq_true.mpr ⟨x, hx, hx'⟩)
      rw [this]; simp
    · rw [if_neg q]
      cases kvs.find? (fun kv => decide (kv.1 = j)) with
      | some p => rfl
      | none => simp; (first | lia | omega)
theorem stored_len {kvs : List (Int × Value)} {k : Int} {v : Value} : (stored kvs k v).length = if (valueAt kvs k).isSome then kvs.length else kvs.length + 1 := by
  have : (valueAt kvs k).isSome = kvs.any (fun kv => decide (kv.1 = k)) := by
    unfold valueAt
    rw [Option.isSome_map]
    induction kvs with
    | nil => rfl
    | cons p r ih =>
      rw [List.find?_cons, List.any_cons]
      cases decide (p.1 = k)
      · simpa using ih
      · rfl
  rw [this]
  unfold stored
  split <;> simp

theorem OR.some_of {h : Heap} {v : Option V} {x : Option Value} (r : OR h v x) : v.isSome = x.isSome := by
  cases v <;> cases x <;> first | rfl | exact r.elim

/-- a store -/
noncomputable def putI (k : Int) (v : V) (f : Int → Option V) : Int → Option V := fun x => if x = k then some v else f x

section
variable {c c' : Cx} {m m' : Loc} {led led' : List As} {Kf : PySem.W.Frag} {k : Nat}


theorem low_new {T : Tmp} {h : Heap} (o : Ok c Kf k) (s : St c m led T h) {n : Nat} (hn : h.objs.size ≤ n) : (n == sysModules) = false := by
  rw [beq_eq_false_iff_ne]
  rintro rfl
  have h1 := modules_low o.nl
  have h2 := s.low
  have h3 := s.Llt
  exact absurd (Nat.lt_of_lt_of_le h1 (Nat.le_of_lt (Nat.lt_of_le_of_lt h2 (Nat.lt_of_lt_of_le h3 hn)))) (Nat.lt_irrefl _)

/-- lists: an item -/
theorem p_getL {l : Addr} {vs : List V} {i : Int} {v : V} {K : V → Loc → List As → Prop} (hm : MemA (.lst l vs) led) (h0 : 0 ≤ i) (h1 : i < 2 ^ 40) (hv : vs[i.toNat]? = some v) (h : K v m led) :
    P2 VR c m led getItem (.ref l) (.int i) K := fun x y T hp tk s r1 r2 => by
  rw [r1.ro]; obtain ⟨t, rfl⟩ := r2.io
  obtain ⟨items, n, hl, hr⟩ := s.ok _ hm.mem
  obtain ⟨z, hz, rz⟩ := hr.get hv
  exact wpAny_getItem_list (IsL.isList hl) h0 (by (first | lia | omega)) (by simpa using hz) (post_here s rz h)
theorem p_subL {value slice : Expr} {l : Addr} {vs : List V} {i : Int} {v : V} {K : V → Loc → List As → Prop} (hm : MemA (.lst l vs) led) (h0 : 0 ≤ i) (h1 : i < 2 ^ 40) (hv : vs[i.toNat]? = some v) (h : K v m led)
    (hs : ∀ u, subscripted slice false (.ref l) (.int i u) = operate [.ref l, .int i u] (getItem (.ref l) (.int i u)) := by intro _; with_unfolding_all rfl) :
    P2 VR c m led (subscriptTail value slice) (.ref l) (.int i) K := fun x y T hp tk s r1 r2 => by
  rw [r1.ro]; obtain ⟨t, rfl⟩ := r2.io
  obtain ⟨items, n, hl, hr⟩ := s.ok _ hm.mem
  exact tail_any ⟨_, hl, rfl⟩ slot_list_getitem.lookup (p_getL hm h0 h1 hv h _ _ T hp tk s VR.r VR.i) (hs t)
/-- tuples: an item -/
theorem p_subT {value slice : Expr} {vs : List V} {i : Int} {j : Nat} {v : V} {K : V → Loc → List As → Prop} (h0 : -1000 ≤ i) (h1 : i < 2 ^ 40) (hj : seqIndex? i vs.length = some j) (hv : vs[j]? = some v) (h : K v m led)
    (hs : ∀ a u, subscripted slice false (.ref a) (.int i u) = operate [.ref a, .int i u] (getItem (.ref a) (.int i u)) := by intro _ _; with_unfolding_all rfl) :
    P2 VR c m led (subscriptTail value slice) (.tup vs) (.int i) K := fun x y T hp tk s r1 r2 => by
  obtain ⟨a, items, n, rfl, ha, hr⟩ := r1.to
  obtain ⟨t, rfl⟩ := r2.io
  obtain ⟨z, hz, rz⟩ := hr.get hv
  have hsz : items.size = vs.length := by rw [hr.length]; simp
  exact tail_any ⟨_, ha, rfl⟩ PySem.F.slot_tuple_getitem.lookup (PySem.P.getItem_tuple ha (by (first | lia | omega)) (by (first | lia | omega)) (by rw [hsz]; exact hj) (by simpa using hz) (post_here s rz h)) (hs a t)
/-- dicts: an item -/
theorem p_getD {a : Addr} {n : Nat} {f : Int → Option V} {i : Int} {v : V} {K : V → Loc → List As → Prop} (hm : MemA (.dic c.prog c.w a n f) led) (hv : f i = some v) (h : K v m led) :
    P2 VR c m led getItem (.ref a) (.int i) K := fun x y T hp tk s r1 r2 => by
  rw [r1.ro]; obtain ⟨t, rfl⟩ := r2.io
  obtain ⟨_, g, hg, hn, hr⟩ := s.ok _ hm.mem
  have q := hr i
  rw [hv] at q
  cases hx : valueAt g i with
  | none => rw [hx] at q; exact q.elim
  | some z =>
    rw [hx] at q
    exact wpAny_getItem_of (intKind_is c.prog c.w i t) hg.mapOf hx (post_here s q h)
theorem p_subD {value slice : Expr} {a : Addr} {n : Nat} {f : Int → Option V} {i : Int} {v : V} {K : V → Loc → List As → Prop} (hm : MemA (.dic c.prog c.w a n f) led) (hv : f i = some v) (h : K v m led)
    (hs : ∀ u, subscripted slice false (.ref a) (.int i u) = operate [.ref a, .int i u] (getItem (.ref a) (.int i u)) := by intro _; with_unfolding_all rfl) :
    P2 VR c m led (subscriptTail value slice) (.ref a) (.int i) K := fun x y T hp tk s r1 r2 => by
  have q := p_getD hm hv h x y T hp tk s r1 r2
  obtain ⟨_, g, hg, hn, hr⟩ := s.ok _ hm.mem
  rw [r1.ro] at q ⊢; obtain ⟨t, rfl⟩ := r2.io
  exact tail_any hg.typeIs slot_dict_getitem.lookup q (hs t)
theorem p_subS {value slice : Expr} {a : Addr} {f : PySem.Str → Option V} {y : PySem.Str} {v : V} {K : V → Loc → List As → Prop} (hm : MemA (.sdc c.prog c.w a f) led) (hv : f y = some v) (h : K v m led)
    (hs : ∀ u, subscripted slice false (.ref a) (.str y u) = operate [.ref a, .str y u] (getItem (.ref a) (.str y u)) := by intro _; with_unfolding_all rfl) :
    P2 VR c m led (subscriptTail value slice) (.ref a) (.str y) K := fun x z T hp tk s r1 r2 => by
  rw [r1.ro]; obtain ⟨t, rfl⟩ := r2.so
  obtain ⟨_, g, hg, hr⟩ := s.ok _ hm.mem
  have q := hr y
  rw [hv] at q
  cases hx : valueAt g y with
  | none => rw [hx] at q; exact q.elim
  | some z =>
    rw [hx] at q
    exact tail_any hg.typeIs slot_dict_getitem.lookup (wpAny_getItem_of (strKind_is c.prog c.w y t) hg.mapOf hx (post_here s q h)) (hs t)
theorem p_in {a : Addr} {n : Nat} {f : Int → Option V} {i : Int} {K : V → Loc → List As → Prop} (hm : MemA (.dic c.prog c.w a n f) led) (h : K (.bool (f i).isSome) m led) : P2 VR c m led (compareOp .In) (.int i) (.ref a) K := fun x y T hp tk s r1 r2 => by
  rw [r2.ro]; obtain ⟨t, rfl⟩ := r1.io
  obtain ⟨z, g, hg, hn, hr⟩ := s.ok _ hm.mem
  exact wpAny_in_of (intKind_is c.prog c.w i t) z hg.mapOf (post_here s VR.b (by rw [← (hr i).some_of]; exact h))

/-- stores -/
theorem p_setL {l : Addr} {vs : List V} {i : Int} {v : V} {K : Unit → Loc → List As → Prop} (hu : UpdA (.lst l vs) (.lst l (vs.set i.toNat v)) led led') (h0 : 0 ≤ i) (h1 : i < vs.length) (h2 : i < 2 ^ 40) (h : K () m led') :
    P3 UR c m led setItem (.ref l) (.int i) v K := fun x y z T hp tk s r1 r2 r3 => by
  rw [r1.ro]; obtain ⟨t, rfl⟩ := r2.io
  obtain ⟨items, n, hl, hr⟩ := s.ok _ hu.mem
  have hsz : items.size = vs.length := by rw [hr.length]; simp
  refine ki_setAt hl h0 (by (first | lia | omega)) (by rw [hsz]; exact h1) ?_
  refine post_here (s.upd (a := l) hu rfl (.head _) (Heap.SameBut.update ..) fun tk => ⟨_, _, hl.update (·.setIfInBounds i.toNat z), by rw [Array.toList_setIfInBounds]; exact (hr.mono tk).set _ (r3.mono tk)⟩) (b := ()) trivial h
theorem p_setD {a : Addr} {n : Nat} {f : Int → Option V} {i : Int} {v : V} {K : Unit → Loc → List As → Prop} (hu : UpdA (.dic c.prog c.w a n f) (.dic c.prog c.w a (if (f i).isSome then n else n + 1) (putI i v f)) led led') (hn : n ≤ 100000) (h : K () m led') :
    P3 UR c m led setItem (.ref a) (.int i) v K := fun x y z T hp tk s r1 r2 r3 => by
  rw [r1.ro]; obtain ⟨t, rfl⟩ := r2.io
  obtain ⟨lo, g, hg, hn', hr⟩ := s.ok _ hu.mem
  refine wpAny_setItem_pairs (intKind_is c.prog c.w i t) hg (fun h' hg' hs => ?_) (by rw [sizeLine_eq]; (first | lia | omega))
  refine post_here (s.upd (a := a) hu rfl (.head _) hs fun tk => ⟨lo, _, hg', ?_, fun j => ?_⟩) (b := ()) trivial h
  · rw [stored_len, ← (hr i).some_of]
    split <;> (first | lia | omega)
  · rw [valueAt_stored]
    unfold putI
    split
    · exact r3.mono tk
    · exact (hr j).mono tk

/-- calls of built-ins -/
theorem n_append {l : Addr} {vs : List V} {v : V} {K : V → Loc → List As → Prop} (hu : UpdA (.lst l vs) (.lst l (vs ++ [v])) led led') (hz : vs.length ≤ 100000) (h : K .none m led') : PN VR c m led (fun ys => call (.builtin "list.append") ys) [.ref l, v] K := fun xs T hp tk s r => by
  obtain ⟨x, _, rfl, r1, r⟩ := r.inv
  obtain ⟨y, _, rfl, r2, r⟩ := r.inv
  rw [r.inv_nil, r1.ro]
  obtain ⟨items, n, hl, hr⟩ := s.ok _ hu.mem
  have hsz : items.size = vs.length := by rw [hr.length]; simp
  refine wpAny_list_append_plain ⟨n, hl⟩ (fun h' ⟨n', hl'⟩ hs => ?_) (by rw [hsz, sizeLine_eq]; (first | lia | omega))
  exact post_here (s.upd (a := l) hu rfl (.head _) hs fun tk => ⟨_, n', hl', by rw [Array.toList_push]; exact (hr.mono tk).append (VRs.one (r2.mono tk))⟩) VR.n h
end
section
variable {c c' : Cx} {m m' : Loc} {led led' : List As} {Kf : PySem.W.Frag} {k : Nat}

theorem keepPush {h : Heap} (ob : Obj) : ∀ b o, h.get? b = some o → (h.push ob).get? b = some o := fun b o e => Heap.get?_push_of_some _ e

theorem n_lenL {l : Addr} {vs : List V} {K : V → Loc → List As → Prop} (hm : MemA (.lst l vs) led) (hz : vs.length < 2 ^ 40) (h : K (.int vs.length) m led) : PN VR c m led (fun ys => call (.builtin "len") ys) [.ref l] K := fun xs T hp tk s r => by
  obtain ⟨x, _, rfl, r1, r⟩ := r.inv
  rw [r.inv_nil, r1.ro]
  obtain ⟨items, n, hl, hr⟩ := s.ok _ hm.mem
  have hsz : items.size = vs.length := by rw [hr.length]; simp
  exact len_list (IsL.isList hl) (by (first | lia | omega)) (post_here s VR.i (by rw [hsz]; exact h))
theorem n_lenT {vs : List V} {K : V → Loc → List As → Prop} (hz : vs.length < 2 ^ 40) (h : K (.int vs.length) m led) : PN VR c m led (fun ys => call (.builtin "len") ys) [.tup vs] K := fun xs T hp tk s r => by
  obtain ⟨x, _, rfl, r1, r⟩ := r.inv
  rw [r.inv_nil]
  obtain ⟨a, items, n, rfl, ha, hr⟩ := r1.to
  have hsz : items.size = vs.length := by rw [hr.length]; simp
  exact PySem.P.len_tuple ha (by (first | lia | omega)) (post_here s VR.i (by rw [hsz]; exact h))
theorem n_range {n : Int} {K : V → Loc → List As → Prop} (h : K (.rng n) m led) : PN VR c m led (fun ys => call (.type "range") ys) [.int n] K := fun xs T hp tk s r => by
  obtain ⟨x, _, rfl, r1, r⟩ := r.inv
  rw [r.inv_nil]
  obtain ⟨t, rfl⟩ := r1.io
  exact call_range_1 (post_here (s.keep (keepPush _)) (VR.rn (Heap.get?_push_size _ rfl)) h)
theorem n_tupleL {l : Addr} {vs : List V} {K : V → Loc → List As → Prop} (hm : MemA (.lst l vs) led) (hz : vs.length < 10000) (h : K (.tup vs) m led) : PN VR c m led (fun ys => call (.type "tuple") ys) [.ref l] K := fun xs T hp tk s r => by
  obtain ⟨x, _, rfl, r1, r⟩ := r.inv
  rw [r.inv_nil, r1.ro]
  obtain ⟨items, n, hl, hr⟩ := s.ok _ hm.mem
  have hsz : items.size = vs.length := by rw [hr.length]; simp
  refine call_tuple_list (IsL.isList hl) (fun h' hk => ?_) (by rw [hsz, sizeLine_eq]; (first | lia | omega))
  exact post_here ((s.keep hk).keep (keepPush _)) (VR.ti (Heap.get?_push_size _ rfl) ((hr.mono (TK.of_keep hk)).mono (TK.of_keep (keepPush _)))) h
theorem n_tupleT {vs : List V} {K : V → Loc → List As → Prop} (h : K (.tup vs) m led) : PN VR c m led (fun ys => call (.type "tuple") ys) [.tup vs] K := fun xs T hp tk s r => by
  obtain ⟨x, _, rfl, r1, r⟩ := r.inv
  rw [r.inv_nil]
  obtain ⟨a, items, n, rfl, ha, hr⟩ := id r1.to
  exact call_tuple_tup ⟨_, ha, rfl, n, rfl⟩ (post_here s r1 h)

theorem new_lst {T : Tmp} {h h' : Heap} {vs : List V} {items : Array Value} {n : Nat} (s : St c m led T h) (hk : ∀ b o, h.get? b = some o → h'.get? b = some o) (hl : IsL h' h.objs.size items n) (hr : VRs h vs items.toList) : St c m (.lst h.objs.size vs :: led) T h' :=
  s.new hk ⟨items, n, hl, hr.mono (TK.of_keep hk)⟩ (fun a ha => by rw [List.mem_singleton.mp ha]; exact Nat.le_refl _) (by simp [As.addrs])

theorem n_listL {l : Addr} {vs : List V} {K : V → Loc → List As → Prop} (hm : MemA (.lst l vs) led) (hz : vs.length < 10000) (h : ∀ D, K (.ref D) m (.lst D vs :: led)) : PN VR c m led (fun ys => call (.type "list") ys) [.ref l] K := fun xs T hp tk s r => by
  obtain ⟨x, _, rfl, r1, r⟩ := r.inv
  rw [r.inv_nil, r1.ro]
  obtain ⟨items, n, hl, hr⟩ := s.ok _ hm.mem
  have hsz : items.size = vs.length := by rw [hr.length]; simp
  refine call_list_seq l (.inl rfl) hl rfl rfl (fun h' c' hk hD => ?_) (by rw [hsz, sizeLine_eq]; (first | lia | omega))
  exact post_here (new_lst s hk hD hr) VR.r (h _)

theorem ints_are {h : Heap} : ∀ {ns : List Int} {xs : List Value}, VRs h (ns.map .int) xs → IntsAre xs ns
  | [], xs, r => by rw [List.map_nil] at r; rw [r.inv_nil]; exact .nil
  | n :: ns, xs, r => by
    rw [List.map_cons] at r
    obtain ⟨x, ys, rfl, r1, r2⟩ := r.inv
    obtain ⟨t, rfl⟩ := r1.io
    exact .cons n t (ints_are r2)

theorem St.keepL {T : Tmp} {h h' : Heap} {mv : PySem.Str → Option Value} (s : St c m led T h) (hn : h.Ns c.L mv) (hr : LocR h m mv) (hn' : h'.Ns c.L mv) (hk : ∀ b o, b ≠ c.L → h.get? b = some o → h'.get? b = some o) : St c m led T h' := by
  obtain ⟨oL, hoL, hnL⟩ := ns_notTup hn
  have tk : TK h h' := fun b ob i e => hk b ob (fun q => by subst q; rw [hoL] at e; cases e; exact hnL i) e
  have nd := s.nd
  rw [List.nodup_cons] at nd
  refine ⟨⟨mv, hn', hr.mono tk⟩, s.keys, s.kinds, fun b ob e => hk b ob (Nat.ne_of_lt (Nat.lt_of_lt_of_le (Heap.lt_size e) s.low)) (s.base b ob e), s.low, fun b ob e1 e2 e3 => hk b ob e1 (s.ext b ob e1 e2 e3), s.nd, fun x hx => ?_, s.own, s.tmp.mono tk⟩
  exact (s.ok x hx).mono tk fun b hb ob e => hk b ob (fun q => nd.1 (q ▸ List.mem_flatMap.mpr ⟨x, hx, hb⟩)) e
/-- all that stands, by the library's words -/
theorem keep_of {T : Tmp} {h h' : Heap} {mv : PySem.Str → Option Value} {new : List (Addr × Obj)} (s : St c m led T h) (F' : Fr c.h₀ c.L h' mv) (N' : News c.h₀ c.L h' (new ++ others c.h₀ c.L h [])) : ∀ b o, b ≠ c.L → h.get? b = some o → h'.get? b = some o := fun b ob e1 e2 => by
  cases q : c.h₀.get? b with
  | some ob' =>
    have := s.base b ob' q
    rw [e2] at this; cases this
    exact F'.keep b ob q
  | none => exact (N' (b, ob) (List.mem_append_right _ (others_mem.mpr ⟨e2, e1, by simp, q⟩))).1

theorem n_sum {l : Addr} {ns : List Int} {K : V → Loc → List As → Prop} (hh : c.A.handled = none) (hm : MemA (.lst l (ns.map .int)) led) (h : K (.int ns.sum) m led) : PN VR c m led (fun ys => call (.builtin "sum") ys) [.ref l] K := fun xs T hp tk s r => by
  obtain ⟨x, _, rfl, r1, r⟩ := r.inv
  rw [r.inv_nil, r1.ro]
  obtain ⟨items, n, hl, hr⟩ := s.ok _ hm.mem
  obtain ⟨mv, F, hrl⟩ := s.fr
  refine LSm.sum_ints (vs := items.toList) (news := others c.h₀ c.L hp []) F others_news hh (by rw [Array.toArray_toList]; exact IsL.isList hl) (ints_are hr) fun h' tk' t' F' N' => ?_
  exact post_here (s.keepL F.ns hrl F'.ns (keep_of (new := []) s F' N')) VR.i h
theorem n_str {i : Int} {K : V → Loc → List As → Prop} (hi : i.natAbs < 2 ^ 60) (h : K (.str (PySem.Str.ofString (toString i))) m led) : PN VR c m led (fun ys => call (.type "str") ys) [.int i] K := fun xs T hp tk s r => by
  obtain ⟨x, _, rfl, r1, r⟩ := r.inv
  rw [r.inv_nil]
  obtain ⟨t, rfl⟩ := r1.io
  refine PySem.P.str_of_int ?_ (post_here s VR.s h)
  by_cases e : i.natAbs = 0
  · rw [e]; decide
  · exact Nat.lt_of_lt_of_le ((Nat.log2_lt e).mpr hi) (by decide)

/-- dict.get -/
theorem n_getD {a : Addr} {n : Nat} {f : Int → Option V} {i : Int} {d v : V} {K : V → Loc → List As → Prop} (hm : MemA (.dic c.prog c.w a n f) led) (hv : (f i).getD d = v) (h : K v m led) :
    PN VR c m led (fun ys => call (.builtin "dict.get") ys) [.ref a, .int i, d] K := fun xs T hp tk s r => by
  obtain ⟨x, _, rfl, r1, r⟩ := r.inv
  obtain ⟨y, _, rfl, r2, r⟩ := r.inv
  obtain ⟨z, _, rfl, r3, r⟩ := r.inv
  rw [r.inv_nil, r1.ro]
  obtain ⟨t, rfl⟩ := r2.io
  obtain ⟨lo, g, hg, hn, hr⟩ := s.ok _ hm.mem
  have q := hr i
  refine call_meetsIn PySem.F.slot_dict_get hg.typeIs PySem.F.entry_dict_get (PySem.F.args_dict_get_3 _ _ _) (meets_dict_get_default (intKind c.prog c.w) a (intKind_is c.prog c.w i t) lo z) ⟨_, hg.mapOf, ?_⟩
  refine post_here s ?_ h
  rw [← hv]
  cases hf : f i <;> cases hx : valueAt g i <;> rw [hf, hx] at q
  · exact r3
  · exact q.elim
  · exact q.elim
  · exact q
theorem n_getS {a : Addr} {f : PySem.Str → Option V} {y : PySem.Str} {d v : V} {K : V → Loc → List As → Prop} (hm : MemA (.sdc c.prog c.w a f) led) (hv : (f y).getD d = v) (h : K v m led) :
    PN VR c m led (fun ys => call (.builtin "dict.get") ys) [.ref a, .str y, d] K := fun xs T hp tk s r => by
  obtain ⟨x, _, rfl, r1, r⟩ := r.inv
  obtain ⟨y', _, rfl, r2, r⟩ := r.inv
  obtain ⟨z, _, rfl, r3, r⟩ := r.inv
  rw [r.inv_nil, r1.ro]
  obtain ⟨t, rfl⟩ := r2.so
  obtain ⟨lo, g, hg, hr⟩ := s.ok _ hm.mem
  have q := hr y
  refine call_meetsIn PySem.F.slot_dict_get hg.typeIs PySem.F.entry_dict_get (PySem.F.args_dict_get_3 _ _ _) (meets_dict_get_default (strKind c.prog c.w) a (strKind_is c.prog c.w y t) lo z) ⟨_, hg.mapOf, ?_⟩
  refine post_here s ?_ h
  rw [← hv]
  cases hf : f y <;> cases hx : valueAt g y <;> rw [hf, hx] at q
  · exact r3
  · exact q.elim
  · exact q.elim
  · exact q
theorem n_getS1 {a : Addr} {f : PySem.Str → Option V} {y : PySem.Str} {v : V} {K : V → Loc → List As → Prop} (hm : MemA (.sdc c.prog c.w a f) led) (hv : (f y).getD .none = v) (h : K v m led) :
    PN VR c m led (fun ys => call (.builtin "dict.get") ys) [.ref a, .str y] K := fun xs T hp tk s r => by
  obtain ⟨x, _, rfl, r1, r⟩ := r.inv
  obtain ⟨y', _, rfl, r2, r⟩ := r.inv
  rw [r.inv_nil, r1.ro]
  obtain ⟨t, rfl⟩ := r2.so
  obtain ⟨lo, g, hg, hr⟩ := s.ok _ hm.mem
  have q := hr y
  refine call_meetsIn PySem.F.slot_dict_get hg.typeIs PySem.F.entry_dict_get (PySem.F.args_dict_get_2 _ _) (meets_dict_get (strKind c.prog c.w) a (strKind_is c.prog c.w y t) lo) ⟨_, hg.mapOf, ?_⟩
  refine post_here s ?_ h
  rw [← hv]
  cases hf : f y <;> cases hx : valueAt g y <;> rw [hf, hx] at q
  · exact VR.n
  · exact q.elim
  · exact q.elim
  · exact q
theorem g_dget {a : Addr} {n : Nat} {f : Int → Option V} {pl : Sem Bool} {K : Value → List V → Prop} (hm : MemA (.dic c.prog c.w a n f) led) (h : K (.builtin "dict.get") [.ref a]) : GM c m led "get" pl (.ref a) K := fun x T hp tk s r => by
  rw [r.ro]
  obtain ⟨lo, g, hg, hn, hr⟩ := s.ok _ hm.mem
  exact getMethod_builtin hg.typeIs PySem.F.plainAttrs_dict PySem.F.slot_dict_get PySem.F.type_dict_get hg.mapOf.noDict ⟨_, _, rfl, VRs.one VR.r, h⟩
theorem g_dgetS {a : Addr} {f : PySem.Str → Option V} {pl : Sem Bool} {K : Value → List V → Prop} (hm : MemA (.sdc c.prog c.w a f) led) (h : K (.builtin "dict.get") [.ref a]) : GM c m led "get" pl (.ref a) K := fun x T hp tk s r => by
  rw [r.ro]
  obtain ⟨lo, g, hg, hr⟩ := s.ok _ hm.mem
  exact getMethod_builtin hg.typeIs PySem.F.plainAttrs_dict PySem.F.slot_dict_get PySem.F.type_dict_get hg.mapOf.noDict ⟨_, _, rfl, VRs.one VR.r, h⟩

/-- displays -/
noncomputable abbrev KLs (K : V → Loc → List As → Prop) (vs : List V) (m : Loc) (led : List As) : Prop := vs.length ≤ 10000 ∧ ∀ D, K (.ref D) m (.lst D vs :: led)
noncomputable abbrev KTp (K : V → Loc → List As → Prop) (vs : List V) (m : Loc) (led : List As) : Prop := vs.length ≤ 10000 ∧ K (.tup vs) m led
theorem e_list {elts : List Expr} {pos : Pos} {K : V → Loc → List As → Prop} (h : SA c m led pos elts (KLs K)) : SE c m led (.List elts pos) K := fun T hp tk s =>
  PySem.wpAny_List (wpAny_mono (h T hp tk s) (fun a s1 zz => Post.go zz fun v1 h1 tk1 m1 led1 e s1' r1 ⟨hz, k1⟩ => by
    subst e
    have hlen : a.length = v1.length := r1.length.symm
    refine ⟨by rw [hlen, sizeLine_eq]; (first | lia | omega), ?_⟩
    exact post_here (new_lst s1' (keepPush _) (Heap.get?_push_size _ rfl) r1) VR.r (k1 _)) fun _ _ x => x)
theorem e_tup {elts : List Expr} {kk : Nat} {pos : Pos} {K : V → Loc → List As → Prop} (h : SA c m led pos elts (KTp K)) : SE c m led (.Tuple elts kk pos) K := fun T hp tk s =>
  PyProof.Rows.Tuple_ (wpAny_mono (h T hp tk s) (fun a s1 zz => Post.go zz fun v1 h1 tk1 m1 led1 e s1' r1 ⟨hz, k1⟩ => by
    subst e
    have hlen : a.length = v1.length := r1.length.symm
    refine wpAny_newObj_type ?_ (by show a.toArray.size ≤ sizeLine; rw [List.size_toArray, hlen, sizeLine_eq]; (first | lia | omega))
    exact post_here (s1'.keep (keepPush _)) (VR.ti (Heap.get?_push_size _ rfl) (r1.mono (TK.of_keep (keepPush _)))) k1) fun _ _ x => x)
theorem e_dict0 {pos : Pos} {K : V → Loc → List As → Prop} (o : Ok c Kf k) (h : ∀ D, K (.ref D) m (.dic c.prog c.w D 0 (fun _ => none) :: led)) : SE c m led (.Dict [] [] pos) K := fun T hp tk s => by
  refine wpAny_Dict_empty ?_
  refine post_here (s.new (x := .dic c.prog c.w hp.objs.size 0 (fun _ => none)) (keepPush _) ⟨low_new o s (Nat.le_refl _), [], Heap.DictOf.new hp, Nat.le_refl _, fun _ => trivial⟩ (fun a ha => by rw [List.mem_singleton.mp ha]; exact Nat.le_refl _) (by simp [As.addrs])) VR.r (h _)

/-- the pairs of a display -/
noncomputable def PRs (h : Heap) : List (V × V) → List (Value × Value) → Prop
  | [], [] => True
  | (a, b) :: r, (x, y) :: s => VR h a x ∧ VR h b y ∧ PRs h r s
  | _, _ => False
noncomputable abbrev SD (c : Cx) (m : Loc) (led : List As) (pos : Pos) (ks : List (Option Expr)) (vs : List Expr) (K : List (V × V) → Loc → List As → Prop) : Prop := SP PRs c m led (evalPairs (pairTrees ks vs c.env pos)) K
theorem sd_nil {pos : Pos} {K : List (V × V) → Loc → List As → Prop} (h : K [] m led) : SD c m led pos [] [] K := fun T hp tk s => evalPairs_nil (post_here s (b := []) trivial h)
noncomputable abbrev KD3 (K : List (V × V) → Loc → List As → Prop) (a b : V) (r : List (V × V)) (m : Loc) (led : List As) : Prop := K ((a, b) :: r) m led
noncomputable abbrev KD2 (c : Cx) (pos : Pos) (ks : List (Option Expr)) (vs : List Expr) (K : List (V × V) → Loc → List As → Prop) (a b : V) (m : Loc) (led : List As) : Prop := SD c m led pos ks vs (KD3 K a b)
noncomputable abbrev KD1 (c : Cx) (ve : Expr) (pos : Pos) (ks : List (Option Expr)) (vs : List Expr) (K : List (V × V) → Loc → List As → Prop) (a : V) (m : Loc) (led : List As) : Prop := SE c m led ve (KD2 c pos ks vs K a)
theorem sd_cons {pos : Pos} {ke ve : Expr} {ks : List (Option Expr)} {vs : List Expr} {K : List (V × V) → Loc → List As → Prop} (h : SE c m led ke (KD1 c ve pos ks vs K))
    (he : pairTrees (some ke :: ks) (ve :: vs) c.env pos = (eval ke c.env, do let x ← eval ve c.env; standAt pos; pure x) :: pairTrees ks vs c.env pos := by rfl) : SD c m led pos (some ke :: ks) (ve :: vs) K := fun T hp tk s => by
  rw [he]
  refine evalPairs_cons (wpAny_mono (h T hp tk s) (fun a s1 zz => Post.go zz fun v1 h1 tk1 m1 led1 e s1' r1 k1 => ?_) fun _ _ x => x)
  subst e
  refine wpAny_bind (wpAny_mono (k1 (T.cons v1 a) h1 tk1 (s1'.cons r1)) (fun b s2 zz => Post.go zz fun v2 h2 tk2 m2 led2 e s2' r2 k2 => ?_) fun _ _ x => x)
  subst e
  refine wpAny_bind (wpAny_standAt (wpAny_pure ?_))
  refine wpAny_mono (k2 ((T.cons v1 a).cons v2 b) h2 tk2 (s2'.cons r2)) (fun d s3 zz => Post.go zz fun v3 h3 tk3 m3 led3 e s3' r3 k3 => ?_) fun _ _ x => x
  subst e
  exact post_here s3'.tail.tail (b := (v1, v2) :: v3) ⟨s3'.tail.head, s3'.head, r3⟩ k3
end
theorem empty_of {K : Type} [DecidableEq K] {g : List (K × Value)} (h : ∀ k, valueAt g k = none) : g = [] := by
  cases g with
  | nil => rfl
  | cons p r =>
    have := h p.1
    unfold valueAt at this
    rw [List.find?_cons] at this
    simp at this

section
variable {c c' : Cx} {m m' : Loc} {led led' : List As} {Kf : PySem.W.Frag} {k : Nat}

noncomputable def ivp (p : Int × V) : V × V := (.int p.1, p.2)
noncomputable def svp (p : PySem.Str × V) : V × V := (.str p.1, p.2)
theorem prs_int {h : Heap} : ∀ {prs : List (Int × V)} {xs : List (Value × Value)}, PRs h (prs.map ivp) xs → allIntKeys xs = true ∧ (intKeyPairs xs).map (·.1) = prs.map (·.1) ∧ (∀ k, OR h (prs.lookup k) (valueAt (intKeyPairs xs) k)) ∧ xs.length = prs.length
  | [], [], _ => ⟨rfl, rfl, fun _ => trivial, rfl⟩
  | p :: prs, (x, y) :: xs, r => by
    obtain ⟨r1, r2, r3⟩ := r
    have r1 : VR h (.int p.1) x := r1
    obtain ⟨t, rfl⟩ := r1.io
    have ih := prs_int r3
    refine ⟨ih.1, by simp only [intKeyPairs, List.map_cons, ih.2.1], fun k => ?_, by simp only [List.length_cons, ih.2.2.2]⟩
    obtain ⟨a, b⟩ := p
    show OR h (List.lookup k ((a, b) :: prs)) (Option.map (·.2) (List.find? (fun kv => decide (kv.1 = k)) ((a, y) :: intKeyPairs xs)))
    rw [List.lookup_cons, List.find?_cons]
    by_cases e : k = a
    · subst e; simp; exact r2
    · have h1 : (k == a) = false := beq_eq_false_iff_ne.mpr e
      have h2 : decide (a = k) = false := by simp; exact fun z => e z.symm
      dsimp only
      rw [h1, h2]; exact ih.2.2.1 k
  | [], _ :: _, r => r.elim
  | _ :: _, [], r => r.elim
theorem prs_str {h : Heap} : ∀ {prs : List (PySem.Str × V)} {xs : List (Value × Value)}, PRs h (prs.map svp) xs → allStrKeys xs = true ∧ (strPairs xs).map (·.1) = prs.map (·.1) ∧ ∀ k, OR h (prs.lookup k) (valueAt (strPairs xs) k)
  | [], [], _ => ⟨rfl, rfl, fun _ => trivial⟩
  | p :: prs, (x, y) :: xs, r => by
    obtain ⟨r1, r2, r3⟩ := r
    have r1 : VR h (.str p.1) x := r1
    obtain ⟨t, rfl⟩ := r1.so
    have ih := prs_str r3
    refine ⟨ih.1, by simp only [strPairs, List.map_cons, ih.2.1], fun k => ?_⟩
    obtain ⟨a, b⟩ := p
    show OR h (List.lookup k ((a, b) :: prs)) (Option.map (·.2) (List.find? (fun kv => decide (kv.1 = k)) ((a, y) :: strPairs xs)))
    rw [List.lookup_cons, List.find?_cons]
    by_cases e : k = a
    · subst e; simp; exact r2
    · have h1 : (k == a) = false := beq_eq_false_iff_ne.mpr e
      have h2 : decide (a = k) = false := by simp; exact fun z => e z.symm
      dsimp only
      rw [h1, h2]; exact ih.2.2 k
  | [], _ :: _, r => r.elim
  | _ :: _, [], r => r.elim

theorem e_dictI {ks : List (Option Expr)} {vs : List Expr} {pos : Pos} {K : V → Loc → List As → Prop} (o : Ok c Kf k) (prs : List (Int × V)) (hall : ks.all (·.isSome) = true) (hl : ks.length = vs.length) (h0 : ks ≠ []) (hlen : ks.length ≤ 15)
    (hnd : (prs.map (·.1)).Nodup) (hp : SD c m led pos ks vs fun r m1 led1 => r = prs.map ivp ∧ m1 = m ∧ led1 = led) (h : ∀ D, K (.ref D) m (.dic c.prog c.w D prs.length (fun k => prs.lookup k) :: led)) : SE c m led (.Dict ks vs pos) K := fun T hh tk s => by
  refine wpAny_Dict_walk (knd := intKind c.prog c.w) hall hl h0 hlen ?_
  have s1 : St c m (.dic c.prog c.w hh.objs.size 0 (fun _ => none) :: led) T (hh.push { cls := .type "dict", data := .dict #[] }) :=
    s.new (x := .dic c.prog c.w hh.objs.size 0 (fun _ => none)) (keepPush _) ⟨low_new o s (Nat.le_refl _), [], Heap.DictOf.new hh, Nat.le_refl _, fun _ => trivial⟩ (fun a ha => by rw [List.mem_singleton.mp ha]; exact Nat.le_refl _) (by simp [As.addrs])
  refine wpAny_mono (hp _ _ tk ((s1.sub (List.sublist_cons_self _ _)).rebase (addrsOf led) fun _ q => q)) (fun xs s2 zz => Post.go zz fun v2 h2 tk2 m2 led2 e s2' r2 ⟨ev, em, el⟩ => ?_) fun _ _ x => x
  subst e ev em el
  have s3 := s1.unsel s2'
  obtain ⟨lo, g, hg, hn, hr⟩ := s3.ok _ (.head _)
  have hg0 : g = [] := empty_of fun k => by
    have := hr k
    cases q : valueAt g k with
    | none => rfl
    | some _ => rw [q] at this; exact this.elim
  subst hg0
  obtain ⟨p1, p2, p3, p4⟩ := prs_int r2
  refine display_done_int p1 (by rw [p2]; exact hnd) hg fun h' hg' hs => ?_
  refine post_here (s3.upd (a := hh.objs.size) (x' := .dic c.prog c.w hh.objs.size prs.length (fun k => prs.lookup k)) .head rfl (.head _) hs fun tk => ⟨lo, _, hg', ?_, fun k => (p3 k).mono tk⟩) VR.r (h _)
  have : (intKeyPairs xs).length = prs.length := by
    have := congrArg List.length p2
    simpa using this
  (first | lia | omega)
theorem e_dictS {ks : List (Option Expr)} {vs : List Expr} {pos : Pos} {K : V → Loc → List As → Prop} (o : Ok c Kf k) (prs : List (PySem.Str × V)) (hall : ks.all (·.isSome) = true) (hl : ks.length = vs.length) (h0 : ks ≠ []) (hlen : ks.length ≤ 15)
    (hnd : (prs.map (·.1)).Nodup) (hp : SD c m led pos ks vs fun r m1 led1 => r = prs.map svp ∧ m1 = m ∧ led1 = led) (h : ∀ D, K (.ref D) m (.sdc c.prog c.w D (fun k => prs.lookup k) :: led)) : SE c m led (.Dict ks vs pos) K := fun T hh tk s => by
  refine wpAny_Dict_walk (knd := strKind c.prog c.w) hall hl h0 hlen ?_
  have s1 : St c m (.sdc c.prog c.w hh.objs.size (fun _ => none) :: led) T (hh.push { cls := .type "dict", data := .dict #[] }) :=
    s.new (x := .sdc c.prog c.w hh.objs.size (fun _ => none)) (keepPush _) ⟨low_new o s (Nat.le_refl _), [], Heap.DictOf.new hh, fun _ => trivial⟩ (fun a ha => by rw [List.mem_singleton.mp ha]; exact Nat.le_refl _) (by simp [As.addrs])
  refine wpAny_mono (hp _ _ tk ((s1.sub (List.sublist_cons_self _ _)).rebase (addrsOf led) fun _ q => q)) (fun xs s2 zz => Post.go zz fun v2 h2 tk2 m2 led2 e s2' r2 ⟨ev, em, el⟩ => ?_) fun _ _ x => x
  subst e ev em el
  have s3 := s1.unsel s2'
  obtain ⟨lo, g, hg, hr⟩ := s3.ok _ (.head _)
  have hg0 : g = [] := empty_of fun k => by
    have := hr k
    cases q : valueAt g k with
    | none => rfl
    | some _ => rw [q] at this; exact this.elim
  subst hg0
  obtain ⟨p1, p2, p3⟩ := prs_str r2
  refine display_done_str p1 (by rw [p2]; exact hnd) hg fun h' hg' hs => ?_
  exact post_here (s3.upd (a := hh.objs.size) (x' := .sdc c.prog c.w hh.objs.size (fun k => prs.lookup k)) .head rfl (.head _) hs fun tk => ⟨lo, _, hg', fun k => (p3 k).mono tk⟩) VR.r (h _)

/-- sums of sequences -/
theorem p_addL {a b : Addr} {vs us : List V} {K : V → Loc → List As → Prop} (ha : MemA (.lst a vs) led) (hb : MemA (.lst b us) led) (hz : vs.length + us.length ≤ 10000) (h : ∀ D, K (.ref D) m (.lst D (vs ++ us) :: led)) :
    P2 VR c m led (binaryOp .Add) (.ref a) (.ref b) K := fun x y T hp tk s r1 r2 => by
  rw [r1.ro, r2.ro]
  obtain ⟨i1, n1, l1, q1⟩ := s.ok _ ha.mem
  obtain ⟨i2, n2, l2, q2⟩ := s.ok _ hb.mem
  have z1 : i1.size = vs.length := by rw [q1.length]; simp
  have z2 : i2.size = us.length := by rw [q2.length]; simp
  refine PySem.P.add_list l1 l2 ?_ (by rw [z1, z2, sizeLine_eq]; (first | lia | omega))
  exact post_here (new_lst s (keepPush _) (Heap.get?_push_size _ rfl) (by rw [Array.toList_append]; exact q1.append q2)) VR.r (h _)
theorem p_addT {vs us : List V} {K : V → Loc → List As → Prop} (hv : vs ≠ []) (hu : us ≠ []) (hz : vs.length + us.length ≤ 10000) (h : K (.tup (vs ++ us)) m led) :
    P2 VR c m led (binaryOp .Add) (.tup vs) (.tup us) K := fun x y T hp tk s r1 r2 => by
  obtain ⟨a, i1, n1, rfl, l1, q1⟩ := r1.to
  obtain ⟨b, i2, n2, rfl, l2, q2⟩ := r2.to
  have z1 : i1.size = vs.length := by rw [q1.length]; simp
  have z2 : i2.size = us.length := by rw [q2.length]; simp
  have e1 : ¬ i1.isEmpty = true := by
    intro e; rw [Array.isEmpty_iff_size_eq_zero, z1] at e; exact hv (List.length_eq_zero_iff.mp e)
  have e2 : ¬ i2.isEmpty = true := by
    intro e; rw [Array.isEmpty_iff_size_eq_zero, z2] at e; exact hu (List.length_eq_zero_iff.mp e)
  refine PySem.P.add_tuple l1 l2 e1 e2 ?_ (by rw [z1, z2, sizeLine_eq]; (first | lia | omega))
  exact post_here (s.keep (keepPush _)) (VR.ti (Heap.get?_push_size _ rfl) (by rw [Array.toList_append]; exact (q1.append q2).mono (TK.of_keep (keepPush _)))) h
theorem p_mulL {a : Addr} {v : V} {x : Int} {K : V → Loc → List As → Prop} (ha : MemA (.lst a [v]) led) (h0 : 0 ≤ x) (h1 : x ≤ 10000) (h : ∀ D, K (.ref D) m (.lst D (List.replicate x.toNat v) :: led)) :
    P2 VR c m led (binaryOp .Mult) (.ref a) (.int x) K := fun x' y T hp tk s r1 r2 => by
  rw [r1.ro]; obtain ⟨t, rfl⟩ := r2.io
  obtain ⟨i1, n1, l1, q1⟩ := s.ok _ ha.mem
  have z1 : i1.size = 1 := by have := q1.length; simpa using this.symm
  obtain ⟨mv, F, hrl⟩ := s.fr
  refine PyProof.Rows.mul_list (news := others c.h₀ c.L hp []) F others_news l1 (by (first | lia | omega)) (by (first | lia | omega)) (by rw [z1]; (first | lia | omega)) fun h' F' N' => ?_
  rw [PyProof.Rows.listMul_foldl_if] at N'
  have s1 := s.keepL F.ns hrl F'.ns (keep_of (new := [_]) s F' N')
  have hk : TK hp h' := fun b ob i e => (keep_of (new := [_]) s F' N') b ob (fun q => (s.tup_off e i).1 q) e
  have hD := (N' _ (.head _)).1
  obtain ⟨y0, e0⟩ : ∃ y, i1.toList = [y] := by
    have : i1.toList.length = 1 := by simpa using z1
    exact List.length_eq_one_iff.mp this
  rw [e0] at q1
  have r0 : VR hp v y0 := by simp only [VRs] at q1; exact q1.1
  have hDL : hp.objs.size ≠ c.L := fun e => absurd s.Llt (e ▸ Nat.lt_irrefl _)
  have hDo : hp.objs.size ∉ addrsOf led := fun q => absurd (s.lt _ q) (Nat.lt_irrefl _)
  have nd := s1.nd
  rw [List.nodup_cons] at nd
  have fr := s.fresh (get_none_of_ge (h := hp) (Nat.le_refl _)) hDL
  refine post_here (m := m) (led := .lst hp.objs.size (List.replicate x.toNat v) :: led) ⟨s1.ns, s1.keys, s1.kinds, s1.base, s1.low, s1.ext, ?_, ?_, ?_, s1.tmp⟩ VR.r (h _)
  · rw [List.nodup_cons, addrs_cons]
    refine ⟨fun q => ?_, List.nodup_append.mpr ⟨by simp [As.addrs], nd.2, fun a ha b hb e => ?_⟩⟩
    · rcases List.mem_append.mp q with q | q
      · exact hDL (List.mem_singleton.mp q).symm
      · exact nd.1 q
    · rw [← e, List.mem_singleton.mp ha] at hb; exact hDo hb
  · intro z hz
    rcases List.mem_cons.mp hz with rfl | hz
    · refine ⟨_, 0, hD, ?_⟩
      have : (List.replicate x.toNat i1.toList).flatten = List.replicate x.toNat y0 := by
        rw [e0]
        generalize x.toNat = n
        induction n with
        | zero => rfl
        | succ n ih => rw [List.replicate_succ, List.flatten_cons, ih]; rfl
      show VRs h' _ (List.toArray _).toList
      rw [this]
      exact VRs.replicate (r0.mono hk) _
    · exact s1.ok z hz
  · intro b hb
    rw [addrs_cons] at hb
    rcases List.mem_append.mp hb with q | q
    · rw [List.mem_singleton.mp q]; exact fr
    · exact s1.own b q
theorem p_adds {x y : PySem.Str} {K : V → Loc → List As → Prop} (hz : x.length + y.length ≤ 10000) (h : K (.str (x ++ y)) m led) : P2 VR c m led (binaryOp .Add) (.str x) (.str y) K := fun x' y' T hp tk s r1 r2 => by
  obtain ⟨t, rfl⟩ := r1.so; obtain ⟨u, rfl⟩ := r2.so
  exact PyProof.Rows.add_str (fun t' tk => post_here s VR.s h) (by rw [sizeLine_eq]; (first | lia | omega))
noncomputable abbrev KNg (c : Cx) (K : V → Loc → List As → Prop) (v : V) (m : Loc) (led : List As) : Prop := P1 VR c m led (unaryOp .USub) v K
theorem e_neg {e : Expr} {pos : Pos} {K : V → Loc → List As → Prop} (h : SE c m led e (KNg c K)) : SE c m led (.UnaryOp .USub e pos) K := fun T hp tk s =>
  UnaryOp_ (wpAny_mono (h T hp tk s) (fun a s1 zz => Post.go zz fun v1 h1 tk1 m1 led1 e s1' r1 k1 => by subst e; exact k1 a T h1 tk1 s1' r1) fun _ _ x => x)
theorem p_neg {i : Int} {K : V → Loc → List As → Prop} (h : K (.int (-i)) m led) : P1 VR c m led (unaryOp .USub) (.int i) K := fun x T hp tk s r => by
  obtain ⟨t, rfl⟩ := r.io
  exact PySem.P.neg_int (post_here s VR.i h)
theorem p_neL {a b : Addr} {ns ms : List Int} {K : V → Loc → List As → Prop} (ha : MemA (.lst a (ns.map .int)) led) (hb : MemA (.lst b (ms.map .int)) led) (hu : c.A.units + 64 < cLine) (h : K (.bool (!decide (ns = ms))) m led) :
    P2 VR c m led (compareOp .NotEq) (.ref a) (.ref b) K := fun x y T hp tk s r1 r2 => by
  rw [r1.ro, r2.ro]
  obtain ⟨i1, n1, l1, q1⟩ := s.ok _ ha.mem
  obtain ⟨i2, n2, l2, q2⟩ := s.ok _ hb.mem
  exact ke_ne_ints (xs := i1.toList) (ys := i2.toList) (by rw [Array.toArray_toList]; exact IsL.isList l1) (by rw [Array.toArray_toList]; exact IsL.isList l2) (ints_are q1) (ints_are q2) hu (post_here s VR.b h)

/-- a cell is stored -/
theorem s_assign_cell {x : PySem.Str} {e : Expr} {p pos : Pos} {a : Addr} {K : F → Loc → List As → Prop} (hk : c.env.scope.kind = .function) (hx : c.env.kindOf x = some .cell) (hc : c.env.cells.lookup x = some a)
    (hs : swapsWith e (some (.Name x p)) pos.line c.env = pure false)
    (h : SE c m led e fun v m1 led1 => ∃ old led2, UpdA (.cel a old) (.cel a (some v)) led1 led2 ∧ K .next m1 led2) : SS c m led (.Assign [.Name x p] e pos) K := fun T hp tk s =>
  wpAny_Assign_Name (wpAny_mono (h T hp tk s) (fun y s1 zz => Post.go zz fun v1 h1 tk1 m1 led1 e s1' r1 ⟨old, led2, u, k1⟩ => by
    subst e
    obtain ⟨z, hz, rz⟩ := s1'.ok _ u.mem
    refine wpAny_storeName_cell hk hx hc hz fun h' hc' hs => ?_
    exact post_here (s1'.upd (a := a) u rfl (.head _) hs fun tk => ⟨_, hc', r1.mono tk⟩) FR.next k1) fun _ _ x => x) hs
end
section
variable {c c' : Cx} {m m' : Loc} {led led' : List As} {Kf : PySem.W.Frag} {k : Nat}

/-- where a loop's items come from: what is set aside, what is left -/
inductive Src (led : List As) : V → List V → List As → List As → Prop
  | lst {l : Addr} {vs : List V} {rest : List As} : Sel (.lst l vs) led rest → Src led (.ref l) vs [.lst l vs] rest
  | rng {n : Int} : 0 ≤ n → n < 2 ^ 40 → Src led (.rng n) (rngV n) [] led
  | tup {vs : List V} : Src led (.tup vs) vs [] led

theorem off_back {T : Tmp} {h : Heap} {led₁ : List As} {C : Addr} (s : St c m led T h) (f : Off c led₁ ⟨h, addrsOf led, T.t⟩ C) : Off c led₁ T C := by
  refine ⟨f.ne, f.off, f.h0, ?_⟩
  rcases f.hE with z | z
  · exact (s.fresh z f.ne).2
  · exact (s.own C z).2

theorem comp_new {elt iter : Expr} {x : PySem.Str} {px pos : Pos} {scope : Scope} {cl : List (PySem.Str × Addr)} {T : Tmp} {h : Heap} {tk : Nat} {ob : Obj} {fp : List Addr} {items : List V} {KK : List V → List As → Prop}
    {RR : Value → Addr → Result → Shared → Prop} (s : St c m led T h) (hf : ob.isFreed = false) (it : It c (h.push ob) h.objs.size fp items) (hfl : ∀ b ∈ fp, b ≠ h.objs.size → b ≠ c.L ∧ b ∉ addrsOf led ∧ b < h.objs.size) (hsz : items.length ≤ sizeLine)
    (hcell : ∀ y ∈ scope.names, y.2 ≠ .cell) (hkind : scope.kind = .function) (hx : scope.names.lookup x = some .local)
    (k : CompK c scope cl x elt items led KK)
    (hRR : ∀ us led' D C h' tk' mC, KK us led' → St c m (.lst D us :: led') T h' → h'.Ns C mC → Off c (.lst D us :: led') T C → RR (.ref D) C (.ok .next) ⟨h', c.g, c.d, tk', c.os⟩) :
    wpAny c.M c.A (newList []) (fun acc s₃ => wpAny c.M c.A (newFunctionEnv scope c.env.globals cl [] c.env.qual none .none (some c.env)) (fun cenv s₄ =>
      codeAny c.M c.A (.compStart (.ListComp elt [⟨.Name x px, iter, [], 0⟩] scope pos) 0 (.ref h.objs.size) acc { cenv with scope := relabel scope c.env }) (RR acc cenv.locals) s₄) NoE s₃) NoE ⟨h.push ob, c.g, c.d, tk, c.os⟩ := by
  have hIn := get_none_of_ge (h := h) (Nat.le_refl _)
  have hIL : h.objs.size ≠ c.L := fun e => absurd s.Llt (e ▸ Nat.lt_irrefl _)
  have fr := s.fresh hIn hIL
  refine comp_core (KK := KK) (RR := RR) (tk := tk) it ((s.rebase (addrsOf led) fun _ q => q).keep (keepPush _)) hIn fr.1 hIL (fun b hb => ?_) (fun b hb => ?_) hsz hcell hkind hx k (fun us led' D C h' tk' mC hk s' hC off => hRR us led' D C h' tk' mC hk (s.back s') hC (off_back s off))
  · by_cases e : b = h.objs.size
    · subst e
      exact ⟨hIL, fun q => absurd (s.lt _ q) (Nat.lt_irrefl _)⟩
    · exact ⟨(hfl b hb e).1, (hfl b hb e).2.1⟩
  · rw [Heap.size_push]
    by_cases e : b = h.objs.size
    · subst e; exact Nat.lt_succ_self _
    · exact Nat.lt_succ_of_lt (hfl b hb e).2.2

theorem comp_src {elt iter : Expr} {x : PySem.Str} {px pos : Pos} {scope : Scope} {cl : List (PySem.Str × Addr)} {T : Tmp} {h : Heap} {tk : Nat} {v : V} {y : Value} {items : List V} {sel rest : List As} {KK : List V → List As → Prop}
    {RR : Value → Addr → Result → Shared → Prop} (hh : c.A.handled = none) (s : St c m led T h) (src : Src led v items sel rest) (r : VR h v y) (hsz : items.length ≤ 10000)
    (hcell : ∀ y ∈ scope.names, y.2 ≠ .cell) (hkind : scope.kind = .function) (hx : scope.names.lookup x = some .local)
    (k : CompK c scope cl x elt items rest KK)
    (hRR : ∀ us led' D C h' tk' mC, KK us led' → St c m (sel ++ .lst D us :: led') T h' → h'.Ns C mC → Off c (sel ++ .lst D us :: led') T C → RR (.ref D) C (.ok .next) ⟨h', c.g, c.d, tk', c.os⟩) :
    wpAny c.M c.A (pyIter y) (fun it s₂ => wpAny c.M c.A (newList []) (fun acc s₃ => wpAny c.M c.A (newFunctionEnv scope c.env.globals cl [] c.env.qual none .none (some c.env)) (fun cenv s₄ =>
      codeAny c.M c.A (.compStart (.ListComp elt [⟨.Name x px, iter, [], 0⟩] scope pos) 0 it acc { cenv with scope := relabel scope c.env }) (RR acc cenv.locals) s₄) NoE s₃) NoE s₂) NoE ⟨h, c.g, c.d, tk, c.os⟩ := by
  have hsl : ∀ {n : Nat}, n ≤ 10000 → n ≤ sizeLine := fun e => by rw [sizeLine_eq]; (first | lia | omega)
  cases src with
  | @rng n n0 n1 =>
    obtain ⟨ra, t, u, w, rfl, hr⟩ := r.rno
    refine wpAny_pyIter_range hr (range_small n1 n0) ?_
    refine comp_new (KK := KK) (RR := RR) s rfl ?_ (fun b hb e => absurd (List.mem_singleton.mp hb) e) (hsl hsz) hcell hkind hx k hRR
    have hz : Builtin.Range.rangeSize 0 n 1 = n := by rw [rangeSize_one]; split <;> (first | lia | omega)
    rw [hz]
    have W := Walks.range (prog := c.prog) (w := c.w) hh h.objs.size 0 1 n.toNat
    have hlen : n.toNat = (rngV n).length := (rngV_len n).symm
    have W' := W
    rw [hlen] at W'
    refine ⟨⟨_, _, W', ?_, fun i x hi hx => ?_, fun i h' hS => ?_, fun target i s' v Q hS hQ => ?_⟩, fun b hb hne => absurd (List.mem_singleton.mp hb) hne⟩
    · have : ((rngV n).length : Int) = n := by rw [rngV_len]; (first | lia | omega)
      show (h.push _).get? _ = some _
      rw [this, show (0 : Int) + ((0 : Nat) : Int) * 1 = 0 from rfl, show n - ((0 : Nat) : Int) = n by (first | lia | omega)]
      exact Heap.get?_push_size _ rfl
    · obtain ⟨t, rfl⟩ := hx
      refine ⟨.int (i : Int), ?_, by rw [show (0 : Int) + (i : Int) * 1 = (i : Int) by (first | lia | omega)]; exact VR.i⟩
      rw [rngV_len] at hi
      unfold rngV
      rw [List.getElem?_map, List.getElem?_range hi]
      rfl
    · exact ⟨_, hS, fun e => by generalize hz : ({ cls := .type "range_iterator", dict := none, data := .fields #[rawInt (0 + (i : Int) * 1), rawInt (((rngV n).length : Int) - (i : Int)), rawInt 1], slots := #[] } : Obj) = z at e; cases e <;> simp at hz, _, rfl⟩
    · exact letGo_rng hS hQ
  | tup =>
    obtain ⟨a, its, n, rfl, ha, hr⟩ := r.to
    have hlt := Heap.lt_size ha
    refine wpAny_pyIter_tuple ⟨_, ha, rfl, n, rfl⟩ ?_
    have off := s.tup_off ha (.tup _ _)
    have keep : ∀ b o, h.get? b = some o → (h.push { cls := .type "tuple_iterator", data := .fields #[.ref a, .int 0 0] }).get? b = some o := fun b o e => Heap.get?_push_of_some _ e
    refine comp_new (KK := KK) (RR := RR) (fp := [h.objs.size, a]) s rfl ?_ (fun b hb e => ?_) (hsl hsz) hcell hkind hx k hRR
    · have W := Walks.tuple (prog := c.prog) (w := c.w) hh h.objs.size a (Nat.ne_of_lt hlt) its
      have hlen : its.size = items.length := by rw [hr.length]; simp
      rw [hlen] at W
      refine ⟨⟨_, _, W, ⟨⟨_, Heap.get?_push_size _ rfl, rfl, rfl⟩, ⟨_, keep _ _ ha, rfl, n, rfl⟩⟩, fun i x _ hx => ?_, fun i h' hS => ?_, fun target i s' v Q hS hQ => letGo_tupleiter hS.1 hQ⟩, fun b hb hne => ?_⟩
      · obtain ⟨v, hv, rv⟩ := hr.get' (i := i) (x := x) (by simpa using hx)
        exact ⟨v, hv, rv.mono (TK.of_keep keep)⟩
      · obtain ⟨o, ho, hc, hd⟩ := hS.1
        exact ⟨o, ho, fun e => by cases e <;> first | (cases hd; done) | (injection hc with hc; exact absurd hc (by decide)), _, hd⟩
      · rcases List.mem_cons.mp hb with e | hb
        · exact absurd e hne
        · rw [List.mem_singleton.mp hb]; exact ⟨_, keep _ _ ha⟩
    · rcases List.mem_cons.mp hb with q | hb
      · exact absurd q e
      · rw [List.mem_singleton.mp hb]; exact ⟨off.1, off.2, hlt⟩
  | @lst l vs rest se =>
    rw [r.ro]
    have sp := s.perm se.perm
    obtain ⟨its, n, hl, hr⟩ := sp.ok _ (.head _)
    have hlt := Heap.lt_size hl
    refine wpAny_pyIter_list hl.isList ?_
    have keep : ∀ b o, h.get? b = some o → (h.push { cls := .type "list_iterator", data := .fields #[.ref l, .int 0 0] }).get? b = some o := fun b o e => Heap.get?_push_of_some _ e
    have nd := sp.nd
    rw [List.nodup_cons, addrs_cons, List.nodup_append] at nd
    have hLl : l ≠ c.L := fun e => nd.1 (e ▸ List.mem_append_left _ (.head _))
    have hlr : l ∉ addrsOf rest := fun q => nd.2.2.2 l (.head _) l q rfl
    refine comp_new (KK := KK) (RR := RR) (fp := [h.objs.size, l]) ((sp.sub (List.sublist_cons_self _ _)).rebase (addrsOf rest) fun _ q => q) rfl ?_ (fun b hb e => ?_) (hsl hsz) hcell hkind hx k (fun us led' D C h' tk' mC hk s' hC off => ?_)
    · have W := Walks.list (prog := c.prog) (w := c.w) hh h.objs.size l (Nat.ne_of_lt hlt) its
      have hlen : its.size = items.length := by rw [hr.length]; simp
      rw [hlen] at W
      refine ⟨⟨_, _, W, ⟨⟨_, Heap.get?_push_size _ rfl, rfl, rfl⟩, ⟨_, keep _ _ hl, rfl, n, rfl⟩⟩, fun i x _ hx => ?_, fun i h' hS => ?_, fun target i s' v Q hS hQ => letGo_listiter hS.1 hQ⟩, fun b hb hne => ?_⟩
      · obtain ⟨v, hv, rv⟩ := hr.get' (i := i) (x := x) (by simpa using hx)
        exact ⟨v, hv, rv.mono (TK.of_keep keep)⟩
      · obtain ⟨o, ho, hc, hd⟩ := hS.1
        exact ⟨o, ho, fun e => by cases e <;> first | (cases hd; done) | (injection hc with hc; exact absurd hc (by decide)), _, hd⟩
      · rcases List.mem_cons.mp hb with e | hb
        · exact absurd e hne
        · rw [List.mem_singleton.mp hb]; exact ⟨_, keep _ _ hl⟩
    · rcases List.mem_cons.mp hb with q | hb
      · exact absurd q e
      · rw [List.mem_singleton.mp hb]; exact ⟨hLl, hlr, hlt⟩
    · have s2 := sp.unsel s'
      have off1 := off_back (sp.sub (List.sublist_cons_self _ _)) off
      refine hRR us led' D C h' tk' mC hk s2 hC ⟨off1.ne, fun q => ?_, off1.h0, off1.hE⟩
      rw [List.singleton_append, addrs_cons] at q
      rcases List.mem_append.mp q with q | q
      · have e : C = l := List.mem_singleton.mp q
        subst e
        rcases off.hE with z | z
        · have z : h.get? C = none := z
          rw [show h.get? C = some _ from hl] at z; cases z
        · exact hlr z
      · exact off1.off q

/-- what a scope takes from without -/
noncomputable def clo : List (PySem.Str × NameKind) → List (PySem.Str × Addr) → List (PySem.Str × Addr) → List (PySem.Str × Addr)
  | [], _, acc => acc
  | (n, .free) :: r, cells, acc => clo r cells ((n, (cells.lookup n).getD 0) :: acc)
  | (n, _) :: r, cells, acc => clo r cells acc
noncomputable def hasFree (cells : List (PySem.Str × Addr)) : List (PySem.Str × NameKind) → Prop
  | [] => True
  | (n, .free) :: r => (cells.lookup n).isSome = true ∧ hasFree cells r
  | (_, _) :: r => hasFree cells r
theorem closure_is {scope : Scope} {env : Env} (h : hasFree env.cells scope.names) : closureFor scope env = pure (clo scope.names env.cells []) := by
  unfold closureFor
  have key : ∀ (names : List (PySem.Str × NameKind)) (acc : List (PySem.Str × Addr)), hasFree env.cells names → (forIn names acc fun x (cs : List (PySem.Str × Addr)) =>
      (match x with | (name, kind) => if kind == .free then (do let a ← cellOf env name; pure (ForInStep.yield ((name, a) :: cs))) else pure (ForInStep.yield cs) : Sem (ForInStep (List (PySem.Str × Addr))))) = pure (clo names env.cells acc) := by
    intro names
    induction names with
    | nil => intro acc _; rfl
    | cons p r ih =>
      intro acc hf
      obtain ⟨n, kd⟩ := p
      rw [List.forIn_cons]
      cases kd with
      | free =>
        obtain ⟨h1, h2⟩ := hf
        obtain ⟨a, ha⟩ := Option.isSome_iff_exists.mp h1
        have : cellOf env n = pure a := by unfold cellOf; rw [ha]
        simp only [this, beq_self_eq_true, if_true, pure_bind]
        rw [ih _ h2]
        rw [show clo ((n, .free) :: r) env.cells acc = clo r env.cells ((n, (env.cells.lookup n).getD 0) :: acc) from rfl, ha]; rfl
      | _ =>
        have := ih acc hf
        simp only [show ∀ k : NameKind, (k == NameKind.free) = decide (k = .free) from fun k => by cases k <;> rfl] at this ⊢
        simpa [clo] using this
  have := key scope.names [] h
  simp only [bind_pure_comp] at this ⊢
  first | exact this | (rw [this]; rfl) | (simp only [map_pure] at this ⊢; exact this)


/-- a comprehension -/
theorem e_comp {elt iter : Expr} {x : PySem.Str} {px pos : Pos} {scope : Scope} {K : V → Loc → List As → Prop} (hh : c.A.handled = none) (hf : hasFree c.env.cells scope.names) (hcell : ∀ y ∈ scope.names, y.2 ≠ .cell) (hkind : scope.kind = .function)
    (hnames : ∀ y ∈ scope.names, y.2 = .local → scope.names.lookup y.1 = some .local) (hx : scope.names.lookup x = some .local)
    (h : SE c m led iter fun v m1 led1 => ∃ items sel rest, Src led1 v items sel rest ∧ items.length ≤ 10000 ∧ CompK c scope (clo scope.names c.env.cells []) x elt items rest fun us led3 => ∀ D, K (.ref D) m1 (sel ++ .lst D us :: led3))
    (hs : ∀ x, foldedSetIterable iter c.env x = pure x := by intro _; rfl) :
    SE c m led (.ListComp elt [⟨.Name x px, iter, [], 0⟩] scope pos) K := fun T hp tk s => by
  rw [eval_ListComp]
  refine wpAny_comprehension_free (use := none) rfl hs (closure_is hf) hkind hnames (wpAny_mono (h T hp tk s) (fun y s1 zz => Post.go zz fun v h1 tk1 m1 led1 e s1' r1 ⟨items, sel, rest, src, hz, k1⟩ => ?_) fun _ _ e => e)
  subst e
  refine comp_src (RR := fun acc C => compPost c.M c.A NoE none (Post VR c T K) acc C) hh s1' src r1 hz hcell hkind hx k1 fun us led' D C h' tk' mC hk s' hC off => ?_
  exact ⟨mC, hC, fun h'' hs'' => post_here (s'.same off hC hs'') VR.r (hk D)⟩
theorem s_assign_comp {elt iter : Expr} {x y : PySem.Str} {px py pos spos : Pos} {scope : Scope} {K : F → Loc → List As → Prop} (hh : c.A.handled = none) (hk : c.env.scope.kind = .function)
    (hsw : swapsWith (.ListComp elt [⟨.Name x px, iter, [], 0⟩] scope pos) (some (.Name y py)) spos.line c.env = pure true)
    (hf : hasFree c.env.cells scope.names) (hcell : ∀ y ∈ scope.names, y.2 ≠ .cell) (hkind : scope.kind = .function)
    (hnames : ∀ y ∈ scope.names, y.2 = .local → scope.names.lookup y.1 = some .local) (hx : scope.names.lookup x = some .local)
    (h : SE c m led iter fun v m1 led1 => ∃ items sel rest, Src led1 v items sel rest ∧ items.length ≤ 10000 ∧ CompK c scope (clo scope.names c.env.cells []) x elt items rest fun us led3 => ∀ D, Store y (.ref D) m1 fun m2 => K .next m2 (sel ++ .lst D us :: led3))
    (hs : ∀ x, foldedSetIterable iter c.env x = pure x := by intro _; rfl) :
    SS c m led (.Assign [.Name y py] (.ListComp elt [⟨.Name x px, iter, [], 0⟩] scope pos) spos) K := fun T hp tk s => by
  rw [exec_Assign_Name_used _ _ _ _ hsw]
  refine wpAny_bind (wpAny_standAt (wpAny_bind ?_))
  show wpAny _ _ (do let _ ← comprehension (.ListComp elt [⟨.Name x px, iter, [], 0⟩] scope pos) scope c.env _ (newList []) false (eval iter c.env) (some (assign (.Name y py) c.env))) _ _ _
  refine wpAny_bind (wpAny_mono (wpAny_comprehension_free (use := some (assign (.Name y py) c.env)) (Q := fun _ s' => Post FR c T K Flow.next s') rfl hs (closure_is hf) hkind hnames
    (wpAny_mono (h T hp tk s) (fun z s1 zz => Post.go zz fun v h1 tk1 m1 led1 e s1' r1 ⟨items, sel, rest, src, hz, k1⟩ => ?_) fun _ _ e => e)) (fun _ s' hq => wpAny_pure (wpAny_pure hq)) fun _ _ e => e)
  subst e
  refine comp_src (RR := fun acc C => compPost c.M c.A NoE (some (assign (.Name y py) c.env)) (fun _ s' => Post FR c T K Flow.next s') acc C) hh s1' src r1 hz hcell hkind hx k1 fun us led' D C h' tk' mC hkk s' hC off => ?_
  obtain ⟨m2, u, kk⟩ := hkk D
  obtain ⟨mv, hn, hr⟩ := s'.ns
  show wpAny _ _ (assign (.Name y py) c.env (.ref D)) _ _ _
  refine wpAny_assign_Name (wpAny_storeName_local (s'.kinds y u.mem) hn (fun h2 hn2 hs2 => ?_) (env_plain hk))
  have hC2 := hC.sameBut hs2 off.ne
  exact ⟨mC, hC2, fun h'' hs'' => post_here ((s'.loc u hn hr hs2 hn2 VR.r).same off hC2 hs'') FR.next kk⟩

/-- slices of a list -/
theorem pick_from (items : Array Value) {x : Int} (h : 0 ≤ x) : (slicePick items (some x) none none).toList = items.toList.drop x.toNat := by
  have e : sliceBounds (some x) none none items.size = (((min x.toNat items.size : Nat) : Int), ((items.size : Nat) : Int), 1) := by
    simp only [sliceBounds, Option.getD_none, show (1 : Int) > 0 by decide, if_true, if_neg (show ¬ (x < 0) by (first | lia | omega))]
    congr 1
    (first | lia | omega)
  rw [kmk_pick_nat _ e]
  show List.take _ (List.drop _ items.toList) = _
  have hz : items.size = items.toList.length := by simp
  rw [hz, kmk_drop_min, List.take_of_length_le (by rw [List.length_drop]; (first | lia | omega))]
theorem pick_upto (items : Array Value) {y : Int} (h : 0 ≤ y) : (slicePick items none (some y) none).toList = items.toList.take y.toNat := by
  have e : sliceBounds none (some y) none items.size = (((0 : Nat) : Int), ((min y.toNat items.size : Nat) : Int), 1) := by
    simp only [sliceBounds, Option.getD_none, show (1 : Int) > 0 by decide, if_true, if_neg (show ¬ (y < 0) by (first | lia | omega))]
    congr 1
    congr 1
    (first | lia | omega)
  rw [kmk_pick_nat _ e]
  show List.take _ (List.drop 0 items.toList) = _
  have hz : items.size = items.toList.length := by simp
  rw [List.drop_zero, Nat.sub_zero, hz, kmk_take_min]

/-- a thing of an own class is made -/
theorem n_make {C fI : Addr} {vs : List V} {K : V → Loc → List As → Prop} (o : Ok c Kf (k + 1)) (hm : makesIn Kf C = true) (hi : findIn Kf (.ref C) "__init__" = some (some (.ref fI))) (hf : typeIn Kf (.ref fI) = some (.type "function"))
    (h : ∀ x d A, Ok { c with A := A } Kf k → Calls { c with A := A } (.ref fI) (.ref x :: vs) (.ins x d C [] :: led) fun v led' => v = .none ∧ K (.ref x) m led') : PN VR c m led (fun ys => call (.ref C) ys) vs K := fun xs T hp tk s r => by
  have X : Kf.In hp := o.X.keeps s.base
  have s0 := s.keep (keepPush emptyDict)
  have s1 : St c m (.ins (hp.objs.size + 1) hp.objs.size C [] :: led) T ((hp.push emptyDict).push (instObj C hp.objs.size)) := by
    have hx := Heap.get?_push_size (hp.push emptyDict) (o := instObj C hp.objs.size) rfl
    rw [Heap.size_push] at hx
    refine s.new (fun b ob e => keepPush _ _ _ (keepPush _ _ _ e)) ⟨hx, [], 0, keepPush _ _ _ (Heap.get?_push_size _ rfl), .nil⟩ (fun a ha => ?_) (by simp [As.addrs])
    rcases List.mem_cons.mp ha with rfl | ha
    · exact Nat.le_succ _
    · rw [List.mem_singleton.mp ha]; exact Nat.le_refl _
  have tkp : TK hp ((hp.push emptyDict).push (instObj C hp.objs.size)) := TK.of_keep fun b ob e => keepPush _ _ _ (keepPush _ _ _ e)
  refine wpAny_call (make_core (makes_of X hm) (looks_findIn X hi) (fun self => bind_fn X self hf) (.inl rfl) ?_)
  have oA : Ok { c with A := c.A.under (.builtin "type.__call__" ⟨.ref C :: xs, []⟩) } Kf k :=
    ⟨o.X, o.hh, by rw [depth_under_make]; have := o.dp; (first | lia | omega), by rw [units_under_make]; have := o.un; (first | lia | omega), o.nl, o.bt, o.gl, o.bu, o.kf, o.pl⟩
  have sA : St { c with A := c.A.under (.builtin "type.__call__" ⟨.ref C :: xs, []⟩) } m (.ins (hp.objs.size + 1) hp.objs.size C [] :: led) T ((hp.push emptyDict).push (instObj C hp.objs.size)) :=
    ⟨s1.ns, s1.keys, s1.kinds, s1.base, s1.low, s1.ext, s1.nd, s1.ok, s1.own, s1.tmp⟩
  refine codeAny_mono (h (hp.objs.size + 1) hp.objs.size _ oA m _ T _ tk sA (.cons VR.r (r.mono tkp))) fun rr s' z => ?_
  rcases rr with e | (v | _ | _ | _)
  all_goals first | exact z.elim | skip
  obtain ⟨b, h', tk', m', led', e, s2, r2, em, ev, kk⟩ := z
  subst em ev e
  exact ⟨r2.no, ⟨_, h', tk', m', led', rfl, ⟨s2.ns, s2.keys, s2.kinds, s2.base, s2.low, s2.ext, s2.nd, s2.ok, s2.own, s2.tmp⟩, VR.r, kk⟩⟩
end
noncomputable abbrev S (x : String) : PySem.Str := PySem.Str.ofString x
noncomputable def top : List Stmt := PySem.Challenge.pw_nn0318_01.main.body
noncomputable def nth : List Stmt → Nat → Stmt
  | [], _ => .Pass default
  | s :: _, 0 => s
  | _ :: r, n + 1 => nth r n
noncomputable def inCls : Stmt → List Stmt
  | .ClassDef _ _ _ b _ _ _ _ _ _ _ => b
  | _ => []
noncomputable def bodyOf : Stmt → List Stmt
  | .FunctionDef _ _ b _ _ _ _ _ _ _ => b
  | _ => []
noncomputable def argsOf : Stmt → Arguments
  | .FunctionDef _ a _ _ _ _ _ _ _ _ => a
  | _ => default
noncomputable def scopeOf : Stmt → Scope
  | .FunctionDef _ _ _ _ _ _ s _ _ _ => s
  | _ => default
noncomputable def nameOf : Stmt → PySem.Str
  | .FunctionDef n _ _ _ _ _ _ _ _ _ => n
  | _ => default
noncomputable def fn (s : Stmt) (qual : PySem.Str) (dV kV doc pm : Value) (an : Option Addr) (cdv ct : Value) : FuncData :=
  { name := nameOf s, qualname := qual, params := argsOf s, body := .stmts (bodyOf s), scope := scopeOf s, globals := mainGlobals, closure := [], defaults := dV, kwdefaults := kV, doc, pyModule := pm, annotations := an, code := cdv, closureTuple := ct, builtins := builtinsNs }

noncomputable def ob3 (P : Params) : Obj := ⟨(.type "dict"), none, .dict (List.toArray [⟨PyData.keyHash P (S "__name__"), (.str (S "__name__") 165), (.str (S "law_nn0318_01") 598)⟩, ⟨PyData.keyHash P (S "__doc__"), (.str (S "__doc__") 166), .none⟩, ⟨PyData.keyHash P (S "__package__"), (.str (S "__package__") 167), .none⟩, ⟨PyData.keyHash P (S "__loader__"), (.str (S "__loader__") 168), (.builtin "__main__.__loader__#opaque")⟩, ⟨PyData.keyHash P (S "__spec__"), (.str (S "__spec__") 169), .none⟩, ⟨PyData.keyHash P (S "__annotations__"), (.str (S "__annotations__") 170), (.ref 6)⟩, ⟨PyData.keyHash P (S "__builtins__"), (.str (S "__builtins__") 171), (.ref 4)⟩, ⟨PyData.keyHash P (S "__file__"), (.str (S "__file__") 173), (.str (S "/claim/cut.py") 172)⟩, ⟨PyData.keyHash P (S "__cached__"), (.str (S "__cached__") 174), .none⟩, ⟨PyData.keyHash P (S "_wall"), (.str (S "_wall") 193), (.ref 21)⟩, ⟨PyData.keyHash P (S "GateloomError"), (.str (S "GateloomError") 231), (.ref 39)⟩, ⟨PyData.keyHash P (S "SynthError"), (.str (S "SynthError") 247), (.ref 52)⟩, ⟨PyData.keyHash P (S "LimitReached"), (.str (S "LimitReached") 263), (.ref 64)⟩, ⟨PyData.keyHash P (S "CONST0"), (.str (S "CONST0") 267), (.int (0) 266)⟩, ⟨PyData.keyHash P (S "CONST1"), (.str (S "CONST1") 269), (.int (1) 268)⟩, ⟨PyData.keyHash P (S "is_state_kind"), (.str (S "is_state_kind") 276), (.ref 73)⟩, ⟨PyData.keyHash P (S "state_name"), (.str (S "state_name") 283), (.ref 80)⟩, ⟨PyData.keyHash P (S "state_init"), (.str (S "state_init") 290), (.ref 87)⟩, ⟨PyData.keyHash P (S "Netlist"), (.str (S "Netlist") 392), (.ref 160)⟩, ⟨PyData.keyHash P (S "state_cells"), (.str (S "state_cells") 401), (.ref 171)⟩, ⟨PyData.keyHash P (S "drivers"), (.str (S "drivers") 414), (.ref 178)⟩, ⟨PyData.keyHash P (S "ordered_cells"), (.str (S "ordered_cells") 431), (.ref 185)⟩, ⟨PyData.keyHash P (S "comb_order"), (.str (S "comb_order") 439), (.ref 192)⟩, ⟨PyData.keyHash P (S "row_number"), (.str (S "row_number") 448), (.ref 199)⟩, ⟨PyData.keyHash P (S "gate_value"), (.str (S "gate_value") 456), (.ref 206)⟩, ⟨PyData.keyHash P (S "cell_value"), (.str (S "cell_value") 465), (.ref 213)⟩, ⟨PyData.keyHash P (S "evaluate_cells"), (.str (S "evaluate_cells") 473), (.ref 218)⟩, ⟨PyData.keyHash P (S "next_bit"), (.str (S "next_bit") 486), (.ref 225)⟩, ⟨PyData.keyHash P (S "NetSim"), (.str (S "NetSim") 597), (.ref 292)⟩, ⟨PyData.keyHash P (S "_law_pick"), (.str (S "_law_pick") 609), (.ref 303)⟩, ⟨PyData.keyHash P (S "_law_table"), (.str (S "_law_table") 617), (.ref 310)⟩, ⟨PyData.keyHash P (S "_law_gates"), (.str (S "_law_gates") 631), (.ref 317)⟩, ⟨PyData.keyHash P (S "_law_turn"), (.str (S "_law_turn") 637), (.ref 322)⟩, ⟨PyData.keyHash P (S "law"), (.str (S "law") 643), (.ref 327)⟩]) 34, #[]⟩
noncomputable def ob20 : Obj := ⟨(.type "code"), none, .fields #[(.str (S "_wall") 187), (.str (S "_wall") 188), (.str (S "/claim/cut.py") 189), (.int (1) 0), (.int (1) 0), (.int (0) 0), (.int (0) 0), (.int (3) 0), (.ref 15), (.bool true), (.int (181) 0), (.ref 16), .none, (.ref 17), (.ref 18), (.ref 19), (.int (191) 0), (.int (1) 0), (.str (S "/claim/cut.py") 192)], #[]⟩
noncomputable def fd21 : FuncData := fn (nth top 0) (S "_wall") .none .none .none (.str (S "__main__") 164) none (.ref 20) .none
noncomputable def ob21 : Obj := ⟨(.type "function"), none, .func fd21, #[]⟩
noncomputable def ob29 : Obj := ⟨(.type "tuple"), none, .seq #[(.int (-1) 209), (.str (S "") 210)] 0, #[]⟩
noncomputable def ob35 : Obj := ⟨(.type "code"), none, .fields #[(.str (S "__init__") 211), (.str (S "GateloomError.__init__") 212), (.str (S "/claim/cut.py") 213), (.int (7) 0), (.int (4) 0), (.int (0) 0), (.int (0) 0), (.int (3) 0), (.ref 30), (.bool true), (.int (181) 0), (.ref 31), .none, (.ref 32), (.ref 33), (.ref 34), (.int (218) 0), (.int (7) 0), (.str (S "/claim/cut.py") 219)], #[]⟩
noncomputable def fd36 : FuncData := fn (nth (inCls (nth top 2)) 0) (S "GateloomError.__init__") (.ref 29) .none .none (.str (S "gateloom.errors") 194) none (.ref 35) .none
noncomputable def ob36 : Obj := ⟨(.type "function"), none, .func fd36, #[]⟩
noncomputable def ob38 (P : Params) : Obj := ⟨(.type "dict"), none, .dict (List.toArray [⟨PyData.keyHash P (S "__module__"), (.str (S "__module__") 203), (.str (S "gateloom.errors") 194)⟩, ⟨PyData.keyHash P (S "__firstlineno__"), (.str (S "__firstlineno__") 207), (.int (5) 206)⟩, ⟨PyData.keyHash P (S "__init__"), (.str (S "__init__") 220), (.ref 36)⟩, ⟨PyData.keyHash P (S "__static_attributes__"), (.str (S "__static_attributes__") 224), (.ref 37)⟩, ⟨PyData.keyHash P (S "__weakref__"), (.str (S "__weakref__") 226), (.ref 40)⟩, ⟨PyData.keyHash P (S "__doc__"), (.str (S "__doc__") 227), .none⟩]) 3, #[]⟩
noncomputable def ob39 : Obj := ⟨(.type "type"), none, .cls { name := (S "GateloomError"), bases := [(.type "Exception")], mro := [(.ref 39), (.type "Exception"), (.type "BaseException"), (.type "object")], ns := 38, qualname := (S "GateloomError"), hasDict := true, slotNames := [], subclasses := [(.ref 52), (.ref 64)], abstract := false, collection := none, hasDel := false }, #[some (.ref 22), none, some (.str (S "GateloomError") 196), some (.str (S "GateloomError") 204), some (.builtin "Exception.__new__"), some (.bool true)]⟩
noncomputable def ob40 : Obj := ⟨(.type "getset_descriptor"), none, .fields #[(.str (S "__weakref__") 225), (.ref 39), (.builtin "ExceptionGroup.__weakref__"), .none], #[]⟩
noncomputable def ob51 (P : Params) : Obj := ⟨(.type "dict"), none, .dict (List.toArray [⟨PyData.keyHash P (S "__module__"), (.str (S "__module__") 239), (.str (S "gateloom.errors") 194)⟩, ⟨PyData.keyHash P (S "__firstlineno__"), (.str (S "__firstlineno__") 243), (.int (11) 242)⟩, ⟨PyData.keyHash P (S "__static_attributes__"), (.str (S "__static_attributes__") 244), (.ref 50)⟩, ⟨PyData.keyHash P (S "__doc__"), (.str (S "__doc__") 245), .none⟩]) 2, #[]⟩
noncomputable def ob52 : Obj := ⟨(.type "type"), none, .cls { name := (S "SynthError"), bases := [(.ref 39)], mro := [(.ref 52), (.ref 39), (.type "Exception"), (.type "BaseException"), (.type "object")], ns := 51, qualname := (S "SynthError"), hasDict := true, slotNames := [], subclasses := [], abstract := false, collection := none, hasDel := false }, #[some (.ref 43), none, some (.str (S "SynthError") 232), some (.str (S "SynthError") 240), some (.builtin "Exception.__new__"), some (.bool true)]⟩
noncomputable def ob63 (P : Params) : Obj := ⟨(.type "dict"), none, .dict (List.toArray [⟨PyData.keyHash P (S "__module__"), (.str (S "__module__") 255), (.str (S "gateloom.errors") 194)⟩, ⟨PyData.keyHash P (S "__firstlineno__"), (.str (S "__firstlineno__") 259), (.int (13) 258)⟩, ⟨PyData.keyHash P (S "__static_attributes__"), (.str (S "__static_attributes__") 260), (.ref 62)⟩, ⟨PyData.keyHash P (S "__doc__"), (.str (S "__doc__") 261), .none⟩]) 2, #[]⟩
noncomputable def ob64 : Obj := ⟨(.type "type"), none, .cls { name := (S "LimitReached"), bases := [(.ref 39)], mro := [(.ref 64), (.ref 39), (.type "Exception"), (.type "BaseException"), (.type "object")], ns := 63, qualname := (S "LimitReached"), hasDict := true, slotNames := [], subclasses := [], abstract := false, collection := none, hasDel := false }, #[some (.ref 55), none, some (.str (S "LimitReached") 248), some (.str (S "LimitReached") 256), some (.builtin "Exception.__new__"), some (.bool true)]⟩
noncomputable def ob72 : Obj := ⟨(.type "code"), none, .fields #[(.str (S "is_state_kind") 270), (.str (S "is_state_kind") 271), (.str (S "/claim/cut.py") 272), (.int (18) 0), (.int (1) 0), (.int (0) 0), (.int (0) 0), (.int (3) 0), (.ref 67), (.bool true), (.int (181) 0), (.ref 68), .none, (.ref 69), (.ref 70), (.ref 71), (.int (274) 0), (.int (18) 0), (.str (S "/claim/cut.py") 275)], #[]⟩
noncomputable def fd73 : FuncData := fn (nth top 8) (S "is_state_kind") .none .none .none (.str (S "gateloom.netlist") 264) none (.ref 72) .none
noncomputable def ob73 : Obj := ⟨(.type "function"), none, .func fd73, #[]⟩
noncomputable def ob79 : Obj := ⟨(.type "code"), none, .fields #[(.str (S "state_name") 277), (.str (S "state_name") 278), (.str (S "/claim/cut.py") 279), (.int (20) 0), (.int (1) 0), (.int (0) 0), (.int (0) 0), (.int (3) 0), (.ref 74), (.bool true), (.int (181) 0), (.ref 75), .none, (.ref 76), (.ref 77), (.ref 78), (.int (281) 0), (.int (20) 0), (.str (S "/claim/cut.py") 282)], #[]⟩
noncomputable def fd80 : FuncData := fn (nth top 9) (S "state_name") .none .none .none (.str (S "gateloom.netlist") 264) none (.ref 79) .none
noncomputable def ob80 : Obj := ⟨(.type "function"), none, .func fd80, #[]⟩
noncomputable def ob86 : Obj := ⟨(.type "code"), none, .fields #[(.str (S "state_init") 284), (.str (S "state_init") 285), (.str (S "/claim/cut.py") 286), (.int (24) 0), (.int (1) 0), (.int (0) 0), (.int (0) 0), (.int (3) 0), (.ref 81), (.bool true), (.int (181) 0), (.ref 82), .none, (.ref 83), (.ref 84), (.ref 85), (.int (288) 0), (.int (24) 0), (.str (S "/claim/cut.py") 289)], #[]⟩
noncomputable def fd87 : FuncData := fn (nth top 10) (S "state_init") .none .none .none (.str (S "gateloom.netlist") 264) none (.ref 86) .none
noncomputable def ob87 : Obj := ⟨(.type "function"), none, .func fd87, #[]⟩
noncomputable def ob100 : Obj := ⟨(.type "code"), none, .fields #[(.str (S "__init__") 303), (.str (S "Netlist.__init__") 304), (.str (S "/claim/cut.py") 305), (.int (30) 0), (.int (2) 0), (.int (0) 0), (.int (0) 0), (.int (3) 0), (.ref 95), (.bool true), (.int (181) 0), (.ref 96), .none, (.ref 97), (.ref 98), (.ref 99), (.int (308) 0), (.int (30) 0), (.str (S "/claim/cut.py") 309)], #[]⟩
noncomputable def fd101 : FuncData := fn (nth (inCls (nth top 11)) 0) (S "Netlist.__init__") .none .none .none (.str (S "gateloom.netlist") 264) none (.ref 100) .none
noncomputable def ob101 : Obj := ⟨(.type "function"), none, .func fd101, #[]⟩
noncomputable def ob107 : Obj := ⟨(.type "code"), none, .fields #[(.str (S "new_net") 311), (.str (S "Netlist.new_net") 312), (.str (S "/claim/cut.py") 313), (.int (37) 0), (.int (1) 0), (.int (0) 0), (.int (0) 0), (.int (3) 0), (.ref 102), (.bool true), (.int (181) 0), (.ref 103), .none, (.ref 104), (.ref 105), (.ref 106), (.int (316) 0), (.int (37) 0), (.str (S "/claim/cut.py") 317)], #[]⟩
noncomputable def fd108 : FuncData := fn (nth (inCls (nth top 11)) 1) (S "Netlist.new_net") .none .none .none (.str (S "gateloom.netlist") 264) none (.ref 107) .none
noncomputable def ob108 : Obj := ⟨(.type "function"), none, .func fd108, #[]⟩
noncomputable def ob112 : Obj := ⟨(.type "code"), none, .fields #[(.str (S "new_nets") 319), (.str (S "Netlist.new_nets") 320), (.str (S "/claim/cut.py") 321), (.int (42) 0), (.int (2) 0), (.int (0) 0), (.int (0) 0), (.int (3) 0), (.ref 109), (.bool true), (.int (181) 0), (.ref 110), .none, .none, .none, (.ref 111), (.int (322) 0), (.int (42) 0), (.str (S "/claim/cut.py") 323)], #[]⟩
noncomputable def fd113 : FuncData := fn (nth (inCls (nth top 11)) 2) (S "Netlist.new_nets") .none .none .none (.str (S "gateloom.netlist") 264) none (.ref 112) .none
noncomputable def ob113 : Obj := ⟨(.type "function"), none, .func fd113, #[]⟩
noncomputable def ob119 : Obj := ⟨(.type "code"), none, .fields #[(.str (S "add_input") 325), (.str (S "Netlist.add_input") 326), (.str (S "/claim/cut.py") 327), (.int (45) 0), (.int (3) 0), (.int (0) 0), (.int (0) 0), (.int (3) 0), (.ref 114), (.bool true), (.int (181) 0), (.ref 115), .none, (.ref 116), (.ref 117), (.ref 118), (.int (332) 0), (.int (45) 0), (.str (S "/claim/cut.py") 333)], #[]⟩
noncomputable def fd120 : FuncData := fn (nth (inCls (nth top 11)) 3) (S "Netlist.add_input") .none .none .none (.str (S "gateloom.netlist") 264) none (.ref 119) .none
noncomputable def ob120 : Obj := ⟨(.type "function"), none, .func fd120, #[]⟩
noncomputable def ob126 : Obj := ⟨(.type "code"), none, .fields #[(.str (S "add_output") 335), (.str (S "Netlist.add_output") 336), (.str (S "/claim/cut.py") 337), (.int (50) 0), (.int (3) 0), (.int (0) 0), (.int (0) 0), (.int (3) 0), (.ref 121), (.bool true), (.int (181) 0), (.ref 122), .none, (.ref 123), (.ref 124), (.ref 125), (.int (341) 0), (.int (50) 0), (.str (S "/claim/cut.py") 342)], #[]⟩
noncomputable def fd127 : FuncData := fn (nth (inCls (nth top 11)) 4) (S "Netlist.add_output") .none .none .none (.str (S "gateloom.netlist") 264) none (.ref 126) .none
noncomputable def ob127 : Obj := ⟨(.type "function"), none, .func fd127, #[]⟩
noncomputable def ob128 : Obj := ⟨(.type "tuple"), none, .seq #[.none] 0, #[]⟩
noncomputable def ob134 : Obj := ⟨(.type "code"), none, .fields #[(.str (S "add_cell") 344), (.str (S "Netlist.add_cell") 345), (.str (S "/claim/cut.py") 346), (.int (53) 0), (.int (4) 0), (.int (0) 0), (.int (0) 0), (.int (3) 0), (.ref 129), (.bool true), (.int (181) 0), (.ref 130), .none, (.ref 131), (.ref 132), (.ref 133), (.int (352) 0), (.int (53) 0), (.str (S "/claim/cut.py") 353)], #[]⟩
noncomputable def fd135 : FuncData := fn (nth (inCls (nth top 11)) 5) (S "Netlist.add_cell") (.ref 128) .none .none (.str (S "gateloom.netlist") 264) none (.ref 134) .none
noncomputable def ob135 : Obj := ⟨(.type "function"), none, .func fd135, #[]⟩
noncomputable def ob136 : Obj := ⟨(.type "tuple"), none, .seq #[.none] 0, #[]⟩
noncomputable def ob142 : Obj := ⟨(.type "code"), none, .fields #[(.str (S "drive") 355), (.str (S "Netlist.drive") 356), (.str (S "/claim/cut.py") 357), (.int (58) 0), (.int (5) 0), (.int (0) 0), (.int (0) 0), (.int (3) 0), (.ref 137), (.bool true), (.int (181) 0), (.ref 138), .none, (.ref 139), (.ref 140), (.ref 141), (.int (363) 0), (.int (58) 0), (.str (S "/claim/cut.py") 364)], #[]⟩
noncomputable def fd143 : FuncData := fn (nth (inCls (nth top 11)) 6) (S "Netlist.drive") (.ref 136) .none .none (.str (S "gateloom.netlist") 264) none (.ref 142) .none
noncomputable def ob143 : Obj := ⟨(.type "function"), none, .func fd143, #[]⟩
noncomputable def ob149 : Obj := ⟨(.type "code"), none, .fields #[(.str (S "sources") 366), (.str (S "Netlist.sources") 367), (.str (S "/claim/cut.py") 368), (.int (61) 0), (.int (1) 0), (.int (0) 0), (.int (0) 0), (.int (3) 0), (.ref 144), (.bool true), (.int (181) 0), (.ref 145), .none, (.ref 146), (.ref 147), (.ref 148), (.int (370) 0), (.int (61) 0), (.str (S "/claim/cut.py") 371)], #[]⟩
noncomputable def fd150 : FuncData := fn (nth (inCls (nth top 11)) 7) (S "Netlist.sources") .none .none .none (.str (S "gateloom.netlist") 264) none (.ref 149) .none
noncomputable def ob150 : Obj := ⟨(.type "function"), none, .func fd150, #[]⟩
noncomputable def ob156 : Obj := ⟨(.type "code"), none, .fields #[(.str (S "sinks") 373), (.str (S "Netlist.sinks") 374), (.str (S "/claim/cut.py") 375), (.int (64) 0), (.int (1) 0), (.int (0) 0), (.int (0) 0), (.int (3) 0), (.ref 151), (.bool true), (.int (181) 0), (.ref 152), .none, (.ref 153), (.ref 154), (.ref 155), (.int (377) 0), (.int (64) 0), (.str (S "/claim/cut.py") 378)], #[]⟩
noncomputable def fd157 : FuncData := fn (nth (inCls (nth top 11)) 8) (S "Netlist.sinks") .none .none .none (.str (S "gateloom.netlist") 264) none (.ref 156) .none
noncomputable def ob157 : Obj := ⟨(.type "function"), none, .func fd157, #[]⟩
noncomputable def ob159 (P : Params) : Obj := ⟨(.type "dict"), none, .dict (List.toArray [⟨PyData.keyHash P (S "__module__"), (.str (S "__module__") 298), (.str (S "gateloom.netlist") 264)⟩, ⟨PyData.keyHash P (S "__firstlineno__"), (.str (S "__firstlineno__") 302), (.int (28) 301)⟩, ⟨PyData.keyHash P (S "__init__"), (.str (S "__init__") 310), (.ref 101)⟩, ⟨PyData.keyHash P (S "new_net"), (.str (S "new_net") 318), (.ref 108)⟩, ⟨PyData.keyHash P (S "new_nets"), (.str (S "new_nets") 324), (.ref 113)⟩, ⟨PyData.keyHash P (S "add_input"), (.str (S "add_input") 334), (.ref 120)⟩, ⟨PyData.keyHash P (S "add_output"), (.str (S "add_output") 343), (.ref 127)⟩, ⟨PyData.keyHash P (S "add_cell"), (.str (S "add_cell") 354), (.ref 135)⟩, ⟨PyData.keyHash P (S "drive"), (.str (S "drive") 365), (.ref 143)⟩, ⟨PyData.keyHash P (S "sources"), (.str (S "sources") 372), (.ref 150)⟩, ⟨PyData.keyHash P (S "sinks"), (.str (S "sinks") 379), (.ref 157)⟩, ⟨PyData.keyHash P (S "__static_attributes__"), (.str (S "__static_attributes__") 385), (.ref 158)⟩, ⟨PyData.keyHash P (S "__dict__"), (.str (S "__dict__") 387), (.ref 161)⟩, ⟨PyData.keyHash P (S "__weakref__"), (.str (S "__weakref__") 389), (.ref 162)⟩, ⟨PyData.keyHash P (S "__doc__"), (.str (S "__doc__") 390), .none⟩]) 4, #[]⟩
noncomputable def ob160 : Obj := ⟨(.type "type"), none, .cls { name := (S "Netlist"), bases := [(.type "object")], mro := [(.ref 160), (.type "object")], ns := 159, qualname := (S "Netlist"), hasDict := true, slotNames := [], subclasses := [], abstract := false, collection := none, hasDel := false }, #[none, none, some (.str (S "Netlist") 291), some (.str (S "Netlist") 299), some (.builtin "object.__new__"), some (.bool true)]⟩
noncomputable def ob161 : Obj := ⟨(.type "getset_descriptor"), none, .fields #[(.str (S "__dict__") 386), (.ref 160), (.builtin "function.__dict__"), (.builtin "function.__dict__#set")], #[]⟩
noncomputable def ob162 : Obj := ⟨(.type "getset_descriptor"), none, .fields #[(.str (S "__weakref__") 388), (.ref 160), (.builtin "ExceptionGroup.__weakref__"), .none], #[]⟩
noncomputable def ob170 : Obj := ⟨(.type "code"), none, .fields #[(.str (S "state_cells") 393), (.str (S "state_cells") 394), (.str (S "/claim/cut.py") 395), (.int (66) 0), (.int (1) 0), (.int (0) 0), (.int (0) 0), (.int (3) 0), (.ref 165), (.bool true), (.int (181) 0), (.ref 166), .none, (.ref 167), (.ref 168), (.ref 169), (.int (399) 0), (.int (66) 0), (.str (S "/claim/cut.py") 400)], #[]⟩
noncomputable def fd171 : FuncData := fn (nth top 12) (S "state_cells") .none .none .none (.str (S "gateloom.netlist") 264) none (.ref 170) .none
noncomputable def ob171 : Obj := ⟨(.type "function"), none, .func fd171, #[]⟩
noncomputable def ob177 : Obj := ⟨(.type "code"), none, .fields #[(.str (S "drivers") 402), (.str (S "drivers") 403), (.str (S "/claim/cut.py") 404), (.int (72) 0), (.int (1) 0), (.int (0) 0), (.int (0) 0), (.int (3) 0), (.ref 172), (.bool true), (.int (181) 0), (.ref 173), .none, (.ref 174), (.ref 175), (.ref 176), (.int (412) 0), (.int (72) 0), (.str (S "/claim/cut.py") 413)], #[]⟩
noncomputable def fd178 : FuncData := fn (nth top 13) (S "drivers") .none .none .none (.str (S "gateloom.netlist") 264) none (.ref 177) .none
noncomputable def ob178 : Obj := ⟨(.type "function"), none, .func fd178, #[]⟩
noncomputable def ob184 : Obj := ⟨(.type "code"), none, .fields #[(.str (S "ordered_cells") 415), (.str (S "ordered_cells") 416), (.str (S "/claim/cut.py") 417), (.int (87) 0), (.int (2) 0), (.int (0) 0), (.int (0) 0), (.int (3) 0), (.ref 179), (.bool true), (.int (181) 0), (.ref 180), .none, (.ref 181), (.ref 182), (.ref 183), (.int (429) 0), (.int (87) 0), (.str (S "/claim/cut.py") 430)], #[]⟩
noncomputable def fd185 : FuncData := fn (nth top 14) (S "ordered_cells") .none .none .none (.str (S "gateloom.netlist") 264) none (.ref 184) .none
noncomputable def ob185 : Obj := ⟨(.type "function"), none, .func fd185, #[]⟩
noncomputable def ob191 : Obj := ⟨(.type "code"), none, .fields #[(.str (S "comb_order") 432), (.str (S "comb_order") 433), (.str (S "/claim/cut.py") 434), (.int (114) 0), (.int (1) 0), (.int (0) 0), (.int (0) 0), (.int (3) 0), (.ref 186), (.bool true), (.int (181) 0), (.ref 187), .none, (.ref 188), (.ref 189), (.ref 190), (.int (437) 0), (.int (114) 0), (.str (S "/claim/cut.py") 438)], #[]⟩
noncomputable def fd192 : FuncData := fn (nth top 15) (S "comb_order") .none .none .none (.str (S "gateloom.netlist") 264) none (.ref 191) .none
noncomputable def ob192 : Obj := ⟨(.type "function"), none, .func fd192, #[]⟩
noncomputable def ob198 : Obj := ⟨(.type "code"), none, .fields #[(.str (S "row_number") 440), (.str (S "row_number") 441), (.str (S "/claim/cut.py") 442), (.int (119) 0), (.int (1) 0), (.int (0) 0), (.int (0) 0), (.int (3) 0), (.ref 193), (.bool true), (.int (181) 0), (.ref 194), .none, (.ref 195), (.ref 196), (.ref 197), (.int (446) 0), (.int (119) 0), (.str (S "/claim/cut.py") 447)], #[]⟩
noncomputable def fd199 : FuncData := fn (nth top 16) (S "row_number") .none .none .none (.str (S "gateloom.netlist") 264) none (.ref 198) .none
noncomputable def ob199 : Obj := ⟨(.type "function"), none, .func fd199, #[]⟩
noncomputable def ob205 : Obj := ⟨(.type "code"), none, .fields #[(.str (S "gate_value") 449), (.str (S "gate_value") 450), (.str (S "/claim/cut.py") 451), (.int (125) 0), (.int (2) 0), (.int (0) 0), (.int (0) 0), (.int (3) 0), (.ref 200), (.bool true), (.int (181) 0), (.ref 201), .none, (.ref 202), (.ref 203), (.ref 204), (.int (454) 0), (.int (125) 0), (.str (S "/claim/cut.py") 455)], #[]⟩
noncomputable def fd206 : FuncData := fn (nth top 17) (S "gate_value") .none .none .none (.str (S "gateloom.netlist") 264) none (.ref 205) .none
noncomputable def ob206 : Obj := ⟨(.type "function"), none, .func fd206, #[]⟩
noncomputable def ob212 : Obj := ⟨(.type "code"), none, .fields #[(.str (S "cell_value") 457), (.str (S "cell_value") 458), (.str (S "/claim/cut.py") 459), (.int (145) 0), (.int (3) 0), (.int (0) 0), (.int (0) 0), (.int (3) 0), (.ref 207), (.bool true), (.int (181) 0), (.ref 208), .none, (.ref 209), (.ref 210), (.ref 211), (.int (463) 0), (.int (145) 0), (.str (S "/claim/cut.py") 464)], #[]⟩
noncomputable def fd213 : FuncData := fn (nth top 18) (S "cell_value") .none .none .none (.str (S "gateloom.netlist") 264) none (.ref 212) .none
noncomputable def ob213 : Obj := ⟨(.type "function"), none, .func fd213, #[]⟩
noncomputable def ob217 : Obj := ⟨(.type "code"), none, .fields #[(.str (S "evaluate_cells") 468), (.str (S "evaluate_cells") 469), (.str (S "/claim/cut.py") 470), (.int (152) 0), (.int (3) 0), (.int (0) 0), (.int (0) 0), (.int (3) 0), (.ref 214), (.bool true), (.int (181) 0), (.ref 215), .none, .none, .none, (.ref 216), (.int (471) 0), (.int (152) 0), (.str (S "/claim/cut.py") 472)], #[]⟩
noncomputable def fd218 : FuncData := fn (nth top 20) (S "evaluate_cells") .none .none .none (.str (S "gateloom.netsim") 466) none (.ref 217) .none
noncomputable def ob218 : Obj := ⟨(.type "function"), none, .func fd218, #[]⟩
noncomputable def ob224 : Obj := ⟨(.type "code"), none, .fields #[(.str (S "next_bit") 474), (.str (S "next_bit") 475), (.str (S "/claim/cut.py") 476), (.int (157) 0), (.int (3) 0), (.int (0) 0), (.int (0) 0), (.int (3) 0), (.ref 219), (.bool true), (.int (181) 0), (.ref 220), .none, (.ref 221), (.ref 222), (.ref 223), (.int (484) 0), (.int (157) 0), (.str (S "/claim/cut.py") 485)], #[]⟩
noncomputable def fd225 : FuncData := fn (nth top 21) (S "next_bit") .none .none .none (.str (S "gateloom.netsim") 466) none (.ref 224) .none
noncomputable def ob225 : Obj := ⟨(.type "function"), none, .func fd225, #[]⟩
noncomputable def ob238 : Obj := ⟨(.type "code"), none, .fields #[(.str (S "__init__") 499), (.str (S "NetSim.__init__") 500), (.str (S "/claim/cut.py") 501), (.int (170) 0), (.int (2) 0), (.int (0) 0), (.int (0) 0), (.int (3) 0), (.ref 233), (.bool true), (.int (181) 0), (.ref 234), .none, (.ref 235), (.ref 236), (.ref 237), (.int (506) 0), (.int (170) 0), (.str (S "/claim/cut.py") 507)], #[]⟩
noncomputable def fd239 : FuncData := fn (nth (inCls (nth top 22)) 0) (S "NetSim.__init__") .none .none .none (.str (S "gateloom.netsim") 466) none (.ref 238) .none
noncomputable def ob239 : Obj := ⟨(.type "function"), none, .func fd239, #[]⟩
noncomputable def ob245 : Obj := ⟨(.type "code"), none, .fields #[(.str (S "note_clocks") 509), (.str (S "NetSim.note_clocks") 510), (.str (S "/claim/cut.py") 511), (.int (183) 0), (.int (1) 0), (.int (0) 0), (.int (0) 0), (.int (3) 0), (.ref 240), (.bool true), (.int (181) 0), (.ref 241), .none, (.ref 242), (.ref 243), (.ref 244), (.int (517) 0), (.int (183) 0), (.str (S "/claim/cut.py") 518)], #[]⟩
noncomputable def fd246 : FuncData := fn (nth (inCls (nth top 22)) 1) (S "NetSim.note_clocks") .none .none .none (.str (S "gateloom.netsim") 466) none (.ref 245) .none
noncomputable def ob246 : Obj := ⟨(.type "function"), none, .func fd246, #[]⟩
noncomputable def ob252 : Obj := ⟨(.type "code"), none, .fields #[(.str (S "set_input") 520), (.str (S "NetSim.set_input") 521), (.str (S "/claim/cut.py") 522), (.int (194) 0), (.int (3) 0), (.int (0) 0), (.int (0) 0), (.int (3) 0), (.ref 247), (.bool true), (.int (181) 0), (.ref 248), .none, (.ref 249), (.ref 250), (.ref 251), (.int (529) 0), (.int (194) 0), (.str (S "/claim/cut.py") 530)], #[]⟩
noncomputable def fd253 : FuncData := fn (nth (inCls (nth top 22)) 2) (S "NetSim.set_input") .none .none .none (.str (S "gateloom.netsim") 466) none (.ref 252) .none
noncomputable def ob253 : Obj := ⟨(.type "function"), none, .func fd253, #[]⟩
noncomputable def ob259 : Obj := ⟨(.type "code"), none, .fields #[(.str (S "turn") 532), (.str (S "NetSim.turn") 533), (.str (S "/claim/cut.py") 534), (.int (202) 0), (.int (1) 0), (.int (0) 0), (.int (0) 0), (.int (3) 0), (.ref 254), (.bool true), (.int (181) 0), (.ref 255), .none, (.ref 256), (.ref 257), (.ref 258), (.int (543) 0), (.int (202) 0), (.str (S "/claim/cut.py") 544)], #[]⟩
noncomputable def fd260 : FuncData := fn (nth (inCls (nth top 22)) 3) (S "NetSim.turn") .none .none .none (.str (S "gateloom.netsim") 466) none (.ref 259) .none
noncomputable def ob260 : Obj := ⟨(.type "function"), none, .func fd260, #[]⟩
noncomputable def ob261 : Obj := ⟨(.type "tuple"), none, .seq #[(.int (100) 546)] 0, #[]⟩
noncomputable def ob267 : Obj := ⟨(.type "code"), none, .fields #[(.str (S "settle") 547), (.str (S "NetSim.settle") 548), (.str (S "/claim/cut.py") 549), (.int (216) 0), (.int (2) 0), (.int (0) 0), (.int (0) 0), (.int (3) 0), (.ref 262), (.bool true), (.int (181) 0), (.ref 263), .none, (.ref 264), (.ref 265), (.ref 266), (.int (553) 0), (.int (216) 0), (.str (S "/claim/cut.py") 554)], #[]⟩
noncomputable def fd268 : FuncData := fn (nth (inCls (nth top 22)) 4) (S "NetSim.settle") (.ref 261) .none .none (.str (S "gateloom.netsim") 466) none (.ref 267) .none
noncomputable def ob268 : Obj := ⟨(.type "function"), none, .func fd268, #[]⟩
noncomputable def ob274 : Obj := ⟨(.type "code"), none, .fields #[(.str (S "output") 556), (.str (S "NetSim.output") 557), (.str (S "/claim/cut.py") 558), (.int (222) 0), (.int (2) 0), (.int (0) 0), (.int (0) 0), (.int (3) 0), (.ref 269), (.bool true), (.int (181) 0), (.ref 270), .none, (.ref 271), (.ref 272), (.ref 273), (.int (565) 0), (.int (222) 0), (.str (S "/claim/cut.py") 566)], #[]⟩
noncomputable def fd275 : FuncData := fn (nth (inCls (nth top 22)) 5) (S "NetSim.output") .none .none .none (.str (S "gateloom.netsim") 466) none (.ref 274) .none
noncomputable def ob275 : Obj := ⟨(.type "function"), none, .func fd275, #[]⟩
noncomputable def ob281 : Obj := ⟨(.type "code"), none, .fields #[(.str (S "state") 568), (.str (S "NetSim.state") 569), (.str (S "/claim/cut.py") 570), (.int (232) 0), (.int (2) 0), (.int (0) 0), (.int (0) 0), (.int (3) 0), (.ref 276), (.bool true), (.int (181) 0), (.ref 277), .none, (.ref 278), (.ref 279), (.ref 280), (.int (575) 0), (.int (232) 0), (.str (S "/claim/cut.py") 576)], #[]⟩
noncomputable def fd282 : FuncData := fn (nth (inCls (nth top 22)) 6) (S "NetSim.state") .none .none .none (.str (S "gateloom.netsim") 466) none (.ref 281) .none
noncomputable def ob282 : Obj := ⟨(.type "function"), none, .func fd282, #[]⟩
noncomputable def ob288 : Obj := ⟨(.type "code"), none, .fields #[(.str (S "state_bits") 578), (.str (S "NetSim.state_bits") 579), (.str (S "/claim/cut.py") 580), (.int (239) 0), (.int (1) 0), (.int (0) 0), (.int (0) 0), (.int (3) 0), (.ref 283), (.bool true), (.int (181) 0), (.ref 284), .none, (.ref 285), (.ref 286), (.ref 287), (.int (582) 0), (.int (239) 0), (.str (S "/claim/cut.py") 583)], #[]⟩
noncomputable def fd289 : FuncData := fn (nth (inCls (nth top 22)) 7) (S "NetSim.state_bits") .none .none .none (.str (S "gateloom.netsim") 466) none (.ref 288) .none
noncomputable def ob289 : Obj := ⟨(.type "function"), none, .func fd289, #[]⟩
noncomputable def ob291 (P : Params) : Obj := ⟨(.type "dict"), none, .dict (List.toArray [⟨PyData.keyHash P (S "__module__"), (.str (S "__module__") 494), (.str (S "gateloom.netsim") 466)⟩, ⟨PyData.keyHash P (S "__firstlineno__"), (.str (S "__firstlineno__") 498), (.int (168) 497)⟩, ⟨PyData.keyHash P (S "__init__"), (.str (S "__init__") 508), (.ref 239)⟩, ⟨PyData.keyHash P (S "note_clocks"), (.str (S "note_clocks") 519), (.ref 246)⟩, ⟨PyData.keyHash P (S "set_input"), (.str (S "set_input") 531), (.ref 253)⟩, ⟨PyData.keyHash P (S "turn"), (.str (S "turn") 545), (.ref 260)⟩, ⟨PyData.keyHash P (S "settle"), (.str (S "settle") 555), (.ref 268)⟩, ⟨PyData.keyHash P (S "output"), (.str (S "output") 567), (.ref 275)⟩, ⟨PyData.keyHash P (S "state"), (.str (S "state") 577), (.ref 282)⟩, ⟨PyData.keyHash P (S "state_bits"), (.str (S "state_bits") 584), (.ref 289)⟩, ⟨PyData.keyHash P (S "__static_attributes__"), (.str (S "__static_attributes__") 590), (.ref 290)⟩, ⟨PyData.keyHash P (S "__dict__"), (.str (S "__dict__") 592), (.ref 293)⟩, ⟨PyData.keyHash P (S "__weakref__"), (.str (S "__weakref__") 594), (.ref 294)⟩, ⟨PyData.keyHash P (S "__doc__"), (.str (S "__doc__") 595), .none⟩]) 4, #[]⟩
noncomputable def ob292 : Obj := ⟨(.type "type"), none, .cls { name := (S "NetSim"), bases := [(.type "object")], mro := [(.ref 292), (.type "object")], ns := 291, qualname := (S "NetSim"), hasDict := true, slotNames := [], subclasses := [], abstract := false, collection := none, hasDel := false }, #[none, none, some (.str (S "NetSim") 487), some (.str (S "NetSim") 495), some (.builtin "object.__new__"), some (.bool true)]⟩
noncomputable def ob293 : Obj := ⟨(.type "getset_descriptor"), none, .fields #[(.str (S "__dict__") 591), (.ref 292), (.builtin "function.__dict__"), (.builtin "function.__dict__#set")], #[]⟩
noncomputable def ob294 : Obj := ⟨(.type "getset_descriptor"), none, .fields #[(.str (S "__weakref__") 593), (.ref 292), (.builtin "ExceptionGroup.__weakref__"), .none], #[]⟩
noncomputable def ob302 : Obj := ⟨(.type "code"), none, .fields #[(.str (S "_law_pick") 600), (.str (S "_law_pick") 601), (.str (S "/claim/cut.py") 602), (.int (242) 0), (.int (2) 0), (.int (0) 0), (.int (0) 0), (.int (3) 0), (.ref 297), (.bool true), (.int (181) 0), (.ref 298), .none, (.ref 299), (.ref 300), (.ref 301), (.int (607) 0), (.int (242) 0), (.str (S "/claim/cut.py") 608)], #[]⟩
noncomputable def fd303 : FuncData := fn (nth top 24) (S "_law_pick") .none .none .none (.str (S "law_nn0318_01") 598) none (.ref 302) .none
noncomputable def ob303 : Obj := ⟨(.type "function"), none, .func fd303, #[]⟩
noncomputable def ob309 : Obj := ⟨(.type "code"), none, .fields #[(.str (S "_law_table") 610), (.str (S "_law_table") 611), (.str (S "/claim/cut.py") 612), (.int (253) 0), (.int (2) 0), (.int (0) 0), (.int (0) 0), (.int (3) 0), (.ref 304), (.bool true), (.int (181) 0), (.ref 305), .none, (.ref 306), (.ref 307), (.ref 308), (.int (615) 0), (.int (253) 0), (.str (S "/claim/cut.py") 616)], #[]⟩
noncomputable def fd310 : FuncData := fn (nth top 25) (S "_law_table") .none .none .none (.str (S "law_nn0318_01") 598) none (.ref 309) .none
noncomputable def ob310 : Obj := ⟨(.type "function"), none, .func fd310, #[]⟩
noncomputable def ob316 : Obj := ⟨(.type "code"), none, .fields #[(.str (S "_law_gates") 618), (.str (S "_law_gates") 619), (.str (S "/claim/cut.py") 620), (.int (259) 0), (.int (2) 0), (.int (0) 0), (.int (0) 0), (.int (3) 0), (.ref 311), (.bool true), (.int (181) 0), (.ref 312), .none, (.ref 313), (.ref 314), (.ref 315), (.int (629) 0), (.int (259) 0), (.str (S "/claim/cut.py") 630)], #[]⟩
noncomputable def fd317 : FuncData := fn (nth top 26) (S "_law_gates") .none .none .none (.str (S "law_nn0318_01") 598) none (.ref 316) .none
noncomputable def ob317 : Obj := ⟨(.type "function"), none, .func fd317, #[]⟩
noncomputable def ob321 : Obj := ⟨(.type "code"), none, .fields #[(.str (S "_law_turn") 632), (.str (S "_law_turn") 633), (.str (S "/claim/cut.py") 634), (.int (265) 0), (.int (4) 0), (.int (0) 0), (.int (0) 0), (.int (3) 0), (.ref 318), (.bool true), (.int (181) 0), (.ref 319), .none, .none, .none, (.ref 320), (.int (635) 0), (.int (265) 0), (.str (S "/claim/cut.py") 636)], #[]⟩
noncomputable def fd322 : FuncData := fn (nth top 27) (S "_law_turn") .none .none .none (.str (S "law_nn0318_01") 598) none (.ref 321) .none
noncomputable def ob322 : Obj := ⟨(.type "function"), none, .func fd322, #[]⟩
noncomputable def ob326 : Obj := ⟨(.type "code"), none, .fields #[(.str (S "law") 638), (.str (S "law") 639), (.str (S "/claim/cut.py") 640), (.int (289) 0), (.int (1) 0), (.int (0) 0), (.int (0) 0), (.int (3) 0), (.ref 323), (.bool true), (.int (181) 0), (.ref 324), .none, .none, .none, (.ref 325), (.int (641) 0), (.int (289) 0), (.str (S "/claim/cut.py") 642)], #[]⟩
noncomputable def fd327 : FuncData := fn (nth top 28) (S "law") .none .none .none (.str (S "law_nn0318_01") 598) none (.ref 326) .none
noncomputable def ob327 : Obj := ⟨(.type "function"), none, .func fd327, #[]⟩
noncomputable def Kt (P : Params) : Frag := [(3, ob3 P), (20, ob20), (21, ob21), (29, ob29), (35, ob35), (36, ob36), (38, ob38 P), (39, ob39), (40, ob40), (51, ob51 P), (52, ob52), (63, ob63 P), (64, ob64), (72, ob72), (73, ob73), (79, ob79), (80, ob80), (86, ob86), (87, ob87), (100, ob100), (101, ob101), (107, ob107), (108, ob108), (112, ob112), (113, ob113), (119, ob119), (120, ob120), (126, ob126), (127, ob127), (128, ob128), (134, ob134), (135, ob135), (136, ob136), (142, ob142), (143, ob143), (149, ob149), (150, ob150), (156, ob156), (157, ob157), (159, ob159 P), (160, ob160), (161, ob161), (162, ob162), (170, ob170), (171, ob171), (177, ob177), (178, ob178), (184, ob184), (185, ob185), (191, ob191), (192, ob192), (198, ob198), (199, ob199), (205, ob205), (206, ob206), (212, ob212), (213, ob213), (217, ob217), (218, ob218), (224, ob224), (225, ob225), (238, ob238), (239, ob239), (245, ob245), (246, ob246), (252, ob252), (253, ob253), (259, ob259), (260, ob260), (261, ob261), (267, ob267), (268, ob268), (274, ob274), (275, ob275), (281, ob281), (282, ob282), (288, ob288), (289, ob289), (291, ob291 P), (292, ob292), (293, ob293), (294, ob294), (302, ob302), (303, ob303), (309, ob309), (310, ob310), (316, ob316), (317, ob317), (321, ob321), (322, ob322), (326, ob326), (327, ob327)]
theorem len1 {α : Type} {l : List α} (h : l.length = 1) : ∃ a, l = [a] := List.length_eq_one_iff.mp h
theorem len2 {α : Type} {l : List α} (h : l.length = 2) : ∃ a b, l = [a, b] := by
  match l, h with
  | [a, b], _ => exact ⟨a, b, rfl⟩
theorem len3 {α : Type} {l : List α} (h : l.length = 3) : ∃ a b c, l = [a, b, c] := by
  match l, h with
  | [a, b, c], _ => exact ⟨a, b, c, rfl⟩
theorem len4 {α : Type} {l : List α} (h : l.length = 4) : ∃ a b c d, l = [a, b, c, d] := by
  match l, h with
  | [a, b, c, d], _ => exact ⟨a, b, c, d, rfl⟩
theorem len5 {α : Type} {l : List α} (h : l.length = 5) : ∃ a b c d e, l = [a, b, c, d, e] := by
  match l, h with
  | [a, b, c, d, e], _ => exact ⟨a, b, c, d, e, rfl⟩

section
variable {c : Cx} {m : Loc} {led : List As} {P : Params} {k : Nat}
/-- a call of a def of the text -/
theorem calls_fn {fa : Addr} {fd : FuncData} {ob : Obj} {body : List Stmt} {vs : List V} {K : V → List As → Prop} (o : Ok c (Kt P) (k + 1)) (ps : List PySem.Str) (others : List PySem.Str) (m0 : Loc)
    (hm0 : bindLoc ps vs others = m0)
    (hl : (Kt P).lookup fa = some ob) (hdata : ob.data = .func fd) (hcd : codeIn (Kt P) fd.code fd.qualname = true) (hbody : fd.body = .stmts body)
    (hbind : ∀ xs : List Value, xs.length = ps.length → ∀ h : Heap, (∀ b o, c.h₀.get? b = some o → h.get? b = some o) → ∀ tk, BindsTo ⟨h, c.g, c.d, tk, c.os⟩ fd ⟨xs, []⟩ (ps.zip xs))
    (hcell : (fd.scope.names.all fun x => decide (x.2 ≠ .cell)) = true) (hn : ps.length = vs.length) (nd : (ps ++ others).Nodup) (hloc : ((ps ++ others).all fun x => decide (fd.scope.names.lookup x = some .local)) = true)
    (hg : fd.globals = mainGlobals) (hbu : fd.builtins = builtinsNs) (hk : fd.scope.kind = .function) (hco : fd.scope.isCoroutine = false) (hgen : fd.scope.isGenerator = false)
    (h : ∀ L, Ok (c.deep (callEnv fd L fa)) (Kt P) k → SX (c.deep (callEnv fd L fa)) m0 led body (Ret K)) : Calls c (.ref fa) vs led K :=
  calls_def (ps := ps) (others := others) o hl hdata (codeRec_of o.X hcd) hbody hbind (fun x hx => by have := List.all_eq_true.mp hcell x hx; simpa using this) hn nd (fun x hx => by have := List.all_eq_true.mp hloc x hx; simpa using this) hg hbu hk hco hgen
    fun L => by subst hm0; exact h L (o.deep hg hbu hk)
theorem pn_nil {f : List Value → Sem Value} {vs : List V} {K : V → Loc → List As → Prop} (h : PN VR c m led f vs K) : PN VR c m led f ([] ++ vs) K := h
theorem pn_one {f : List Value → Sem Value} {a : V} {vs : List V} {K : V → Loc → List As → Prop} (h : PN VR c m led f (a :: vs) K) : PN VR c m led f ([a] ++ vs) K := h
inductive Cj3 (p0 p1 p2 : Prop) : Prop | mk (a0 : p0) (a1 : p1) (a2 : p2) : Cj3 p0 p1 p2
inductive Cj4 (p0 p1 p2 p3 : Prop) : Prop | mk (a0 : p0) (a1 : p1) (a2 : p2) (a3 : p3) : Cj4 p0 p1 p2 p3
inductive Cj5 (p0 p1 p2 p3 p4 : Prop) : Prop | mk (a0 : p0) (a1 : p1) (a2 : p2) (a3 : p3) (a4 : p4) : Cj5 p0 p1 p2 p3 p4
inductive Cj6 (p0 p1 p2 p3 p4 p5 : Prop) : Prop | mk (a0 : p0) (a1 : p1) (a2 : p2) (a3 : p3) (a4 : p4) (a5 : p5) : Cj6 p0 p1 p2 p3 p4 p5
inductive Cj7 (p0 p1 p2 p3 p4 p5 p6 : Prop) : Prop | mk (a0 : p0) (a1 : p1) (a2 : p2) (a3 : p3) (a4 : p4) (a5 : p5) (a6 : p6) : Cj7 p0 p1 p2 p3 p4 p5 p6
inductive Cj8 (p0 p1 p2 p3 p4 p5 p6 p7 : Prop) : Prop | mk (a0 : p0) (a1 : p1) (a2 : p2) (a3 : p3) (a4 : p4) (a5 : p5) (a6 : p6) (a7 : p7) : Cj8 p0 p1 p2 p3 p4 p5 p6 p7
inductive Cj9 (p0 p1 p2 p3 p4 p5 p6 p7 p8 : Prop) : Prop | mk (a0 : p0) (a1 : p1) (a2 : p2) (a3 : p3) (a4 : p4) (a5 : p5) (a6 : p6) (a7 : p7) (a8 : p8) : Cj9 p0 p1 p2 p3 p4 p5 p6 p7 p8
inductive Cj10 (p0 p1 p2 p3 p4 p5 p6 p7 p8 p9 : Prop) : Prop | mk (a0 : p0) (a1 : p1) (a2 : p2) (a3 : p3) (a4 : p4) (a5 : p5) (a6 : p6) (a7 : p7) (a8 : p8) (a9 : p9) : Cj10 p0 p1 p2 p3 p4 p5 p6 p7 p8 p9
inductive Cj11 (p0 p1 p2 p3 p4 p5 p6 p7 p8 p9 p10 : Prop) : Prop | mk (a0 : p0) (a1 : p1) (a2 : p2) (a3 : p3) (a4 : p4) (a5 : p5) (a6 : p6) (a7 : p7) (a8 : p8) (a9 : p9) (a10 : p10) : Cj11 p0 p1 p2 p3 p4 p5 p6 p7 p8 p9 p10
inductive Cj12 (p0 p1 p2 p3 p4 p5 p6 p7 p8 p9 p10 p11 : Prop) : Prop | mk (a0 : p0) (a1 : p1) (a2 : p2) (a3 : p3) (a4 : p4) (a5 : p5) (a6 : p6) (a7 : p7) (a8 : p8) (a9 : p9) (a10 : p10) (a11 : p11) : Cj12 p0 p1 p2 p3 p4 p5 p6 p7 p8 p9 p10 p11
theorem b01 {d : Int} (h0 : 0 ≤ d) (h1 : d < 2) : d = 0 ∨ d = 1 := by (first | lia | omega)
theorem s_join {st : Stmt} {rest : List Stmt} {K : F → Loc → List As → Prop} {M : Loc} (h : SS c m led st fun fl m1 led1 => fl = F.next ∧ m1 = M ∧ led1 = led) (k : SX c M led rest K) : SX c m led (st :: rest) K :=
  s_cons (SP.mono h fun fl m1 led1 z => by obtain ⟨e1, e2, e3⟩ := z; subst e1 e2 e3; exact k)
noncomputable def RetK (K : V → List As → Prop) (KR : F → Loc → List As → Prop) : Prop := ∀ fl m led, Ret K fl m led → KR fl m led
theorem use_r {K : V → List As → Prop} {KR : F → Loc → List As → Prop} {fl : F} (h : RetK K KR) (x : Ret K fl m led) : KR fl m led := h _ _ _ x
theorem use_j {KJ X : Loc → List As → Prop} (h : ∀ m led, X m led → KJ m led) (x : X m led) : KJ m led := h _ _ x
theorem use_f {KF : F → Loc → List As → Prop} {X : F → Loc → List As → Prop} {fl : F} (h : ∀ fl m led, X fl m led → KF fl m led) (x : X fl m led) : KF fl m led := h _ _ _ x
theorem use_e {KE X : V → Loc → List As → Prop} {v : V} (h : ∀ v m led, X v m led → KE v m led) (x : X v m led) : KE v m led := h _ _ _ x
theorem then_next {rest : List Stmt} {K : F → Loc → List As → Prop} (h : SX c m led rest K) : Then c rest K .next m led := h
theorem then_ret {rest : List Stmt} {K : F → Loc → List As → Prop} {v : V} (h : K (.ret v) m led) : Then c rest K (.ret v) m led := h
theorem then_cont {rest : List Stmt} {K : F → Loc → List As → Prop} (h : K .cont m led) : Then c rest K .cont m led := h
theorem turn_next {J : Loc → List As → Prop} {K : F → Loc → List As → Prop} (h : J m led) : Turn J K .next m led := h
theorem turn_cont {J : Loc → List As → Prop} {K : F → Loc → List As → Prop} (h : J m led) : Turn J K .cont m led := h
theorem turn_ret {J : Loc → List As → Prop} {K : F → Loc → List As → Prop} {v : V} (h : K (.ret v) m led) : Turn J K (.ret v) m led := h
theorem ret_ret {K : V → List As → Prop} {v : V} (h : Dn led (K v)) : Ret K (.ret v) m led := h
theorem ret_next {K : V → List As → Prop} (h : Dn led (K .none)) : Ret K .next m led := h
theorem glob_ex {f : Value} {pos : Pos} {args : List Expr} {K : V → Loc → List As → Prop} (h : CW c m led pos f args [] K) : KC1 c pos args K (.glob f) m led := h
theorem none_and {R : Prop} (h : R) : V.none = V.none ∧ R := ⟨rfl, h⟩
theorem ite_t {p : Bool} {a b : Prop} (e : p = true) (h : a) : if p = true then a else b := by rw [if_pos e]; exact h
theorem ite_f {p : Bool} {a b : Prop} (e : p = false) (h : b) : if p = true then a else b := by rw [if_neg (by rw [e]; exact Bool.false_ne_true)]; exact h
theorem ite_both {p : Bool} {a b : Prop} (h1 : p = true → a) (h2 : p = false → b) : if p = true then a else b := by
  cases p
  · rw [if_neg Bool.false_ne_true]; exact h2 rfl
  · rw [if_pos rfl]; exact h1 rfl
theorem store_mk {x : PySem.Str} {v : V} {m m' : Loc} {k : Loc → Prop} (u : SetL x v m m') (h : k m') : Store x v m k := ⟨m', u, h⟩

/-- the global names that the text reads -/
inductive Gl : PySem.Str → V → Prop
  | nlen : Gl (S "len") (.glob (.builtin "len"))
  | nrange : Gl (S "range") (.glob (.type "range"))
  | ntuple : Gl (S "tuple") (.glob (.type "tuple"))
  | nlist : Gl (S "list") (.glob (.type "list"))
  | nsum : Gl (S "sum") (.glob (.builtin "sum"))
  | nstr : Gl (S "str") (.glob (.type "str"))
  | nLimitReached : Gl (S "LimitReached") (.glob (.ref 64))
  | nCONST0 : Gl (S "CONST0") (.int 0)
  | nCONST1 : Gl (S "CONST1") (.int 1)
  | nis_state_kind : Gl (S "is_state_kind") (.glob (.ref 73))
  | nstate_name : Gl (S "state_name") (.glob (.ref 80))
  | nstate_init : Gl (S "state_init") (.glob (.ref 87))
  | nNetlist : Gl (S "Netlist") (.glob (.ref 160))
  | nstate_cells : Gl (S "state_cells") (.glob (.ref 171))
  | ndrivers : Gl (S "drivers") (.glob (.ref 178))
  | nordered_cells : Gl (S "ordered_cells") (.glob (.ref 185))
  | ncomb_order : Gl (S "comb_order") (.glob (.ref 192))
  | nrow_number : Gl (S "row_number") (.glob (.ref 199))
  | ngate_value : Gl (S "gate_value") (.glob (.ref 206))
  | ncell_value : Gl (S "cell_value") (.glob (.ref 213))
  | nevaluate_cells : Gl (S "evaluate_cells") (.glob (.ref 218))
  | nnext_bit : Gl (S "next_bit") (.glob (.ref 225))
  | nNetSim : Gl (S "NetSim") (.glob (.ref 292))
  | nlaw_pick : Gl (S "_law_pick") (.glob (.ref 303))
  | nlaw_table : Gl (S "_law_table") (.glob (.ref 310))
  | nlaw_gates : Gl (S "_law_gates") (.glob (.ref 317))
  | nlaw_turn : Gl (S "_law_turn") (.glob (.ref 322))
theorem x_any {x : PySem.Str} {v : V} {pos : Pos} {K : V → Loc → List As → Prop} (o : Ok c (Kt P) k) (g : Gl x v) (hx : c.env.kindOf x = some .globalImplicit) (h : K v m led) : SE c m led (.Name x pos) K := by
  cases g with
  | nlen => exact e_boot o hx (by kernel_rfl) (by kernel_rfl) h
  | nrange => exact e_boot o hx (by kernel_rfl) (by kernel_rfl) h
  | ntuple => exact e_boot o hx (by kernel_rfl) (by kernel_rfl) h
  | nlist => exact e_boot o hx (by kernel_rfl) (by kernel_rfl) h
  | nsum => exact e_boot o hx (by kernel_rfl) (by kernel_rfl) h
  | nstr => exact e_boot o hx (by kernel_rfl) (by kernel_rfl) h
  | nLimitReached => exact e_glob o hx (by kernel_rfl) h
  | nCONST0 => exact e_globi (t := 266) o hx (by kernel_rfl) h
  | nCONST1 => exact e_globi (t := 268) o hx (by kernel_rfl) h
  | nis_state_kind => exact e_glob o hx (by kernel_rfl) h
  | nstate_name => exact e_glob o hx (by kernel_rfl) h
  | nstate_init => exact e_glob o hx (by kernel_rfl) h
  | nNetlist => exact e_glob o hx (by kernel_rfl) h
  | nstate_cells => exact e_glob o hx (by kernel_rfl) h
  | ndrivers => exact e_glob o hx (by kernel_rfl) h
  | nordered_cells => exact e_glob o hx (by kernel_rfl) h
  | ncomb_order => exact e_glob o hx (by kernel_rfl) h
  | nrow_number => exact e_glob o hx (by kernel_rfl) h
  | ngate_value => exact e_glob o hx (by kernel_rfl) h
  | ncell_value => exact e_glob o hx (by kernel_rfl) h
  | nevaluate_cells => exact e_glob o hx (by kernel_rfl) h
  | nnext_bit => exact e_glob o hx (by kernel_rfl) h
  | nNetSim => exact e_glob o hx (by kernel_rfl) h
  | nlaw_pick => exact e_glob o hx (by kernel_rfl) h
  | nlaw_table => exact e_glob o hx (by kernel_rfl) h
  | nlaw_gates => exact e_glob o hx (by kernel_rfl) h
  | nlaw_turn => exact e_glob o hx (by kernel_rfl) h
end
section
variable {c : Cx} {m : Loc} {led : List As} {P : Params} {k : Nat}

/-- is_state_kind(kind) -/
theorem in_is_state_kind (o : Ok c (Kt P) (k + 1)) {v0 : V} {K : V → List As → Prop} (h : ∀ L, Ok (c.deep (callEnv fd73 L 73)) (Kt P) k → ∀ KR, RetK K KR → SX (c.deep (callEnv fd73 L 73)) [(S "kind", some v0)] led (bodyOf (nth top 8)) KR) : Calls c (.ref 73) [v0] led K := by
  refine calls_fn o [S "kind"] [] [(S "kind", some v0)] rfl (ob := ob73) (fd := fd73) (by kernel_rfl) rfl (by kernel_rfl) rfl (fun xs hx hh hk tk => ?_) (by kernel_rfl) rfl (by decide +kernel) (by kernel_rfl) rfl rfl (by kernel_rfl) (by kernel_rfl) (by kernel_rfl) fun L o' => h L o' (Ret K) fun _ _ _ z => z
  obtain ⟨a0, rfl⟩ := len1 hx
  exact BindsTo.of_eq (by kernel_rfl)

/-- state_name(cell) -/
theorem in_state_name (o : Ok c (Kt P) (k + 1)) {v0 : V} {K : V → List As → Prop} (h : ∀ L, Ok (c.deep (callEnv fd80 L 80)) (Kt P) k → ∀ KR, RetK K KR → SX (c.deep (callEnv fd80 L 80)) [(S "cell", some v0)] led (bodyOf (nth top 9)) KR) : Calls c (.ref 80) [v0] led K := by
  refine calls_fn o [S "cell"] [] [(S "cell", some v0)] rfl (ob := ob80) (fd := fd80) (by kernel_rfl) rfl (by kernel_rfl) rfl (fun xs hx hh hk tk => ?_) (by kernel_rfl) rfl (by decide +kernel) (by kernel_rfl) rfl rfl (by kernel_rfl) (by kernel_rfl) (by kernel_rfl) fun L o' => h L o' (Ret K) fun _ _ _ z => z
  obtain ⟨a0, rfl⟩ := len1 hx
  exact BindsTo.of_eq (by kernel_rfl)

/-- state_init(cell) -/
theorem in_state_init (o : Ok c (Kt P) (k + 1)) {v0 : V} {K : V → List As → Prop} (h : ∀ L, Ok (c.deep (callEnv fd87 L 87)) (Kt P) k → ∀ KR, RetK K KR → SX (c.deep (callEnv fd87 L 87)) [(S "cell", some v0)] led (bodyOf (nth top 10)) KR) : Calls c (.ref 87) [v0] led K := by
  refine calls_fn o [S "cell"] [] [(S "cell", some v0)] rfl (ob := ob87) (fd := fd87) (by kernel_rfl) rfl (by kernel_rfl) rfl (fun xs hx hh hk tk => ?_) (by kernel_rfl) rfl (by decide +kernel) (by kernel_rfl) rfl rfl (by kernel_rfl) (by kernel_rfl) (by kernel_rfl) fun L o' => h L o' (Ret K) fun _ _ _ z => z
  obtain ⟨a0, rfl⟩ := len1 hx
  exact BindsTo.of_eq (by kernel_rfl)

/-- Netlist.__init__(self, name) -/
theorem in_Netlist_init (o : Ok c (Kt P) (k + 1)) {v0 v1 : V} {K : V → List As → Prop} (h : ∀ L, Ok (c.deep (callEnv fd101 L 101)) (Kt P) k → ∀ KR, RetK K KR → SX (c.deep (callEnv fd101 L 101)) [(S "self", some v0), (S "name", some v1)] led (bodyOf (nth (inCls (nth top 11)) 0)) KR) : Calls c (.ref 101) [v0, v1] led K := by
  refine calls_fn o [S "self", S "name"] [] [(S "self", some v0), (S "name", some v1)] rfl (ob := ob101) (fd := fd101) (by kernel_rfl) rfl (by kernel_rfl) rfl (fun xs hx hh hk tk => ?_) (by kernel_rfl) rfl (by decide +kernel) (by kernel_rfl) rfl rfl (by kernel_rfl) (by kernel_rfl) (by kernel_rfl) fun L o' => h L o' (Ret K) fun _ _ _ z => z
  obtain ⟨a0, a1, rfl⟩ := len2 hx
  exact BindsTo.of_eq (by kernel_rfl)

/-- Netlist.new_net(self) -/
theorem in_Netlist_new_net (o : Ok c (Kt P) (k + 1)) {v0 : V} {K : V → List As → Prop} (h : ∀ L, Ok (c.deep (callEnv fd108 L 108)) (Kt P) k → ∀ KR, RetK K KR → SX (c.deep (callEnv fd108 L 108)) [(S "self", some v0), (S "net", none)] led (bodyOf (nth (inCls (nth top 11)) 1)) KR) : Calls c (.ref 108) [v0] led K := by
  refine calls_fn o [S "self"] [S "net"] [(S "self", some v0), (S "net", none)] rfl (ob := ob108) (fd := fd108) (by kernel_rfl) rfl (by kernel_rfl) rfl (fun xs hx hh hk tk => ?_) (by kernel_rfl) rfl (by decide +kernel) (by kernel_rfl) rfl rfl (by kernel_rfl) (by kernel_rfl) (by kernel_rfl) fun L o' => h L o' (Ret K) fun _ _ _ z => z
  obtain ⟨a0, rfl⟩ := len1 hx
  exact BindsTo.of_eq (by kernel_rfl)

/-- Netlist.new_nets(self, width), self a cell -/
theorem in_Netlist_new_nets (o : Ok c (Kt P) (k + 1)) {v0 v1 : V} {K : V → List As → Prop} (h : ∀ L, Ok (c.deep (callEnvC fd113 L 113)) (Kt P) k → (callEnvC fd113 L 113).cells = [(S "self", L + 1)] → ∀ KR, RetK K KR → SX (c.deep (callEnvC fd113 L 113)) [(S "width", some v1)] (.cel (L + 1) (some v0) :: led) (bodyOf (nth (inCls (nth top 11)) 2)) KR) : Calls c (.ref 113) [v0, v1] led K := by
  refine calls_cell (ob := ob113) (fd := fd113) (ps := [S "self", S "width"]) (lo := [S "width"]) (x := S "self") (i := 0) (v := v0) o (by kernel_rfl) rfl (codeRec_of o.X (by kernel_rfl)) rfl (fun xs hx => ?_) rfl (fun n => by kernel_rfl) rfl (fun xs hx => ?_) rfl (by decide +kernel) (by decide +kernel) (by decide +kernel) (by kernel_rfl) rfl rfl (by kernel_rfl) (by kernel_rfl) (by kernel_rfl)
    fun L => h L (o.deep rfl rfl (by kernel_rfl)) (by kernel_rfl) (Ret K) fun _ _ _ z => z
  · obtain ⟨a0, a1, rfl⟩ := len2 hx
    kernel_rfl
  · obtain ⟨a0, a1, rfl⟩ := len2 hx
    kernel_rfl

/-- Netlist.add_input(self, name, width) -/
theorem in_Netlist_add_input (o : Ok c (Kt P) (k + 1)) {v0 v1 v2 : V} {K : V → List As → Prop} (h : ∀ L, Ok (c.deep (callEnv fd120 L 120)) (Kt P) k → ∀ KR, RetK K KR → SX (c.deep (callEnv fd120 L 120)) [(S "self", some v0), (S "name", some v1), (S "width", some v2), (S "nets", none)] led (bodyOf (nth (inCls (nth top 11)) 3)) KR) : Calls c (.ref 120) [v0, v1, v2] led K := by
  refine calls_fn o [S "self", S "name", S "width"] [S "nets"] [(S "self", some v0), (S "name", some v1), (S "width", some v2), (S "nets", none)] rfl (ob := ob120) (fd := fd120) (by kernel_rfl) rfl (by kernel_rfl) rfl (fun xs hx hh hk tk => ?_) (by kernel_rfl) rfl (by decide +kernel) (by kernel_rfl) rfl rfl (by kernel_rfl) (by kernel_rfl) (by kernel_rfl) fun L o' => h L o' (Ret K) fun _ _ _ z => z
  obtain ⟨a0, a1, a2, rfl⟩ := len3 hx
  exact BindsTo.of_eq (by kernel_rfl)

/-- Netlist.add_output(self, name, nets) -/
theorem in_Netlist_add_output (o : Ok c (Kt P) (k + 1)) {v0 v1 v2 : V} {K : V → List As → Prop} (h : ∀ L, Ok (c.deep (callEnv fd127 L 127)) (Kt P) k → ∀ KR, RetK K KR → SX (c.deep (callEnv fd127 L 127)) [(S "self", some v0), (S "name", some v1), (S "nets", some v2)] led (bodyOf (nth (inCls (nth top 11)) 4)) KR) : Calls c (.ref 127) [v0, v1, v2] led K := by
  refine calls_fn o [S "self", S "name", S "nets"] [] [(S "self", some v0), (S "name", some v1), (S "nets", some v2)] rfl (ob := ob127) (fd := fd127) (by kernel_rfl) rfl (by kernel_rfl) rfl (fun xs hx hh hk tk => ?_) (by kernel_rfl) rfl (by decide +kernel) (by kernel_rfl) rfl rfl (by kernel_rfl) (by kernel_rfl) (by kernel_rfl) fun L o' => h L o' (Ret K) fun _ _ _ z => z
  obtain ⟨a0, a1, a2, rfl⟩ := len3 hx
  exact BindsTo.of_eq (by kernel_rfl)

/-- Netlist.add_cell(self, kind, ins, param) -/
theorem in_Netlist_add_cell (o : Ok c (Kt P) (k + 1)) {v0 v1 v2 v3 : V} {K : V → List As → Prop} (h : ∀ L, Ok (c.deep (callEnv fd135 L 135)) (Kt P) k → ∀ KR, RetK K KR → SX (c.deep (callEnv fd135 L 135)) [(S "self", some v0), (S "kind", some v1), (S "ins", some v2), (S "param", some v3), (S "out", none)] led (bodyOf (nth (inCls (nth top 11)) 5)) KR) : Calls c (.ref 135) [v0, v1, v2, v3] led K := by
  refine calls_fn o [S "self", S "kind", S "ins", S "param"] [S "out"] [(S "self", some v0), (S "kind", some v1), (S "ins", some v2), (S "param", some v3), (S "out", none)] rfl (ob := ob135) (fd := fd135) (by kernel_rfl) rfl (by kernel_rfl) rfl (fun xs hx hh hk tk => ?_) (by kernel_rfl) rfl (by decide +kernel) (by kernel_rfl) rfl rfl (by kernel_rfl) (by kernel_rfl) (by kernel_rfl) fun L o' => h L o' (Ret K) fun _ _ _ z => z
  obtain ⟨a0, a1, a2, a3, rfl⟩ := len4 hx
  exact binds_K (o.X.keeps hk) rfl (show (Kt P).lookup 128 = some ob128 by kernel_rfl) rfl (by with_unfolding_all rfl) (by with_unfolding_all rfl)

/-- Netlist.drive(self, out, kind, ins, param) -/
theorem in_Netlist_drive (o : Ok c (Kt P) (k + 1)) {v0 v1 v2 v3 v4 : V} {K : V → List As → Prop} (h : ∀ L, Ok (c.deep (callEnv fd143 L 143)) (Kt P) k → ∀ KR, RetK K KR → SX (c.deep (callEnv fd143 L 143)) [(S "self", some v0), (S "out", some v1), (S "kind", some v2), (S "ins", some v3), (S "param", some v4)] led (bodyOf (nth (inCls (nth top 11)) 6)) KR) : Calls c (.ref 143) [v0, v1, v2, v3, v4] led K := by
  refine calls_fn o [S "self", S "out", S "kind", S "ins", S "param"] [] [(S "self", some v0), (S "out", some v1), (S "kind", some v2), (S "ins", some v3), (S "param", some v4)] rfl (ob := ob143) (fd := fd143) (by kernel_rfl) rfl (by kernel_rfl) rfl (fun xs hx hh hk tk => ?_) (by kernel_rfl) rfl (by decide +kernel) (by kernel_rfl) rfl rfl (by kernel_rfl) (by kernel_rfl) (by kernel_rfl) fun L o' => h L o' (Ret K) fun _ _ _ z => z
  obtain ⟨a0, a1, a2, a3, a4, rfl⟩ := len5 hx
  exact binds_K (o.X.keeps hk) rfl (show (Kt P).lookup 136 = some ob136 by kernel_rfl) rfl (by with_unfolding_all rfl) (by with_unfolding_all rfl)

/-- state_cells(netlist) -/
theorem in_state_cells (o : Ok c (Kt P) (k + 1)) {v0 : V} {K : V → List As → Prop} (h : ∀ L, Ok (c.deep (callEnv fd171 L 171)) (Kt P) k → ∀ KR, RetK K KR → SX (c.deep (callEnv fd171 L 171)) [(S "netlist", some v0), (S "found", none), (S "index", none)] led (bodyOf (nth top 12)) KR) : Calls c (.ref 171) [v0] led K := by
  refine calls_fn o [S "netlist"] [S "found", S "index"] [(S "netlist", some v0), (S "found", none), (S "index", none)] rfl (ob := ob171) (fd := fd171) (by kernel_rfl) rfl (by kernel_rfl) rfl (fun xs hx hh hk tk => ?_) (by kernel_rfl) rfl (by decide +kernel) (by kernel_rfl) rfl rfl (by kernel_rfl) (by kernel_rfl) (by kernel_rfl) fun L o' => h L o' (Ret K) fun _ _ _ z => z
  obtain ⟨a0, rfl⟩ := len1 hx
  exact BindsTo.of_eq (by kernel_rfl)

/-- drivers(netlist) -/
theorem in_drivers (o : Ok c (Kt P) (k + 1)) {v0 : V} {K : V → List As → Prop} (h : ∀ L, Ok (c.deep (callEnv fd178 L 178)) (Kt P) k → ∀ KR, RetK K KR → SX (c.deep (callEnv fd178 L 178)) [(S "netlist", some v0), (S "taken", none), (S "name", none), (S "bits", none), (S "net", none), (S "found", none), (S "index", none)] led (bodyOf (nth top 13)) KR) : Calls c (.ref 178) [v0] led K := by
  refine calls_fn o [S "netlist"] [S "taken", S "name", S "bits", S "net", S "found", S "index"] [(S "netlist", some v0), (S "taken", none), (S "name", none), (S "bits", none), (S "net", none), (S "found", none), (S "index", none)] rfl (ob := ob178) (fd := fd178) (by kernel_rfl) rfl (by kernel_rfl) rfl (fun xs hx hh hk tk => ?_) (by kernel_rfl) rfl (by decide +kernel) (by kernel_rfl) rfl rfl (by kernel_rfl) (by kernel_rfl) (by kernel_rfl) fun L o' => h L o' (Ret K) fun _ _ _ z => z
  obtain ⟨a0, rfl⟩ := len1 hx
  exact BindsTo.of_eq (by kernel_rfl)

/-- ordered_cells(netlist, driven) -/
theorem in_ordered_cells (o : Ok c (Kt P) (k + 1)) {v0 v1 : V} {K : V → List As → Prop} (h : ∀ L, Ok (c.deep (callEnv fd185 L 185)) (Kt P) k → ∀ KR, RetK K KR → SX (c.deep (callEnv fd185 L 185)) [(S "netlist", some v0), (S "driven", some v1), (S "cells", none), (S "waiting", none), (S "users", none), (S "ready", none), (S "index", none), (S "count", none), (S "net", none), (S "before", none), (S "turn", none)] led (bodyOf (nth top 14)) KR) : Calls c (.ref 185) [v0, v1] led K := by
  refine calls_fn o [S "netlist", S "driven"] [S "cells", S "waiting", S "users", S "ready", S "index", S "count", S "net", S "before", S "turn"] [(S "netlist", some v0), (S "driven", some v1), (S "cells", none), (S "waiting", none), (S "users", none), (S "ready", none), (S "index", none), (S "count", none), (S "net", none), (S "before", none), (S "turn", none)] rfl (ob := ob185) (fd := fd185) (by kernel_rfl) rfl (by kernel_rfl) rfl (fun xs hx hh hk tk => ?_) (by kernel_rfl) rfl (by decide +kernel) (by kernel_rfl) rfl rfl (by kernel_rfl) (by kernel_rfl) (by kernel_rfl) fun L o' => h L o' (Ret K) fun _ _ _ z => z
  obtain ⟨a0, a1, rfl⟩ := len2 hx
  exact BindsTo.of_eq (by kernel_rfl)

/-- comb_order(netlist) -/
theorem in_comb_order (o : Ok c (Kt P) (k + 1)) {v0 : V} {K : V → List As → Prop} (h : ∀ L, Ok (c.deep (callEnv fd192 L 192)) (Kt P) k → ∀ KR, RetK K KR → SX (c.deep (callEnv fd192 L 192)) [(S "netlist", some v0), (S "order", none)] led (bodyOf (nth top 15)) KR) : Calls c (.ref 192) [v0] led K := by
  refine calls_fn o [S "netlist"] [S "order"] [(S "netlist", some v0), (S "order", none)] rfl (ob := ob192) (fd := fd192) (by kernel_rfl) rfl (by kernel_rfl) rfl (fun xs hx hh hk tk => ?_) (by kernel_rfl) rfl (by decide +kernel) (by kernel_rfl) rfl rfl (by kernel_rfl) (by kernel_rfl) (by kernel_rfl) fun L o' => h L o' (Ret K) fun _ _ _ z => z
  obtain ⟨a0, rfl⟩ := len1 hx
  exact BindsTo.of_eq (by kernel_rfl)

/-- row_number(bits) -/
theorem in_row_number (o : Ok c (Kt P) (k + 1)) {v0 : V} {K : V → List As → Prop} (h : ∀ L, Ok (c.deep (callEnv fd199 L 199)) (Kt P) k → ∀ KR, RetK K KR → SX (c.deep (callEnv fd199 L 199)) [(S "bits", some v0), (S "row", none), (S "place", none)] led (bodyOf (nth top 16)) KR) : Calls c (.ref 199) [v0] led K := by
  refine calls_fn o [S "bits"] [S "row", S "place"] [(S "bits", some v0), (S "row", none), (S "place", none)] rfl (ob := ob199) (fd := fd199) (by kernel_rfl) rfl (by kernel_rfl) rfl (fun xs hx hh hk tk => ?_) (by kernel_rfl) rfl (by decide +kernel) (by kernel_rfl) rfl rfl (by kernel_rfl) (by kernel_rfl) (by kernel_rfl) fun L o' => h L o' (Ret K) fun _ _ _ z => z
  obtain ⟨a0, rfl⟩ := len1 hx
  exact BindsTo.of_eq (by kernel_rfl)

/-- gate_value(kind, bits) -/
theorem in_gate_value (o : Ok c (Kt P) (k + 1)) {v0 v1 : V} {K : V → List As → Prop} (h : ∀ L, Ok (c.deep (callEnv fd206 L 206)) (Kt P) k → ∀ KR, RetK K KR → SX (c.deep (callEnv fd206 L 206)) [(S "kind", some v0), (S "bits", some v1)] led (bodyOf (nth top 17)) KR) : Calls c (.ref 206) [v0, v1] led K := by
  refine calls_fn o [S "kind", S "bits"] [] [(S "kind", some v0), (S "bits", some v1)] rfl (ob := ob206) (fd := fd206) (by kernel_rfl) rfl (by kernel_rfl) rfl (fun xs hx hh hk tk => ?_) (by kernel_rfl) rfl (by decide +kernel) (by kernel_rfl) rfl rfl (by kernel_rfl) (by kernel_rfl) (by kernel_rfl) fun L o' => h L o' (Ret K) fun _ _ _ z => z
  obtain ⟨a0, a1, rfl⟩ := len2 hx
  exact BindsTo.of_eq (by kernel_rfl)

/-- cell_value(kind, param, bits) -/
theorem in_cell_value (o : Ok c (Kt P) (k + 1)) {v0 v1 v2 : V} {K : V → List As → Prop} (h : ∀ L, Ok (c.deep (callEnv fd213 L 213)) (Kt P) k → ∀ KR, RetK K KR → SX (c.deep (callEnv fd213 L 213)) [(S "kind", some v0), (S "param", some v1), (S "bits", some v2)] led (bodyOf (nth top 18)) KR) : Calls c (.ref 213) [v0, v1, v2] led K := by
  refine calls_fn o [S "kind", S "param", S "bits"] [] [(S "kind", some v0), (S "param", some v1), (S "bits", some v2)] rfl (ob := ob213) (fd := fd213) (by kernel_rfl) rfl (by kernel_rfl) rfl (fun xs hx hh hk tk => ?_) (by kernel_rfl) rfl (by decide +kernel) (by kernel_rfl) rfl rfl (by kernel_rfl) (by kernel_rfl) (by kernel_rfl) fun L o' => h L o' (Ret K) fun _ _ _ z => z
  obtain ⟨a0, a1, a2, rfl⟩ := len3 hx
  exact BindsTo.of_eq (by kernel_rfl)

/-- evaluate_cells(netlist, order, values), values a cell -/
theorem in_evaluate_cells (o : Ok c (Kt P) (k + 1)) {v0 v1 v2 : V} {K : V → List As → Prop} (h : ∀ L, Ok (c.deep (callEnvC fd218 L 218)) (Kt P) k → (callEnvC fd218 L 218).cells = [(S "values", L + 1)] → ∀ KR, RetK K KR → SX (c.deep (callEnvC fd218 L 218)) [(S "netlist", some v0), (S "order", some v1), (S "index", none), (S "kind", none), (S "out", none), (S "ins", none), (S "param", none), (S "bits", none)] (.cel (L + 1) (some v2) :: led) (bodyOf (nth top 20)) KR) : Calls c (.ref 218) [v0, v1, v2] led K := by
  refine calls_cell (ob := ob218) (fd := fd218) (ps := [S "netlist", S "order", S "values"]) (lo := [S "netlist", S "order", S "index", S "kind", S "out", S "ins", S "param", S "bits"]) (x := S "values") (i := 2) (v := v2) o (by kernel_rfl) rfl (codeRec_of o.X (by kernel_rfl)) rfl (fun xs hx => ?_) rfl (fun n => by kernel_rfl) rfl (fun xs hx => ?_) rfl (by decide +kernel) (by decide +kernel) (by decide +kernel) (by kernel_rfl) rfl rfl (by kernel_rfl) (by kernel_rfl) (by kernel_rfl)
    fun L => h L (o.deep rfl rfl (by kernel_rfl)) (by kernel_rfl) (Ret K) fun _ _ _ z => z
  · obtain ⟨a0, a1, a2, rfl⟩ := len3 hx
    kernel_rfl
  · obtain ⟨a0, a1, a2, rfl⟩ := len3 hx
    kernel_rfl

/-- next_bit(cell, values, last) -/
theorem in_next_bit (o : Ok c (Kt P) (k + 1)) {v0 v1 v2 : V} {K : V → List As → Prop} (h : ∀ L, Ok (c.deep (callEnv fd225 L 225)) (Kt P) k → ∀ KR, RetK K KR → SX (c.deep (callEnv fd225 L 225)) [(S "cell", some v0), (S "values", some v1), (S "last", some v2), (S "first", none), (S "d", none), (S "set_net", none), (S "reset_net", none)] led (bodyOf (nth top 21)) KR) : Calls c (.ref 225) [v0, v1, v2] led K := by
  refine calls_fn o [S "cell", S "values", S "last"] [S "first", S "d", S "set_net", S "reset_net"] [(S "cell", some v0), (S "values", some v1), (S "last", some v2), (S "first", none), (S "d", none), (S "set_net", none), (S "reset_net", none)] rfl (ob := ob225) (fd := fd225) (by kernel_rfl) rfl (by kernel_rfl) rfl (fun xs hx hh hk tk => ?_) (by kernel_rfl) rfl (by decide +kernel) (by kernel_rfl) rfl rfl (by kernel_rfl) (by kernel_rfl) (by kernel_rfl) fun L o' => h L o' (Ret K) fun _ _ _ z => z
  obtain ⟨a0, a1, a2, rfl⟩ := len3 hx
  exact BindsTo.of_eq (by kernel_rfl)

/-- NetSim.__init__(self, netlist) -/
theorem in_NetSim_init (o : Ok c (Kt P) (k + 1)) {v0 v1 : V} {K : V → List As → Prop} (h : ∀ L, Ok (c.deep (callEnv fd239 L 239)) (Kt P) k → ∀ KR, RetK K KR → SX (c.deep (callEnv fd239 L 239)) [(S "self", some v0), (S "netlist", some v1), (S "index", none), (S "cell", none)] led (bodyOf (nth (inCls (nth top 22)) 0)) KR) : Calls c (.ref 239) [v0, v1] led K := by
  refine calls_fn o [S "self", S "netlist"] [S "index", S "cell"] [(S "self", some v0), (S "netlist", some v1), (S "index", none), (S "cell", none)] rfl (ob := ob239) (fd := fd239) (by kernel_rfl) rfl (by kernel_rfl) rfl (fun xs hx hh hk tk => ?_) (by kernel_rfl) rfl (by decide +kernel) (by kernel_rfl) rfl rfl (by kernel_rfl) (by kernel_rfl) (by kernel_rfl) fun L o' => h L o' (Ret K) fun _ _ _ z => z
  obtain ⟨a0, a1, rfl⟩ := len2 hx
  exact BindsTo.of_eq (by kernel_rfl)

/-- NetSim.note_clocks(self) -/
theorem in_NetSim_note_clocks (o : Ok c (Kt P) (k + 1)) {v0 : V} {K : V → List As → Prop} (h : ∀ L, Ok (c.deep (callEnv fd246 L 246)) (Kt P) k → ∀ KR, RetK K KR → SX (c.deep (callEnv fd246 L 246)) [(S "self", some v0), (S "changed", none), (S "index", none), (S "cell", none), (S "bit", none)] led (bodyOf (nth (inCls (nth top 22)) 1)) KR) : Calls c (.ref 246) [v0] led K := by
  refine calls_fn o [S "self"] [S "changed", S "index", S "cell", S "bit"] [(S "self", some v0), (S "changed", none), (S "index", none), (S "cell", none), (S "bit", none)] rfl (ob := ob246) (fd := fd246) (by kernel_rfl) rfl (by kernel_rfl) rfl (fun xs hx hh hk tk => ?_) (by kernel_rfl) rfl (by decide +kernel) (by kernel_rfl) rfl rfl (by kernel_rfl) (by kernel_rfl) (by kernel_rfl) fun L o' => h L o' (Ret K) fun _ _ _ z => z
  obtain ⟨a0, rfl⟩ := len1 hx
  exact BindsTo.of_eq (by kernel_rfl)

/-- NetSim.set_input(self, name, whole) -/
theorem in_NetSim_set_input (o : Ok c (Kt P) (k + 1)) {v0 v1 v2 : V} {K : V → List As → Prop} (h : ∀ L, Ok (c.deep (callEnv fd253 L 253)) (Kt P) k → ∀ KR, RetK K KR → SX (c.deep (callEnv fd253 L 253)) [(S "self", some v0), (S "name", some v1), (S "whole", some v2), (S "port", none), (S "nets", none), (S "place", none)] led (bodyOf (nth (inCls (nth top 22)) 2)) KR) : Calls c (.ref 253) [v0, v1, v2] led K := by
  refine calls_fn o [S "self", S "name", S "whole"] [S "port", S "nets", S "place"] [(S "self", some v0), (S "name", some v1), (S "whole", some v2), (S "port", none), (S "nets", none), (S "place", none)] rfl (ob := ob253) (fd := fd253) (by kernel_rfl) rfl (by kernel_rfl) rfl (fun xs hx hh hk tk => ?_) (by kernel_rfl) rfl (by decide +kernel) (by kernel_rfl) rfl rfl (by kernel_rfl) (by kernel_rfl) (by kernel_rfl) fun L o' => h L o' (Ret K) fun _ _ _ z => z
  obtain ⟨a0, a1, a2, rfl⟩ := len3 hx
  exact BindsTo.of_eq (by kernel_rfl)

/-- NetSim.turn(self) -/
theorem in_NetSim_turn (o : Ok c (Kt P) (k + 1)) {v0 : V} {K : V → List As → Prop} (h : ∀ L, Ok (c.deep (callEnv fd260 L 260)) (Kt P) k → ∀ KR, RetK K KR → SX (c.deep (callEnv fd260 L 260)) [(S "self", some v0), (S "cells", none), (S "found", none), (S "index", none), (S "last", none), (S "changed", none), (S "out", none), (S "bit", none)] led (bodyOf (nth (inCls (nth top 22)) 3)) KR) : Calls c (.ref 260) [v0] led K := by
  refine calls_fn o [S "self"] [S "cells", S "found", S "index", S "last", S "changed", S "out", S "bit"] [(S "self", some v0), (S "cells", none), (S "found", none), (S "index", none), (S "last", none), (S "changed", none), (S "out", none), (S "bit", none)] rfl (ob := ob260) (fd := fd260) (by kernel_rfl) rfl (by kernel_rfl) rfl (fun xs hx hh hk tk => ?_) (by kernel_rfl) rfl (by decide +kernel) (by kernel_rfl) rfl rfl (by kernel_rfl) (by kernel_rfl) (by kernel_rfl) fun L o' => h L o' (Ret K) fun _ _ _ z => z
  obtain ⟨a0, rfl⟩ := len1 hx
  exact BindsTo.of_eq (by kernel_rfl)

/-- NetSim.output(self, name) -/
theorem in_NetSim_output (o : Ok c (Kt P) (k + 1)) {v0 v1 : V} {K : V → List As → Prop} (h : ∀ L, Ok (c.deep (callEnv fd275 L 275)) (Kt P) k → ∀ KR, RetK K KR → SX (c.deep (callEnv fd275 L 275)) [(S "self", some v0), (S "name", some v1), (S "port", none), (S "nets", none), (S "whole", none), (S "place", none)] led (bodyOf (nth (inCls (nth top 22)) 5)) KR) : Calls c (.ref 275) [v0, v1] led K := by
  refine calls_fn o [S "self", S "name"] [S "port", S "nets", S "whole", S "place"] [(S "self", some v0), (S "name", some v1), (S "port", none), (S "nets", none), (S "whole", none), (S "place", none)] rfl (ob := ob275) (fd := fd275) (by kernel_rfl) rfl (by kernel_rfl) rfl (fun xs hx hh hk tk => ?_) (by kernel_rfl) rfl (by decide +kernel) (by kernel_rfl) rfl rfl (by kernel_rfl) (by kernel_rfl) (by kernel_rfl) fun L o' => h L o' (Ret K) fun _ _ _ z => z
  obtain ⟨a0, a1, rfl⟩ := len2 hx
  exact BindsTo.of_eq (by kernel_rfl)

/-- NetSim.state(self, name) -/
theorem in_NetSim_state (o : Ok c (Kt P) (k + 1)) {v0 v1 : V} {K : V → List As → Prop} (h : ∀ L, Ok (c.deep (callEnv fd282 L 282)) (Kt P) k → ∀ KR, RetK K KR → SX (c.deep (callEnv fd282 L 282)) [(S "self", some v0), (S "name", some v1), (S "index", none), (S "cell", none)] led (bodyOf (nth (inCls (nth top 22)) 6)) KR) : Calls c (.ref 282) [v0, v1] led K := by
  refine calls_fn o [S "self", S "name"] [S "index", S "cell"] [(S "self", some v0), (S "name", some v1), (S "index", none), (S "cell", none)] rfl (ob := ob282) (fd := fd282) (by kernel_rfl) rfl (by kernel_rfl) rfl (fun xs hx hh hk tk => ?_) (by kernel_rfl) rfl (by decide +kernel) (by kernel_rfl) rfl rfl (by kernel_rfl) (by kernel_rfl) (by kernel_rfl) fun L o' => h L o' (Ret K) fun _ _ _ z => z
  obtain ⟨a0, a1, rfl⟩ := len2 hx
  exact BindsTo.of_eq (by kernel_rfl)


/-- _law_table(kind, param) -/
theorem in_law_table (o : Ok c (Kt P) (k + 1)) {v0 v1 : V} {K : V → List As → Prop} (h : ∀ L, Ok (c.deep (callEnv fd310 L 310)) (Kt P) k → ∀ KR, RetK K KR → SX (c.deep (callEnv fd310 L 310)) [(S "kind", some v0), (S "param", some v1)] led (bodyOf (nth top 25)) KR) : Calls c (.ref 310) [v0, v1] led K := by
  refine calls_fn o [S "kind", S "param"] [] [(S "kind", some v0), (S "param", some v1)] rfl (ob := ob310) (fd := fd310) (by kernel_rfl) rfl (by kernel_rfl) rfl (fun xs hx hh hk tk => ?_) (by kernel_rfl) rfl (by decide +kernel) (by kernel_rfl) rfl rfl (by kernel_rfl) (by kernel_rfl) (by kernel_rfl) fun L o' => h L o' (Ret K) fun _ _ _ z => z
  obtain ⟨a0, a1, rfl⟩ := len2 hx
  exact BindsTo.of_eq (by kernel_rfl)

/-- _law_gates(rows, bits) -/
theorem in_law_gates (o : Ok c (Kt P) (k + 1)) {v0 v1 : V} {K : V → List As → Prop} (h : ∀ L, Ok (c.deep (callEnv fd317 L 317)) (Kt P) k → ∀ KR, RetK K KR → SX (c.deep (callEnv fd317 L 317)) [(S "rows", some v0), (S "bits", some v1), (S "kind", none), (S "out", none), (S "ins", none), (S "param", none), (S "number", none), (S "spot", none)] led (bodyOf (nth top 26)) KR) : Calls c (.ref 317) [v0, v1] led K := by
  refine calls_fn o [S "rows", S "bits"] [S "kind", S "out", S "ins", S "param", S "number", S "spot"] [(S "rows", some v0), (S "bits", some v1), (S "kind", none), (S "out", none), (S "ins", none), (S "param", none), (S "number", none), (S "spot", none)] rfl (ob := ob317) (fd := fd317) (by kernel_rfl) rfl (by kernel_rfl) rfl (fun xs hx hh hk tk => ?_) (by kernel_rfl) rfl (by decide +kernel) (by kernel_rfl) rfl rfl (by kernel_rfl) (by kernel_rfl) (by kernel_rfl) fun L o' => h L o' (Ret K) fun _ _ _ z => z
  obtain ⟨a0, a1, rfl⟩ := len2 hx
  exact BindsTo.of_eq (by kernel_rfl)

/-- _law_turn(rows, states, bits, clocks), bits a cell -/
theorem in_law_turn (o : Ok c (Kt P) (k + 1)) {v0 v1 v2 v3 : V} {K : V → List As → Prop} (h : ∀ L, Ok (c.deep (callEnvC fd322 L 322)) (Kt P) k → (callEnvC fd322 L 322).cells = [(S "bits", L + 1)] → ∀ KR, RetK K KR → SX (c.deep (callEnvC fd322 L 322)) [(S "rows", some v0), (S "states", some v1), (S "clocks", some v3), (S "found", none), (S "kind", none), (S "out", none), (S "ins", none), (S "param", none), (S "bit", none), (S "stirred", none), (S "nows", none), (S "spot", none), (S "now", none)] (.cel (L + 1) (some v2) :: led) (bodyOf (nth top 27)) KR) : Calls c (.ref 322) [v0, v1, v2, v3] led K := by
  refine calls_cell (ob := ob322) (fd := fd322) (ps := [S "rows", S "states", S "bits", S "clocks"]) (lo := [S "rows", S "states", S "clocks", S "found", S "kind", S "out", S "ins", S "param", S "bit", S "stirred", S "nows", S "spot", S "now"]) (x := S "bits") (i := 2) (v := v2) o (by kernel_rfl) rfl (codeRec_of o.X (by kernel_rfl)) rfl (fun xs hx => ?_) rfl (fun n => by kernel_rfl) rfl (fun xs hx => ?_) rfl (by decide +kernel) (by decide +kernel) (by decide +kernel) (by kernel_rfl) rfl rfl (by kernel_rfl) (by kernel_rfl) (by kernel_rfl)
    fun L => h L (o.deep rfl rfl (by kernel_rfl)) (by kernel_rfl) (Ret K) fun _ _ _ z => z
  · obtain ⟨a0, a1, a2, a3, rfl⟩ := len4 hx
    kernel_rfl
  · obtain ⟨a0, a1, a2, a3, rfl⟩ := len4 hx
    kernel_rfl

end
section
variable {c c' : Cx} {m m' : Loc} {led led' : List As} {P : Params} {k : Nat}

/-- some taken out of the ledger, one after the other -/
inductive Sels : List As → List As → List As → Prop
  | nil {l : List As} : Sels [] l l
  | cons {x : As} {xs l l1 r : List As} : Sel x l l1 → Sels xs l1 r → Sels (x :: xs) l r
theorem Sels.perm {xs l r : List As} (g : Sels xs l r) : l.Perm (xs ++ r) := by
  induction g with
  | nil => exact .refl _
  | cons s _ ih => exact s.perm.trans (ih.cons _)
inductive App : List As → List As → List As → Prop
  | nil {r : List As} : App [] r r
  | cons {a : As} {l r s : List As} : App l r s → App (a :: l) r (a :: s)
theorem App.eq {l r s : List As} (g : App l r s) : s = l ++ r := by
  induction g with
  | nil => rfl
  | cons _ ih => rw [ih]; rfl
inductive Ap (l r : List As) (p : List As → Prop) : Prop | mk (s : List As) (a : App l r s) (h : p s) : Ap l r p
theorem Calls.go {f : Value} {vs : List V} {K : V → List As → Prop} {K' : V → Loc → List As → Prop} {pre rest : List As} (h : Calls c f vs pre K) (s : Sels pre led rest) (k : ∀ v led', K v led' → Ap led' rest (K' v m)) :
    PN VR c m led (fun xs => call f xs) vs K' := fun xs T hp tk st r => by
  have p : led.Perm (rest ++ pre) := s.perm.trans List.perm_append_comm
  refine wpAny_mono (Calls.use (K' := fun v m' led2 => ∃ led', led2 = rest ++ led' ∧ m' = m ∧ K v led') h p (fun v led' z => ⟨led', rfl, rfl, z⟩) xs T hp tk st r) (fun a s' zz => Post.go zz fun b h' tk' m' led2 e s2 r2 ⟨led', e2, em, z⟩ => ?_) fun _ _ x => x
  subst e em e2
  obtain ⟨led3, ap, z⟩ := k b led' z
  rw [ap.eq] at z
  exact ⟨b, h', tk', m', led' ++ rest, rfl, s2.perm List.perm_append_comm, r2, z⟩
/-- a call that leaves what it sees as it was -/
theorem Calls.same {f : Value} {vs : List V} {Q : V → Prop} {K' : V → Loc → List As → Prop} {pre rest : List As} (h : Calls c f vs pre fun v led' => led' = pre ∧ Q v) (s : Sels pre led rest) (k : ∀ v, Q v → K' v m led) :
    PN VR c m led (fun xs => call f xs) vs K' := fun xs T hp tk st r => by
  have p : led.Perm (rest ++ pre) := s.perm.trans List.perm_append_comm
  refine wpAny_mono (Calls.use (K' := fun v m' led2 => led2 = rest ++ pre ∧ m' = m ∧ Q v) h p (fun v led' z => ⟨by rw [z.1], rfl, z.2⟩) xs T hp tk st r) (fun a s' zz => Post.go zz fun b h' tk' m' led2 e s2 r2 ⟨e2, em, z⟩ => ?_) fun _ _ x => x
  subst e em e2
  exact ⟨b, h', tk', m', led, rfl, s2.perm p.symm, r2, k b z⟩

theorem PA.sub {led2 : List As} {t : Expr} {v : V} {K : Loc → List As → Prop} (k : SubP led led2) (h : PA c m led2 t v K) : PA c m led t v K := fun x T hp tk s r => h x T hp tk (s.subp k) r

/-- where items come from; what is put back behind the loop -/
inductive Src2 (led : List As) : V → List V → (List As → List As) → List As → Prop
  | lst {l : Addr} {vs : List V} {rest : List As} : Sel (.lst l vs) led rest → Src2 led (.ref l) vs (fun r => .lst l vs :: r) rest
  | rng {n : Int} : 0 ≤ n → n < 2 ^ 40 → Src2 led (.rng n) (rngV n) (fun r => r) led
  | tup {vs : List V} : Src2 led (.tup vs) vs (fun r => r) led
theorem Src2.src {v : V} {items : List V} {f : List As → List As} {rest : List As} (s : Src2 led v items f rest) : ∃ sel, Src led v items sel rest ∧ ∀ r, f r = sel ++ r := by
  cases s with
  | lst h => exact ⟨_, .lst h, fun _ => rfl⟩
  | rng a b => exact ⟨_, .rng a b, fun _ => rfl⟩
  | tup => exact ⟨_, .tup, fun _ => rfl⟩

noncomputable abbrev KBody (c : Cx) (body : List Stmt) (KJ : Loc → List As → Prop) (KF : F → Loc → List As → Prop) (m : Loc) (led : List As) : Prop := SX c m led body (Turn KJ KF)
inductive ForG0 (c : Cx) (target : Expr) (body : List Stmt) (K : F → Loc → List As → Prop) (v : V) (m1 : Loc) (led1 : List As) : Prop
  | mk (items : List V) (f : List As → List As) (rest : List As) (src : Src2 led1 v items f rest) (J : Nat → Loc → List As → Prop) (j0 : Dn rest (J 0 m1))
      (turn : ∀ i v m led, items[i]? = some v → J i m led → PA c m led target v fun m2 led2 => SX c m2 led2 body (Turn (fun m3 led3 => Dn led3 (J (i + 1) m3)) (fun fl m led => K fl m (f led))))
      (done : ∀ m led, J items.length m led → K .next m (f led)) : ForG0 c target body K v m1 led1
inductive ForG (c : Cx) (target : Expr) (body : List Stmt) (K : F → Loc → List As → Prop) (v : V) (m1 : Loc) (led1 : List As) : Prop
  | mk (items : List V) (f : List As → List As) (rest : List As) (src : Src2 led1 v items f rest) (J : Nat → Loc → List As → Prop) (j0 : Dn rest (J 0 m1))
      (turn : ∀ i v m led, items[i]? = some v → ∀ (KJ : Loc → List As → Prop) (KF : F → Loc → List As → Prop), (∀ m3 led3, Dn led3 (J (i + 1) m3) → KJ m3 led3) → (∀ fl m led, K fl m (f led) → KF fl m led) → J i m led → PA c m led target v (KBody c body KJ KF))
      (done : ∀ m led, J items.length m led → K .next m (f led)) : ForG c target body K v m1 led1
theorem s_for0 {target iter : Expr} {body : List Stmt} {pos : Pos} {K : F → Loc → List As → Prop} (hh : c.A.handled = none) (hs : ∀ x, foldedSetIterable iter c.env x = pure x)
    (h : SE c m led iter (ForG0 c target body K)) : SS c m led (.For target iter body [] pos) K := fun T hp tk s => by
  refine wpAny_For (wpAny_mono (h T hp tk s) (fun a s1 zz => Post.go zz fun v1 h1 tk1 m1 led1 e s1' r1 ⟨items, f, rest, src, J, j0, turn, done⟩ => ?_) fun _ _ x => x.elim) hs
  subst e
  have hk : ∀ {KK : F → Loc → List As → Prop}, (∀ fl m led, KK fl m led → Dn led fun led2 => K fl m (f led2)) → (∀ i v m led, items[i]? = some v → J i m led → PA c m led target v fun m2 led2 => SX c m2 led2 body (Turn (fun m3 led3 => Dn led3 (J (i + 1) m3)) (fun fl m led => KK fl m led))) →
      (∀ m led, J items.length m led → KK .next m led) → ForK c target body (fun fl m led => Dn led fun led2 => K fl m (f led2)) items m1 rest := fun {KK} hKK ht hd =>
    ForK.mk (fun i m led => Dn led (J i m)) j0 (fun i v m led hv ⟨led4, sp, j⟩ => PA.sub sp fun x T hp tk s r => by
      refine wpAny_mono (ht i v m led4 hv j x T hp tk s r) (fun a s' zz => Post.go zz fun b h' tk' m' led' e s2 r2 kk => ⟨b, h', tk', m', led', e, s2, r2, SP.mono kk fun fl m led z => ?_⟩) fun _ _ x => x
      cases fl with
      | next => exact z
      | cont => exact z
      | brk => exact hKK _ _ _ z
      | ret v => exact hKK _ _ _ z) (fun m led ⟨led4, sp, j⟩ => by
        obtain ⟨led5, sp5, z⟩ := hKK _ _ _ (hd m led4 j)
        exact ⟨led5, sp.trans sp5, z⟩)
  have hF := hk (KK := fun fl m led => K fl m (f led)) (fun fl m led z => ⟨led, SubP.refl _, z⟩) turn done
  have fin : ∀ {sel : List As} (fl : F) (m : Loc) (led : List As), (∀ r, f r = sel ++ r) → (Dn led fun led2 => K fl m (f led2)) → Dn (sel ++ led) (K fl m) := fun {sel} fl m led hf ⟨led2, ⟨d, p⟩, z⟩ =>
    ⟨sel ++ led2, ⟨d, by rw [List.append_assoc]; exact p.append_left sel⟩, by rw [hf] at z; exact z⟩
  have wk : ∀ {a : Flow} {s' : Shared}, Post FR c T (fun fl m led => Dn led (K fl m)) a s' → Post FR c T K a s' := fun ⟨b, h', tk', m', led', e, s2, r2, led2, sp, z⟩ => ⟨b, h', tk', m', led2, e, s2.subp sp, r2, z⟩
  cases src with
  | rng n0 n1 =>
    obtain ⟨ra, t, u, w, rfl, hr⟩ := r1.rno
    refine wpAny_mono (for_rng (K := fun fl m led => Dn led (K fl m)) hh n1 n0 s1' hr hF) (fun it s2 z => codeAny_mono z fun r s' z => ?_) fun _ _ x => x
    rcases r with e | f
    · exact z
    · exact wk z
  | tup =>
    refine wpAny_mono (for_tup (K := fun fl m led => Dn led (K fl m)) hh s1' r1 hF) (fun it s2 z => codeAny_mono z fun r s' z => ?_) fun _ _ x => x
    rcases r with e | f
    · exact z
    · exact wk z
  | @lst l vs rest se =>
    rw [r1.ro]
    have hF2 : ForK c target body (fun f m led => (fun fl m led => Dn led (K fl m)) f m (.lst l items :: led)) items m1 rest := by
      obtain ⟨J', a, b, d⟩ := hF
      refine ⟨J', a, fun i v m led hv j => ?_, fun m led j => fin (sel := [.lst l items]) _ _ _ (fun _ => rfl) (d m led j)⟩
      intro x T hp tk s r
      refine wpAny_mono (b i v m led hv j x T hp tk s r) (fun a s' zz => Post.go zz fun b h' tk' m' led' e s2 r2 kk => ⟨b, h', tk', m', led', e, s2, r2, SP.mono kk fun fl m led z => ?_⟩) fun _ _ x => x
      cases fl with
      | next => exact z
      | cont => exact z
      | brk => exact fin (sel := [.lst l items]) _ _ _ (fun _ => rfl) z
      | ret v => exact fin (sel := [.lst l items]) _ _ _ (fun _ => rfl) z
    refine wpAny_mono (for_list (K := fun fl m led => Dn led (K fl m)) hh (s1'.perm se.perm) hF2) (fun it s2 z => codeAny_mono z fun r s' z => ?_) fun _ _ x => x
    rcases r with e | f
    · exact z
    · exact wk z

theorem s_for {target iter : Expr} {body : List Stmt} {pos : Pos} {K : F → Loc → List As → Prop} (hh : c.A.handled = none) (hs : ∀ x, foldedSetIterable iter c.env x = pure x)
    (h : SE c m led iter (ForG c target body K)) : SS c m led (.For target iter body [] pos) K :=
  s_for0 hh hs (SP.mono h fun v m1 led1 ⟨items, f, rest, src, J, j0, turn, done⟩ => ⟨items, f, rest, src, J, j0, fun i v m led hv j => turn i v m led hv _ _ (fun _ _ z => z) (fun _ _ _ z => z) j, done⟩)
/-- comprehensions, by an invariant -/
inductive CompG (c : Cx) (scope : Scope) (cl : List (PySem.Str × Addr)) (x : PySem.Str) (elt : Expr) (items : List V) (led : List As) (K : List V → List As → Prop) : Prop
  | mk (J : Nat → List V → List As → Prop) (j0 : Dn led (J 0 []))
    (turn : ∀ i v us led C, items[i]? = some v → ∀ KE : V → Loc → List As → Prop, (∀ u m' led', ((∃ w, m' = [(x, w)]) ∧ Dn led' (J (i + 1) (us ++ [u]))) → KE u m' led') → J i us led → SE (c.comp scope cl C) [(x, some v)] led elt KE)
    (done : ∀ us led, J items.length us led → K us led) : CompG c scope cl x elt items led K
inductive CompS (led1 : List As) (v : V) (Q : List V → (List As → List As) → List As → Prop) : Prop
  | mk (items : List V) (f : List As → List As) (rest : List As) (src : Src2 led1 v items f rest) (hz : items.length ≤ 10000) (h : Q items f rest) : CompS led1 v Q
theorem CompG.mk' {scope : Scope} {cl : List (PySem.Str × Addr)} {x : PySem.Str} {elt : Expr} {items : List V} {K : List V → List As → Prop} (h : CompG c scope cl x elt items led K) : CompK c scope cl x elt items led fun us led => Dn led (K us) := by
  obtain ⟨J, j0, turn, done⟩ := h
  exact ⟨fun i us led => Dn led (J i us), j0, fun i v us led C hv ⟨led4, sp, j⟩ => SP.sub sp (turn i v us led4 C hv _ (fun _ _ _ z => z) j), fun us led ⟨led4, sp, j⟩ => ⟨led4, sp, done us led4 j⟩⟩
noncomputable def hasFreeB (cells : List (PySem.Str × Addr)) : List (PySem.Str × NameKind) → Bool
  | [] => true
  | (n, .free) :: r => (cells.lookup n).isSome && hasFreeB cells r
  | (_, _) :: r => hasFreeB cells r
theorem hasFree_of {cells : List (PySem.Str × Addr)} : ∀ {names : List (PySem.Str × NameKind)}, hasFreeB cells names = true → hasFree cells names
  | [], _ => trivial
  | (n, .free) :: r, h => by
    have h : ((cells.lookup n).isSome && hasFreeB cells r) = true := h
    rw [Bool.and_eq_true] at h
    exact ⟨h.1, hasFree_of h.2⟩
  | (n, .local) :: r, h => hasFree_of (names := r) h
  | (n, .cell) :: r, h => hasFree_of (names := r) h
  | (n, .globalImplicit) :: r, h => hasFree_of (names := r) h
  | (n, .globalExplicit) :: r, h => hasFree_of (names := r) h
theorem e_comp2 {elt iter : Expr} {x : PySem.Str} {px pos : Pos} {scope : Scope} {K : V → Loc → List As → Prop} (hh : c.A.handled = none) (hf : hasFreeB c.env.cells scope.names = true) (hcell : (scope.names.all fun y => decide (y.2 ≠ .cell)) = true) (hkind : scope.kind = .function)
    (hnames : (scope.names.all fun y => decide (y.2 = .local → scope.names.lookup y.1 = some .local)) = true) (hx : scope.names.lookup x = some .local) (hs : ∀ x, foldedSetIterable iter c.env x = pure x)
    (h : SE c m led iter fun v m1 led1 => CompS led1 v fun items f rest => CompG c scope (clo scope.names c.env.cells []) x elt items rest fun us led3 => ∀ D, K (.ref D) m1 (f (.lst D us :: led3))) :
    SE c m led (.ListComp elt [⟨.Name x px, iter, [], 0⟩] scope pos) K := by
  refine SP.weak (e_comp hh (hasFree_of hf) (fun y hy => by simpa using List.all_eq_true.mp hcell y hy) hkind (fun y hy => of_decide_eq_true (List.all_eq_true.mp hnames y hy)) hx (SP.mono h fun v m1 led1 ⟨items, f, rest, src, hz, g⟩ => ?_) hs)
  obtain ⟨sel, src', hf'⟩ := src.src
  refine ⟨items, sel, rest, src', hz, ?_⟩
  obtain ⟨J, a, b, d⟩ := CompG.mk' g
  refine ⟨J, a, b, fun us led j D => ?_⟩
  obtain ⟨led2, ⟨dd, p⟩, z⟩ := d us led j
  refine ⟨f (.lst D us :: led2), ⟨dd, ?_⟩, z D⟩
  rw [hf', List.append_assoc]
  exact List.Perm.append_left sel ((p.cons (.lst D us)))
theorem s_assign_comp2 {elt iter : Expr} {x y : PySem.Str} {px py pos spos : Pos} {scope : Scope} {K : F → Loc → List As → Prop} (hh : c.A.handled = none) (hk : c.env.scope.kind = .function)
    (hsw : swapsWith (.ListComp elt [⟨.Name x px, iter, [], 0⟩] scope pos) (some (.Name y py)) spos.line c.env = pure true)
    (hf : hasFreeB c.env.cells scope.names = true) (hcell : (scope.names.all fun y => decide (y.2 ≠ .cell)) = true) (hkind : scope.kind = .function)
    (hnames : (scope.names.all fun y => decide (y.2 = .local → scope.names.lookup y.1 = some .local)) = true) (hx : scope.names.lookup x = some .local) (hs : ∀ x, foldedSetIterable iter c.env x = pure x)
    (h : SE c m led iter fun v m1 led1 => CompS led1 v fun items f rest => CompG c scope (clo scope.names c.env.cells []) x elt items rest fun us led3 => ∀ D, Store y (.ref D) m1 fun m2 => K .next m2 (f (.lst D us :: led3))) :
    SS c m led (.Assign [.Name y py] (.ListComp elt [⟨.Name x px, iter, [], 0⟩] scope pos) spos) K := by
  refine SP.weak (s_assign_comp hh hk hsw (hasFree_of hf) (fun y hy => by simpa using List.all_eq_true.mp hcell y hy) hkind (fun y hy => of_decide_eq_true (List.all_eq_true.mp hnames y hy)) hx (SP.mono h fun v m1 led1 ⟨items, f, rest, src, hz, g⟩ => ?_) hs)
  obtain ⟨sel, src', hf'⟩ := src.src
  refine ⟨items, sel, rest, src', hz, ?_⟩
  obtain ⟨J, a, b, d⟩ := CompG.mk' g
  refine ⟨J, a, b, fun us led j D => ?_⟩
  obtain ⟨led2, ⟨dd, p⟩, z⟩ := d us led j
  obtain ⟨m2, u, z⟩ := z D
  refine ⟨m2, u, f (.lst D us :: led2), ⟨dd, ?_⟩, z⟩
  rw [hf', List.append_assoc]
  exact List.Perm.append_left sel ((p.cons (.lst D us)))

theorem comp_in {scope : Scope} {cl : List (PySem.Str × Addr)} {C : Addr} {e : Expr} {K : V → Loc → List As → Prop} (o : Ok c (Kt P) k) (hk : scope.kind = .function) (h : Ok (c.comp scope cl C) (Kt P) k → SE (c.comp scope cl C) m led e K) : SE (c.comp scope cl C) m led e K := h (o.comp hk)
theorem tup_go {vs : List V} {R : Prop} (h1 : vs.length ≤ 10000) (h : R) : vs.length ≤ 10000 ∧ R := ⟨h1, h⟩
/-- the hand -/
theorem hnd_open {T : Tmp} {h : Heap} {H C : Addr} {ns : List Int} (s : St c m (.hnd H C ns :: led) T h) : ∃ i r q : Int, 0 ≤ i ∧ i ≤ ns.length ∧ ns.length ≤ 63 ∧ 0 ≤ r ∧ 0 ≤ q ∧ q < 2 ^ 31 ∧ St c m (.lst H [.ref C, .int i, .int r, .int q] :: .lst C (ns.map .int) :: led) T h := by
  obtain ⟨⟨i, r, q, a1, a2, a3, a4, a5, a6, hl⟩, hl2⟩ := s.ok _ (.head _)
  refine ⟨i, r, q, a1, a2, a3, a4, a5, a6, s.ns, s.keys, s.kinds, s.base, s.low, s.ext, s.nd, fun x hx => ?_, s.own, s.tmp⟩
  rcases List.mem_cons.mp hx with rfl | hx
  · exact hl
  · rcases List.mem_cons.mp hx with rfl | hx
    · exact hl2
    · exact s.ok x (.tail _ hx)
theorem hnd_close {T : Tmp} {h : Heap} {H C : Addr} {ns : List Int} {i r q : Int} (a1 : 0 ≤ i) (a2 : i ≤ ns.length) (a3 : ns.length ≤ 63) (a4 : 0 ≤ r) (a5 : 0 ≤ q) (a6 : q < 2 ^ 31) (s : St c m (.lst H [.ref C, .int i, .int r, .int q] :: .lst C (ns.map .int) :: led) T h) : St c m (.hnd H C ns :: led) T h := by
  refine ⟨s.ns, s.keys, s.kinds, s.base, s.low, s.ext, s.nd, fun x hx => ?_, s.own, s.tmp⟩
  rcases List.mem_cons.mp hx with rfl | hx
  · exact ⟨⟨i, r, q, a1, a2, a3, a4, a5, a6, s.ok _ (.head _)⟩, s.ok _ (.tail _ (.head _))⟩
  · exact s.ok x (.tail _ (.tail _ hx))
/-- fields, step by step -/
inductive GetF (n : PySem.Str) (v : V) : List (PySem.Str × V) → Prop
  | here {r} : GetF n v ((n, v) :: r)
  | there {x u r} : x ≠ n → GetF n v r → GetF n v ((x, u) :: r)
theorem GetF.eq {n : PySem.Str} {v : V} {fs} (g : GetF n v fs) : getF n fs = some v := by
  induction g with
  | here => unfold getF; rw [if_pos rfl]
  | there h _ ih => unfold getF; rw [if_neg h]; exact ih
inductive SetF (n : PySem.Str) (v : V) : List (PySem.Str × V) → List (PySem.Str × V) → Prop
  | nil : SetF n v [] [(n, v)]
  | here {u r} : SetF n v ((n, u) :: r) ((n, v) :: r)
  | there {x u r r'} : x ≠ n → SetF n v r r' → SetF n v ((x, u) :: r) ((x, u) :: r')
theorem SetF.eq {n : PySem.Str} {v : V} {fs fs'} (g : SetF n v fs fs') : setF n v fs = fs' := by
  induction g with
  | nil => rfl
  | here => unfold setF; rw [if_pos rfl]
  | there h _ ih => unfold setF; rw [if_neg h, ih]
theorem p_attr2 {a d C : Addr} {fs : List (PySem.Str × V)} {name : PySem.Str} {v : V} {K : V → Loc → List As → Prop} {ex : Bool} (o : Ok c (Kt P) k) (hm : MemA (.ins a d C fs) led) (hf : GetF name v fs) (hg : plainGet (Kt P) C name = true) (hh : hasDictIn (Kt P) C = true)
    (ha : findIn (Kt P) (.ref C) name = some none) (hv : ∀ g, v ≠ .glob g) (h : K v m led) : P1 VR c m led (fun x => getAttr x name ex) (.ref a) K := p_attr o hm hg hh ha hf.eq hv h
theorem p_setattr2 {a d C : Addr} {fs fs' : List (PySem.Str × V)} {name : PySem.Str} {v : V} {K : Unit → Loc → List As → Prop} (o : Ok c (Kt P) k) (hm : MemA (.ins a d C fs) led) (hs : SetF name v fs fs') (hu : UpdA (.ins a d C fs) (.ins a d C fs') led led')
    (h1 : findIn (Kt P) (.ref C) "__setattr__" = some (some (.builtin "object.__setattr__"))) (h2 : plainOver (Kt P) C = true) (h3 : hasDictIn (Kt P) C = true)
    (ht : takerIn (Kt P) C name = some none) (hl : fs.length ≤ 900) (h : K () m led') : P2 UR c m led (fun x y => setAttr x name y) (.ref a) v K := by
  have e := hs.eq
  subst e
  exact p_setattr o hu ⟨h1, h2, h3⟩ ht hl h
theorem g_method2 {a d C f : Addr} {fs : List (PySem.Str × V)} {name : PySem.Str} {pl : Sem Bool} {K : Value → List V → Prop} (o : Ok c (Kt P) k) (hm : MemA (.ins a d C fs) led) (hf : findIn (Kt P) (.ref C) name = some (some (.ref f))) (hg : plainGet (Kt P) C name = true)
    (ht : isFn (Kt P) (.ref f) = true) (hn : getF name fs = none) (h : K (.ref f) [.ref a]) : GM c m led name pl (.ref a) K := g_method o hm hg hf ht hn h
/-- the netlist, the simulator -/
noncomputable abbrev netF (nm : V) (n : Int) (I O Cl : Addr) : List (PySem.Str × V) := [(S "name", nm), (S "count", .int n), (S "inputs", .ref I), (S "outputs", .ref O), (S "cells", .ref Cl)]
noncomputable abbrev simF (N Od Sd Vd Ld : Addr) : List (PySem.Str × V) := [(S "netlist", .ref N), (S "order", .ref Od), (S "states", .ref Sd), (S "values", .ref Vd), (S "last", .ref Ld)]
theorem m_new_net {a d : Addr} {nm : V} {n : Int} {I O Cl : Addr} {pl : Sem Bool} {K : Value → List V → Prop} (o : Ok c (Kt P) k) (hm : MemA (.ins a d 160 (netF nm n I O Cl)) led) (h : K (.ref 108) [.ref a]) : GM c m led (S "new_net") pl (.ref a) K := g_method2 o hm (by kernel_rfl) (by kernel_rfl) (by kernel_rfl) (by kernel_rfl) h
theorem m_new_nets {a d : Addr} {nm : V} {n : Int} {I O Cl : Addr} {pl : Sem Bool} {K : Value → List V → Prop} (o : Ok c (Kt P) k) (hm : MemA (.ins a d 160 (netF nm n I O Cl)) led) (h : K (.ref 113) [.ref a]) : GM c m led (S "new_nets") pl (.ref a) K := g_method2 o hm (by kernel_rfl) (by kernel_rfl) (by kernel_rfl) (by kernel_rfl) h
theorem m_add_input {a d : Addr} {nm : V} {n : Int} {I O Cl : Addr} {pl : Sem Bool} {K : Value → List V → Prop} (o : Ok c (Kt P) k) (hm : MemA (.ins a d 160 (netF nm n I O Cl)) led) (h : K (.ref 120) [.ref a]) : GM c m led (S "add_input") pl (.ref a) K := g_method2 o hm (by kernel_rfl) (by kernel_rfl) (by kernel_rfl) (by kernel_rfl) h
theorem m_add_output {a d : Addr} {nm : V} {n : Int} {I O Cl : Addr} {pl : Sem Bool} {K : Value → List V → Prop} (o : Ok c (Kt P) k) (hm : MemA (.ins a d 160 (netF nm n I O Cl)) led) (h : K (.ref 127) [.ref a]) : GM c m led (S "add_output") pl (.ref a) K := g_method2 o hm (by kernel_rfl) (by kernel_rfl) (by kernel_rfl) (by kernel_rfl) h
theorem m_add_cell {a d : Addr} {nm : V} {n : Int} {I O Cl : Addr} {pl : Sem Bool} {K : Value → List V → Prop} (o : Ok c (Kt P) k) (hm : MemA (.ins a d 160 (netF nm n I O Cl)) led) (h : K (.ref 135) [.ref a]) : GM c m led (S "add_cell") pl (.ref a) K := g_method2 o hm (by kernel_rfl) (by kernel_rfl) (by kernel_rfl) (by kernel_rfl) h
theorem m_drive {a d : Addr} {nm : V} {n : Int} {I O Cl : Addr} {pl : Sem Bool} {K : Value → List V → Prop} (o : Ok c (Kt P) k) (hm : MemA (.ins a d 160 (netF nm n I O Cl)) led) (h : K (.ref 143) [.ref a]) : GM c m led (S "drive") pl (.ref a) K := g_method2 o hm (by kernel_rfl) (by kernel_rfl) (by kernel_rfl) (by kernel_rfl) h
theorem m_set_input {a d N Od Sd Vd Ld : Addr} {pl : Sem Bool} {K : Value → List V → Prop} (o : Ok c (Kt P) k) (hm : MemA (.ins a d 292 (simF N Od Sd Vd Ld)) led) (h : K (.ref 253) [.ref a]) : GM c m led (S "set_input") pl (.ref a) K := g_method2 o hm (by kernel_rfl) (by kernel_rfl) (by kernel_rfl) (by kernel_rfl) h
theorem m_note {a d N Od Sd Vd Ld : Addr} {pl : Sem Bool} {K : Value → List V → Prop} (o : Ok c (Kt P) k) (hm : MemA (.ins a d 292 (simF N Od Sd Vd Ld)) led) (h : K (.ref 246) [.ref a]) : GM c m led (S "note_clocks") pl (.ref a) K := g_method2 o hm (by kernel_rfl) (by kernel_rfl) (by kernel_rfl) (by kernel_rfl) h
theorem m_turn {a d N Od Sd Vd Ld : Addr} {pl : Sem Bool} {K : Value → List V → Prop} (o : Ok c (Kt P) k) (hm : MemA (.ins a d 292 (simF N Od Sd Vd Ld)) led) (h : K (.ref 260) [.ref a]) : GM c m led (S "turn") pl (.ref a) K := g_method2 o hm (by kernel_rfl) (by kernel_rfl) (by kernel_rfl) (by kernel_rfl) h
theorem m_settle {a d N Od Sd Vd Ld : Addr} {pl : Sem Bool} {K : Value → List V → Prop} (o : Ok c (Kt P) k) (hm : MemA (.ins a d 292 (simF N Od Sd Vd Ld)) led) (h : K (.ref 268) [.ref a]) : GM c m led (S "settle") pl (.ref a) K := g_method2 o hm (by kernel_rfl) (by kernel_rfl) (by kernel_rfl) (by kernel_rfl) h
theorem m_output {a d N Od Sd Vd Ld : Addr} {pl : Sem Bool} {K : Value → List V → Prop} (o : Ok c (Kt P) k) (hm : MemA (.ins a d 292 (simF N Od Sd Vd Ld)) led) (h : K (.ref 275) [.ref a]) : GM c m led (S "output") pl (.ref a) K := g_method2 o hm (by kernel_rfl) (by kernel_rfl) (by kernel_rfl) (by kernel_rfl) h
theorem m_state {a d N Od Sd Vd Ld : Addr} {pl : Sem Bool} {K : Value → List V → Prop} (o : Ok c (Kt P) k) (hm : MemA (.ins a d 292 (simF N Od Sd Vd Ld)) led) (h : K (.ref 282) [.ref a]) : GM c m led (S "state") pl (.ref a) K := g_method2 o hm (by kernel_rfl) (by kernel_rfl) (by kernel_rfl) (by kernel_rfl) h
end
section
variable {c : Cx} {m : Loc} {led : List As}
theorem p_notin {a : Addr} {n : Nat} {f : Int → Option V} {i : Int} {K : V → Loc → List As → Prop} (hm : MemA (.dic c.prog c.w a n f) led) (h : K (.bool (!(f i).isSome)) m led) : P2 VR c m led (compareOp .NotIn) (.int i) (.ref a) K := fun x y T hp tk s r1 r2 => by
  rw [r2.ro]; obtain ⟨t, rfl⟩ := r1.io
  obtain ⟨z, g, hg, hn, hr⟩ := s.ok _ hm.mem
  exact wpAny_notIn_of (intKind_is c.prog c.w i t) z hg.mapOf (post_here s VR.b (by rw [← (hr i).some_of]; exact h))
end
local macro_rules | `(tactic| ktf_call $t) => `(tactic| with_reducible refine' $t)
local macro_rules | `(tactic| lcg_src) => `(tactic| first | lia | omega)
local macro_rules | `(tactic| lcg_sub) => `(tactic| with_reducible assumption)
local macro_rules | `(tactic| lcg_off) => `(tactic| first | lcg_sub | ((with_reducible show (_ :: _)[_]? = some _); rfl) | ((with_reducible show (List.set _ _ _)[_]? = some _); rfl))
local macro_rules | `(tactic| tb_start) => `(tactic| with_reducible first
  | focus ((first | show GetL _ _ _ | show SetL _ _ _ _ | show MemA _ _ | show UpdA _ _ _ _ | show Sel _ _ _); (repeat constructor); done)
  | exact GetF.here
  | exact GetF.there (by decide +kernel) (by tb_start)
  | exact SetF.nil
  | exact SetF.here
  | exact SetF.there (by decide +kernel) (by tb_start))
local macro_rules | `(tactic| allgen_close2_more) => `(tactic| focus first | (with_reducible assumption) | lcg_src | decide | (simp only [List.length_map, List.length_cons, List.length_nil]; lcg_src) | rfl | (simp; done))
local macro_rules | `(tactic| top_raise0) => `(tactic| first
  | ktf_call (s_cons ?_)
  | ktf_call (s_nil ?_)
  | ktf_call (s_if ?_)
  | ktf_call (s_ret ?_)
  | ktf_call (s_ret0 ?_)
  | ktf_call (s_cont ?_)
  | (ktf_call (s_for ?_ ?_ ?_); exact Ok.hh (by lcg_sub); intro _; rfl)
  | (ktf_call (s_assign_tuple ?_ ?_ ?_); rfl; rfl)
  | (ktf_call (s_assign_comp2 ?_ ?_ ?_ ?_ ?_ ?_ ?_ ?_ ?_ ?_); exact Ok.hh (by lcg_sub); rfl; kernel_rfl; kernel_rfl; kernel_rfl; kernel_rfl; kernel_rfl; kernel_rfl; intro _; rfl)
  | (ktf_call (s_assign_sub ?_ ?_); rfl)
  | (ktf_call (s_assign_attr ?_ ?_); rfl)
  | (ktf_call (s_assign ?_ ?_ ?_); rfl; rfl)
  | (ktf_call (s_aug ?_ ?_ ?_); rotate_left; rfl; tb_start)
  | ktf_call (s_aug_attr ?_)
  | (ktf_call (s_aug_sub ?_ ?_); intro _ _ _; rfl)
  | (ktf_call (s_expr ?_ ?_ ?_); rfl; rfl))
local macro_rules | `(tactic| top_name) => `(tactic| first
  | (ktf_call (e_loc ?_ ?_ ?_ ?_); rotate_left; tb_start; rotate_left; rfl; kernel_rfl)
  | (ktf_call (x_any ?_ ?_ ?_ ?_); rotate_left 3; lcg_sub; (with_reducible constructor); kernel_rfl)
  | (ktf_call (e_cell ?_ ?_ ?_ ?_ ?_ ?_); rotate_left 4; lcg_sub; tb_start; kernel_rfl; kernel_rfl; rotate_left; kernel_rfl))
local macro_rules | `(tactic| top_raise) => `(tactic| first
  | ktf_call (e_int ?_)
  | ktf_call (e_str ?_)
  | ktf_call (e_bool ?_)
  | ktf_call (e_binop ?_)
  | ktf_call (e_ifexp ?_)
  | ktf_call (e_sub ?_)
  | ktf_call (e_neg ?_)
  | ktf_call (sa_nil ?_)
  | (ktf_call (e_comp2 ?_ ?_ ?_ ?_ ?_ ?_ ?_ ?_); exact Ok.hh (by lcg_sub); kernel_rfl; kernel_rfl; kernel_rfl; kernel_rfl; kernel_rfl; intro _; rfl)
  | (ktf_call (sd_cons ?_ ?_); rotate_left; rfl)
  | ktf_call (sd_nil ?_)
  | (ktf_call (e_dict0 ?_ ?_); rotate_left 2; lcg_sub)
  | ktf_call (e_list ?_)
  | ktf_call (e_tup ?_)
  | (ktf_call (b_cmp ?_ ?_); rfl)
  | (ktf_call (e_cmp ?_ ?_); rfl)
  | ktf_call (b_not ?_)
  | ktf_call (b_and_nil ?_)
  | ktf_call (b_or_nil ?_)
  | ktf_call (b_and ?_)
  | ktf_call (b_or ?_)
  | (ktf_call (b_plain ?_ ?_); intro _; rfl)
  | (ktf_call (e_attr ?_ ?_); rotate_left; (with_unfolding_all rfl))
  | (ktf_call (e_method ?_ ?_); rotate_left; rotate_left; rfl)
  | (ktf_call (e_call ?_ ?_); rotate_left; rfl)
  | (ktf_call (sa_cons ?_ ?_); rotate_left; rfl))
local macro_rules | `(tactic| top_caught) => `(tactic| first
  | ktf_call (p_add ?_)
  | ktf_call (p_sub ?_)
  | ktf_call (p_eq ?_)
  | ktf_call (p_ne ?_)
  | ktf_call (p_lt ?_)
  | ktf_call (p_ge ?_)
  | ktf_call (p_eqs ?_)
  | ktf_call (p_and ?_)
  | ktf_call (p_or ?_)
  | ktf_call (p_xor ?_)
  | ktf_call (p_iadd ?_)
  | ktf_call (p_isub ?_)
  | ktf_call (p_neg ?_)
  | ktf_call (t_bool ?_)
  | ktf_call (t_int ?_)
  | (ktf_call (p_attr2 ?_ ?_ ?_ ?_ ?_ ?_ ?_ ?_); rotate_left 6; lcg_sub; tb_start; tb_start; kernel_rfl; kernel_rfl; kernel_rfl; intro _ e; cases e)
  | (ktf_call (p_setattr2 ?_ ?_ ?_ ?_ ?_ ?_ ?_ ?_ ?_ ?_); rotate_left 7; lcg_sub; tb_start; tb_start; tb_start; kernel_rfl; kernel_rfl; kernel_rfl; kernel_rfl; exact Nat.le_of_ble_eq_true rfl)
  | (ktf_call (p_subS ?_ ?_ ?_ ?_); rotate_left 2; tb_start; lcg_sub; rotate_left; intro _; rfl)
  | (ktf_call (p_subD ?_ ?_ ?_ ?_); rotate_left 3; tb_start; lcg_sub; rotate_left; intro _; rfl)
  | (ktf_call (p_getD ?_ ?_ ?_); rotate_left 3; tb_start; lcg_sub)
  | (ktf_call (p_setD ?_ ?_ ?_); rotate_left 3; tb_start; allgen_close2_more)
  | (ktf_call (p_in ?_ ?_); rotate_left 2; tb_start)
  | (ktf_call (p_notin ?_ ?_); rotate_left 2; tb_start)
  | (ktf_call (p_subL ?_ ?_ ?_ ?_ ?_ ?_); rotate_left 2; tb_start; allgen_close2_more; allgen_close2_more; lcg_off; rotate_left; intro _; rfl)
  | (ktf_call (p_subT ?_ ?_ ?_ ?_ ?_ ?_); rotate_left 2; allgen_close2_more; allgen_close2_more; (first | rfl | (with_reducible assumption)); lcg_off; rotate_left; intro _ _; rfl)
  | (ktf_call (p_getL ?_ ?_ ?_ ?_ ?_); rotate_left 2; tb_start; allgen_close2_more; allgen_close2_more; lcg_off)
  | (ktf_call (p_setL ?_ ?_ ?_ ?_ ?_); rotate_left 2; tb_start; allgen_close2_more; allgen_close2_more; allgen_close2_more)
  | (ktf_call (p_mod ?_ ?_ ?_); exact Ok.hh (by lcg_sub); allgen_close2_more)
  | (ktf_call (p_div ?_ ?_ ?_); allgen_close2_more; allgen_close2_more)
  | (ktf_call (p_shl ?_ ?_ ?_ ?_); allgen_close2_more; allgen_close2_more; allgen_close2_more)
  | (ktf_call (p_shr ?_ ?_); allgen_close2_more)
  | (ktf_call (p_mul ?_ ?_); allgen_close2_more))
local macro_rules | `(tactic| top_args) => `(tactic| first
  | ktf_call (pn_nil ?_)
  | ktf_call (pn_one ?_)
  | (ktf_call (g_append ?_ ?_); rotate_left; tb_start)
  | (ktf_call (g_dget ?_ ?_); rotate_left 2; tb_start)
  | (ktf_call (g_dgetS ?_ ?_); rotate_left; tb_start)
  | (ktf_call (m_new_net ?_ ?_ ?_); rotate_left 8; lcg_sub; tb_start)
  | (ktf_call (m_new_nets ?_ ?_ ?_); rotate_left 8; lcg_sub; tb_start)
  | (ktf_call (m_add_input ?_ ?_ ?_); rotate_left 8; lcg_sub; tb_start)
  | (ktf_call (m_add_output ?_ ?_ ?_); rotate_left 8; lcg_sub; tb_start)
  | (ktf_call (m_add_cell ?_ ?_ ?_); rotate_left 8; lcg_sub; tb_start)
  | (ktf_call (m_drive ?_ ?_ ?_); rotate_left 8; lcg_sub; tb_start)
  | (ktf_call (m_set_input ?_ ?_ ?_); rotate_left 8; lcg_sub; tb_start)
  | (ktf_call (m_note ?_ ?_ ?_); rotate_left 8; lcg_sub; tb_start)
  | (ktf_call (m_turn ?_ ?_ ?_); rotate_left 8; lcg_sub; tb_start)
  | (ktf_call (m_settle ?_ ?_ ?_); rotate_left 8; lcg_sub; tb_start)
  | (ktf_call (m_output ?_ ?_ ?_); rotate_left 8; lcg_sub; tb_start)
  | (ktf_call (m_state ?_ ?_ ?_); rotate_left 8; lcg_sub; tb_start)
  | (ktf_call (n_getD ?_ ?_ ?_); rotate_left 3; tb_start; lcg_sub)
  | (ktf_call (n_getS ?_ ?_ ?_); rotate_left 2; tb_start; lcg_sub)
  | (ktf_call (n_getS1 ?_ ?_ ?_); rotate_left 2; tb_start; lcg_sub)
  | (ktf_call (n_lenL ?_ ?_ ?_); rotate_left; tb_start; allgen_close2_more)
  | (ktf_call (n_lenT ?_ ?_); allgen_close2_more)
  | ktf_call (n_range ?_)
  | (ktf_call (n_append ?_ ?_ ?_); rotate_left 2; tb_start; allgen_close2_more)
  | (ktf_call (cw_builtin ?_ ?_ ?_); rotate_left; rfl; rfl)
  | (ktf_call (cw_type ?_ ?_ ?_); rotate_left; rfl; rfl)
  | (ktf_call (cw_K ?_ ?_ ?_ ?_ ?_); rotate_left; exact Ok.X (by lcg_sub); kernel_rfl; rotate_left; rfl; rfl)
  | (ktf_call (cw_K0 ?_ ?_ ?_); rotate_left; exact Ok.X (by lcg_sub); kernel_rfl))
local macro_rules | `(tactic| allgen_close_more) => `(tactic| first
  | ktf_call (then_next ?_)
  | ktf_call (then_ret ?_)
  | ktf_call (then_cont ?_)
  | ktf_call (none_and ?_)
  | ktf_call (glob_ex ?_)
  | ktf_call (turn_next ?_)
  | ktf_call (turn_cont ?_)
  | ktf_call (turn_ret ?_)
  | ktf_call (ret_ret ?_)
  | ktf_call (ret_next ?_)
  | (ktf_call (a_name ?_ ?_); rfl)
  | (ktf_call (a_tuple ?_ ?_ ?_); exact Ok.hh (by lcg_sub); rfl)
  | ((with_reducible refine' Stores.cons ?hu ?_); (case hu => tb_start))
  | (with_reducible refine Stores.nil ?_)
  | (ktf_call (tup_go ?_ ?_); exact Nat.le_of_ble_eq_true rfl)
  | (ktf_call (store_mk ?_ ?_); rotate_left; tb_start)
  | (ktf_call (ite_t ?_ ?_); (first | (with_reducible assumption) | rfl | exact decide_eq_true (by first | lcg_src | (with_reducible assumption)) | exact decide_eq_false (by first | lcg_src | (with_reducible assumption)) | decide +kernel))
  | (ktf_call (ite_f ?_ ?_); (first | (with_reducible assumption) | rfl | exact decide_eq_true (by first | lcg_src | (with_reducible assumption)) | exact decide_eq_false (by first | lcg_src | (with_reducible assumption)) | decide +kernel))
  | (with_reducible first | refine use_r (by with_reducible assumption) ?_ | refine use_j (by with_reducible assumption) ?_ | refine use_f (by with_reducible assumption) ?_ | refine use_e (by with_reducible assumption) ?_))
local macro_rules | `(tactic| tb_rel) => `(tactic| first
  | ((with_reducible fail_if_success (fail_if_success (show SP FR _ _ _ _ _))); top_raise0)
  | ((with_reducible fail_if_success (fail_if_success (show SP VR _ _ _ (eval (Expr.Name _ _) _) _))); top_name)
  | ((with_reducible fail_if_success (fail_if_success (show SP _ _ _ _ _ _))); top_raise)
  | ((with_reducible fail_if_success (fail_if_success (first | show P2 _ _ _ _ _ _ _ _ | show P1 _ _ _ _ _ _ _ | show P3 _ _ _ _ _ _ _ _ _))); top_caught)
  | ((with_reducible fail_if_success (fail_if_success (first | show PN _ _ _ _ _ _ _ | show CW _ _ _ _ _ _ _ _ | show GM _ _ _ _ _ _ _))); top_args)
  | allgen_close_more)
section
variable {c : Cx} {m : Loc} {led : List As} {P : Params} {k : Nat}



theorem mul_ok {a b : Int} (ha : a.natAbs < 2 ^ 60) : IntMulOk a b := by
  refine IntMulOk.of_left ?_
  unfold Builtin.Int.intBits
  split
  · (first | lia | omega)
  · rename_i h
    have : a.natAbs.log2 < 60 := (Nat.log2_lt (by simpa using h)).mpr ha
    (first | lia | omega)
theorem pick_go (o : Ok c (Kt P) (k + 1)) {H C : Addr} {ns : List Int} {i r s lim : Int} (hl : 0 < lim) (hlm : lim < 1000) (h0 : 0 ≤ i) (h1 : i ≤ ns.length) (hn : ns.length ≤ 63) (hr : 0 ≤ r) (hs : 0 ≤ s) (hs2 : s < 2 ^ 31) :
    Calls c (.ref 303) [.ref H, .int lim] [.lst H [.ref C, .int i, .int r, .int s], .lst C (ns.map .int)] fun v led' => X4 fun (d i' r' s' : Int) => Cj9 (v = .int d) (0 ≤ d) (d < lim) (0 ≤ i') (i' ≤ ns.length) (0 ≤ r') (0 ≤ s') (s' < 2 ^ 31) (led' = [.lst H [.ref C, .int i', .int r', .int s'], .lst C (ns.map .int)]) := by
  refine calls_fn o [S "hand", S "limit"] [S "number", S "digit"] [(S "hand", some (.ref H)), (S "limit", some (.int lim)), (S "number", none), (S "digit", none)] rfl (ob := ob303) (fd := fd303) (by kernel_rfl) rfl (by kernel_rfl) rfl (fun xs hx h hk tk => ?_) (by kernel_rfl) rfl (by decide +kernel) (by kernel_rfl) rfl rfl (by kernel_rfl) (by kernel_rfl) (by kernel_rfl) ?_
  · obtain ⟨a, b, rfl⟩ := len2 hx
    exact BindsTo.of_eq (by kernel_rfl)
  intro L o'
  refine s_cons ?_
  repeat tb_rel
  refine ite_both (fun e => ?_) (fun e => ?_)
  · have e := of_decide_eq_true e
    repeat tb_rel
    refine ite_both (fun e1 => ?_) (fun e1 => ?_)
    · repeat tb_rel
      refine p_mul (mul_ok (by (first | lia | omega))) ?_
      repeat tb_rel
      have hb := Int.fmod_nonneg_of_pos (s * 48271) (b := 2147483647) (by (first | lia | omega))
      have hb2 := Int.fmod_lt_of_pos (s * 48271) (b := 2147483647) (by (first | lia | omega))
      have hd := Int.fdiv_nonneg hb (show (0 : Int) ≤ 7 by (first | lia | omega))
      exact ⟨_, SubP.refl _, _, i, r, _, rfl, Int.fmod_nonneg_of_pos _ hl, Int.fmod_lt_of_pos _ hl, h0, h1, hr, hb, by (first | lia | omega), rfl⟩
    · have e1 := of_decide_eq_false e1
      rw [List.length_map] at e1
      have hlt : i.toNat < ns.length := by (first | lia | omega)
      have hg : (ns.map V.int)[i.toNat]? = some (.int ns[i.toNat]) := by rw [List.getElem?_map, List.getElem?_eq_getElem hlt]; rfl
      repeat tb_rel
      refine ite_both (fun e2 => ?_) (fun e2 => ?_)
      · have e2 := of_decide_eq_true e2
        repeat tb_rel
        exact ⟨_, SubP.refl _, _, i + 1, _, s, rfl, Int.fmod_nonneg_of_pos _ hl, Int.fmod_lt_of_pos _ hl, by (first | lia | omega), by (first | lia | omega), Int.fdiv_nonneg e2 (Int.le_of_lt hl), hs, hs2, rfl⟩
      · have e2 := of_decide_eq_false e2
        repeat tb_rel
        exact ⟨_, SubP.refl _, _, i + 1, _, s, rfl, Int.fmod_nonneg_of_pos _ hl, Int.fmod_lt_of_pos _ hl, by (first | lia | omega), by (first | lia | omega), Int.fdiv_nonneg (show 0 ≤ -ns[i.toNat] by (first | lia | omega)) (Int.le_of_lt hl), hs, hs2, rfl⟩
  · repeat tb_rel
    exact ⟨_, SubP.refl _, _, i, _, s, rfl, Int.fmod_nonneg_of_pos _ hl, Int.fmod_lt_of_pos _ hl, h0, h1, Int.fdiv_nonneg hr (Int.le_of_lt hl), hs, hs2, rfl⟩
end
section
variable {c : Cx} {m : Loc} {led : List As} {P : Params} {k : Nat}
theorem pick_ok (o : Ok c (Kt P) (k + 1)) {H C : Addr} {ns : List Int} {lim : Int} (hl : 0 < lim) (hlm : lim < 1000) :
    Calls c (.ref 303) [.ref H, .int lim] [.hnd H C ns] fun v led' => led' = [.hnd H C ns] ∧ ∃ d, Cj3 (v = .int d) (0 ≤ d) (d < lim) := fun m xs T h tk s r => by
  obtain ⟨i, r0, q, a1, a2, a3, a4, a5, a6, s1⟩ := hnd_open s
  refine codeAny_mono (pick_go o hl hlm a1 a2 a3 a4 a5 a6 m xs T h tk s1 r) fun rr s' z => ?_
  rcases rr with e | (v | _ | _ | _)
  all_goals first | exact z.elim | skip
  obtain ⟨b, h', tk', m', led', e, s2, r2, em, d, i', r', s'', ev, d0, d1, b1, b2, b3, b4, b5, rfl⟩ := z
  exact ⟨b, h', tk', m', _, e, hnd_close b1 b2 a3 b3 b4 b5 s2, r2, em, rfl, d, ev, d0, d1⟩
end
section
variable {c : Cx} {m : Loc} {led : List As} {P : Params} {k : Nat}

theorem e_or2 {e1 e2 : Expr} {pos : Pos} {K : V → Loc → List As → Prop} (h : SE c m led e1 fun v m1 led1 => ∃ b, v = .bool b ∧ (if b = true then K (.bool true) m1 led1 else SE c m1 led1 e2 K)) : SE c m led (.BoolOp .Or [e1, e2] pos) K := fun T hp tk s =>
  PyProof.Rows.BoolOp_or (wpAny_mono (h T hp tk s) (fun a s1 zz => Post.go zz fun v1 h1 tk1 m1 led1 e s1' r1 ⟨b, eb, k1⟩ => by
    subst e eb
    rw [r1.bo]
    refine wpAny_truthy_bool ?_
    cases b
    · exact PyProof.Rows.BoolOp_one (k1 T h1 tk1 s1')
    · exact post_here s1' VR.b k1) fun _ _ x => x)

/-- is_state_kind -/
noncomputable def isSt (kd : PySem.Str) : Bool := decide (kd = S "flop") || decide (kd = S "latch")
theorem kind_ok (o : Ok c (Kt P) (k + 1)) {kd : PySem.Str} : Calls c (.ref 73) [.str kd] [] fun v led' => led' = [] ∧ v = .bool (isSt kd) := by
  refine in_is_state_kind o fun L o' => ?_
  intro KR hKR
  refine s_cons ?_
  tb_rel
  refine e_or2 ?_
  repeat tb_rel
  refine ⟨_, rfl, ?_⟩
  refine ite_both (fun e => ?_) (fun e => ?_)
  · repeat tb_rel
    exact ⟨_, SubP.refl _, rfl, by unfold isSt; rw [e]; rfl⟩
  · repeat tb_rel
    exact ⟨_, SubP.refl _, rfl, by unfold isSt; rw [e]; rfl⟩

/-- row_number -/
noncomputable def rowNo : List Int → Int
  | [] => 0
  | b :: r => b + 2 * rowNo r
noncomputable def bitL (l : List Int) : Prop := ∀ b ∈ l, b = 0 ∨ b = 1
theorem rowNo_snoc (l : List Int) (b : Int) : rowNo (l ++ [b]) = rowNo l + b * 2 ^ l.length := by
  induction l with
  | nil => simp [rowNo]
  | cons a l ih =>
    simp only [List.cons_append, rowNo, ih, List.length_cons]
    rw [Int.pow_succ, Int.mul_add]
    rw [show b * (2 ^ l.length * 2) = 2 * (b * 2 ^ l.length) by rw [Int.mul_comm 2 (b * _), Int.mul_assoc]]
    (first | lia | omega)
theorem take_snoc {α : Type} {l : List α} {i : Nat} {v : α} (h : l[i]? = some v) : l.take (i + 1) = l.take i ++ [v] := by
  rw [List.take_add_one, h]; rfl
theorem row_ok (o : Ok c (Kt P) (k + 1)) {D : Addr} {bs : List Int} (hb : bitL bs) (hn : bs.length ≤ 10) : Calls c (.ref 199) [.ref D] [.lst D (bs.map .int)] fun v led' => led' = [.lst D (bs.map .int)] ∧ v = .int (rowNo bs) := by
  refine in_row_number o fun L o' => ?_
  intro KR hKR
  refine s_cons ?_
  repeat tb_rel
  refine ⟨_, _, _, .rng (by (first | lia | omega)) (by simp; (first | lia | omega)), fun i m led => ∃ u, m = [(S "bits", some (.ref D)), (S "row", some (.int (rowNo (bs.take i)))), (S "place", u)] ∧ led = [.lst D (bs.map .int)], ⟨_, SubP.refl _, _, rfl, rfl⟩, ?_, ?_⟩
  · rintro i v m led hv KX1 KX2 hX1 hX2 ⟨u, rfl, rfl⟩
    obtain ⟨rfl, hi⟩ := rngV_get hv
    have hi : i < bs.length := by simpa using hi
    have hg : (bs.map V.int)[((i : Nat) : Int).toNat]? = some (.int bs[i]) := by simp [hi]
    repeat tb_rel
    have hb1 := hb bs[i] (List.getElem_mem hi)
    have e1 := take_snoc (l := bs) (i := i) (v := bs[i]) (List.getElem?_eq_getElem hi)
    refine ite_both (fun e => ?_) (fun e => ?_)
    · have e := of_decide_eq_true e
      repeat tb_rel
      refine ⟨_, SubP.refl _, some (.int i), ?_, rfl⟩
      rw [e1, rowNo_snoc, show bs[i] = 1 by (first | lia | omega), List.length_take, Nat.min_eq_left (Nat.le_of_lt hi)]
      simp
    · have e := of_decide_eq_false e
      repeat tb_rel
      refine ⟨_, SubP.refl _, some (.int i), ?_, rfl⟩
      rw [e1, rowNo_snoc, show bs[i] = 0 by (first | lia | omega)]
      simp
  · rintro m led ⟨u, rfl, rfl⟩
    repeat tb_rel
    refine ⟨_, SubP.refl _, rfl, ?_⟩
    rw [List.take_of_length_le (by rw [rngV_len]; simp)]

/-- gate_value, cell_value -/
noncomputable def kinds11 : List PySem.Str := [S "and", S "not", S "xor", S "mux", S "buf", S "nor", S "lut", S "or", S "nand", S "cell", S "xnor"]
noncomputable def wideOf (kd : PySem.Str) : Nat := if kd = S "not" then 1 else if kd = S "buf" then 1 else if kd = S "mux" then 3 else 2
noncomputable def prmOf (kd : PySem.Str) : V := if kd = S "lut" then .int 6 else if kd = S "cell" then .tup [.str (S "C"), .int 13] else .none
/-- what a kind's table says -/
noncomputable def tabOf (kd : PySem.Str) : Int := if kd = S "lut" then 6 else if kd = S "cell" then 13 else if kd = S "buf" then 2 else if kd = S "not" then 1 else if kd = S "and" then 8 else if kd = S "or" then 14 else if kd = S "xor" then 6 else if kd = S "nand" then 7 else if kd = S "nor" then 1 else if kd = S "xnor" then 9 else 228
noncomputable def gval (kd : PySem.Str) (bs : List Int) : Int := tabOf kd / 2 ^ (rowNo bs).toNat % 2
theorem bits1 {bs : List Int} (h : bs.length = 1) (hb : bitL bs) : bs = [0] ∨ bs = [1] := by
  obtain ⟨a, rfl⟩ := len1 h
  rcases hb a (by simp) with rfl | rfl <;> simp
theorem bits2 {bs : List Int} (h : bs.length = 2) (hb : bitL bs) : bs = [0, 0] ∨ bs = [0, 1] ∨ bs = [1, 0] ∨ bs = [1, 1] := by
  obtain ⟨a, b, rfl⟩ := len2 h
  rcases hb a (by simp) with rfl | rfl <;> rcases hb b (by simp) with rfl | rfl <;> simp
theorem bits3 {bs : List Int} (h : bs.length = 3) (hb : bitL bs) : bs = [0, 0, 0] ∨ bs = [0, 0, 1] ∨ bs = [0, 1, 0] ∨ bs = [0, 1, 1] ∨ bs = [1, 0, 0] ∨ bs = [1, 0, 1] ∨ bs = [1, 1, 0] ∨ bs = [1, 1, 1] := by
  obtain ⟨a, b, d, rfl⟩ := len3 h
  rcases hb a (by simp) with rfl | rfl <;> rcases hb b (by simp) with rfl | rfl <;> rcases hb d (by simp) with rfl | rfl <;> simp
theorem gate_ok (o : Ok c (Kt P) (k + 1)) {D : Addr} {bs : List Int} {kd : PySem.Str} (hb : bitL bs) (hk : kd ∈ kinds11) (hn : bs.length = wideOf kd) (h1 : kd ≠ S "lut") (h2 : kd ≠ S "cell") :
    Calls c (.ref 206) [.str kd, .ref D] [.lst D (bs.map .int)] fun v led' => led' = [.lst D (bs.map .int)] ∧ v = .int (gval kd bs) := by
  simp only [kinds11, List.mem_cons, List.not_mem_nil, or_false] at hk
  rcases hk with rfl | rfl | rfl | rfl | rfl | rfl | rfl | rfl | rfl | rfl | rfl
  · obtain ⟨a, b, rfl⟩ := len2 (hn.trans (show wideOf (S "and") = 2 by decide +kernel))
    simp only [List.map_cons, List.map_nil]
    refine in_gate_value o fun L o' => ?_
    intro KR hKR
    refine s_cons ?_
    repeat tb_rel
    refine ⟨_, SubP.refl _, rfl, congrArg V.int ?_⟩
    obtain h | h | h | h := bits2 rfl hb <;> (cases h; decide +kernel)
  · obtain ⟨a, rfl⟩ := len1 (hn.trans (show wideOf (S "not") = 1 by decide +kernel))
    simp only [List.map_cons, List.map_nil]
    refine in_gate_value o fun L o' => ?_
    intro KR hKR
    refine s_cons ?_
    repeat tb_rel
    refine ⟨_, SubP.refl _, rfl, congrArg V.int ?_⟩
    obtain h | h := bits1 rfl hb <;> (cases h; decide +kernel)
  · obtain ⟨a, b, rfl⟩ := len2 (hn.trans (show wideOf (S "xor") = 2 by decide +kernel))
    simp only [List.map_cons, List.map_nil]
    refine in_gate_value o fun L o' => ?_
    intro KR hKR
    refine s_cons ?_
    repeat tb_rel
    refine ⟨_, SubP.refl _, rfl, congrArg V.int ?_⟩
    obtain h | h | h | h := bits2 rfl hb <;> (cases h; decide +kernel)
  · obtain ⟨a, b, d, rfl⟩ := len3 (hn.trans (show wideOf (S "mux") = 3 by decide +kernel))
    simp only [List.map_cons, List.map_nil]
    refine in_gate_value o fun L o' => ?_
    intro KR hKR
    refine s_cons ?_
    repeat tb_rel
    refine ite_both (fun e => ?_) (fun e => ?_)
    all_goals
      repeat tb_rel
      refine ⟨_, SubP.refl _, rfl, congrArg V.int ?_⟩
      obtain h | h | h | h | h | h | h | h := bits3 rfl hb <;> (cases h; first | (exfalso; revert e; decide +kernel) | decide +kernel)
  · obtain ⟨a, rfl⟩ := len1 (hn.trans (show wideOf (S "buf") = 1 by decide +kernel))
    simp only [List.map_cons, List.map_nil]
    refine in_gate_value o fun L o' => ?_
    intro KR hKR
    refine s_cons ?_
    repeat tb_rel
    refine ⟨_, SubP.refl _, rfl, congrArg V.int ?_⟩
    obtain h | h := bits1 rfl hb <;> (cases h; decide +kernel)
  · obtain ⟨a, b, rfl⟩ := len2 (hn.trans (show wideOf (S "nor") = 2 by decide +kernel))
    simp only [List.map_cons, List.map_nil]
    refine in_gate_value o fun L o' => ?_
    intro KR hKR
    refine s_cons ?_
    repeat tb_rel
    refine ⟨_, SubP.refl _, rfl, congrArg V.int ?_⟩
    obtain h | h | h | h := bits2 rfl hb <;> (cases h; decide +kernel)
  · exact absurd rfl h1
  · obtain ⟨a, b, rfl⟩ := len2 (hn.trans (show wideOf (S "or") = 2 by decide +kernel))
    simp only [List.map_cons, List.map_nil]
    refine in_gate_value o fun L o' => ?_
    intro KR hKR
    refine s_cons ?_
    repeat tb_rel
    refine ⟨_, SubP.refl _, rfl, congrArg V.int ?_⟩
    obtain h | h | h | h := bits2 rfl hb <;> (cases h; decide +kernel)
  · obtain ⟨a, b, rfl⟩ := len2 (hn.trans (show wideOf (S "nand") = 2 by decide +kernel))
    simp only [List.map_cons, List.map_nil]
    refine in_gate_value o fun L o' => ?_
    intro KR hKR
    refine s_cons ?_
    repeat tb_rel
    refine ⟨_, SubP.refl _, rfl, congrArg V.int ?_⟩
    obtain h | h | h | h := bits2 rfl hb <;> (cases h; decide +kernel)
  · exact absurd rfl h2
  · obtain ⟨a, b, rfl⟩ := len2 (hn.trans (show wideOf (S "xnor") = 2 by decide +kernel))
    simp only [List.map_cons, List.map_nil]
    refine in_gate_value o fun L o' => ?_
    intro KR hKR
    refine s_cons ?_
    repeat tb_rel
    refine ⟨_, SubP.refl _, rfl, congrArg V.int ?_⟩
    obtain h | h | h | h := bits2 rfl hb <;> (cases h; decide +kernel)

theorem rowNo_nonneg {bs : List Int} (h : bitL bs) : 0 ≤ rowNo bs := by
  induction bs with
  | nil => exact Int.le_refl _
  | cons a l ih =>
    have h1 := h a (.head _)
    have h2 := ih fun b hb => h b (.tail _ hb)
    unfold rowNo; (first | lia | omega)
theorem cellv_ok (o : Ok c (Kt P) (k + 1 + 1)) {D : Addr} {bs : List Int} {kd : PySem.Str} (hb : bitL bs) (hk : kd ∈ kinds11) (hn : bs.length = wideOf kd) :
    Calls c (.ref 213) [.str kd, prmOf kd, .ref D] [.lst D (bs.map .int)] fun v led' => led' = [.lst D (bs.map .int)] ∧ v = .int (gval kd bs) := by
  have hw : ∀ x : PySem.Str, wideOf x ≤ 3 := fun x => by unfold wideOf; repeat' split
                                                         all_goals (first | lia | omega)
  have hn10 : bs.length ≤ 10 := by have := hw kd; (first | lia | omega)
  have r0 : 0 ≤ rowNo bs := rowNo_nonneg hb
  by_cases h1 : kd = S "lut"
  · subst h1
    rw [show prmOf (S "lut") = .int 6 by unfold prmOf; rw [if_pos rfl]]
    refine in_cell_value o fun L o' => ?_
    intro KR hKR
    refine s_cons ?_
    repeat tb_rel
    refine Calls.same (row_ok o' hb hn10) (.cons .head .nil) ?_
    rintro v rfl
    repeat tb_rel
    refine ⟨_, SubP.refl _, rfl, congrArg V.int ?_⟩
    obtain h | h | h | h := bits2 (hn.trans (show wideOf (S "lut") = 2 by decide +kernel)) hb <;> (cases h; decide +kernel)
  · by_cases h2 : kd = S "cell"
    · subst h2
      rw [show prmOf (S "cell") = .tup [.str (S "C"), .int 13] by unfold prmOf; rw [if_neg h1, if_pos rfl]]
      refine in_cell_value o fun L o' => ?_
      intro KR hKR
      refine s_cons ?_
      repeat tb_rel
      refine Calls.same (row_ok o' hb hn10) (.cons .head .nil) ?_
      rintro v rfl
      repeat tb_rel
      refine ⟨_, SubP.refl _, rfl, congrArg V.int ?_⟩
      obtain h | h | h | h := bits2 (hn.trans (show wideOf (S "cell") = 2 by decide +kernel)) hb <;> (cases h; decide +kernel)
    · refine in_cell_value o fun L o' => ?_
      intro KR hKR
      refine s_cons ?_
      repeat tb_rel
      refine Calls.same (gate_ok o' hb hk hn h1 h2) (.cons .head .nil) ?_
      rintro v rfl
      repeat tb_rel
      exact ⟨_, SubP.refl _, rfl, rfl⟩
end
/-- cells of the netlist -/
structure Row where
  kind : PySem.Str
  out : Int
  ins : List Int
  prm : V
noncomputable def Row.v (r : Row) : V := .tup [.str r.kind, .int r.out, .tup (r.ins.map .int), r.prm]
structure Row.gate (r : Row) (n : Int) : Prop where
  hk : r.kind ∈ kinds11
  hi : r.ins.length = wideOf r.kind
  hp : r.prm = prmOf r.kind
  hr : ∀ x ∈ r.ins, 0 ≤ x ∧ x < n
  ho : 0 ≤ r.out ∧ r.out < n
noncomputable def upd (B : Int → Int) (k v : Int) : Int → Int := fun x => if x = k then v else B x
noncomputable def evalRow (B : Int → Int) (r : Row) : Int → Int := upd B r.out (gval r.kind (r.ins.map B))
noncomputable def evalRows (B : Int → Int) (rs : List Row) : Int → Int := rs.foldl evalRow B
noncomputable def Bits (B : Int → Int) : Prop := ∀ k, B k = 0 ∨ B k = 1
theorem bits_map {B : Int → Int} (h : Bits B) (l : List Int) : bitL (l.map B) := fun b hb => by
  obtain ⟨x, _, rfl⟩ := List.mem_map.mp hb
  exact h x
theorem gval_bit (kd : PySem.Str) (bs : List Int) : gval kd bs = 0 ∨ gval kd bs = 1 := by unfold gval; (first | lia | omega)
theorem Bits.upd {B : Int → Int} (h : Bits B) (k : Int) {v : Int} (hv : v = 0 ∨ v = 1) : Bits (upd B k v) := fun x => by
  unfold NSim.upd; split
  · exact hv
  · exact h x
theorem Bits.row {B : Int → Int} (h : Bits B) (r : Row) : Bits (evalRow B r) := h.upd _ (gval_bit _ _)
theorem Bits.rows {B : Int → Int} (h : Bits B) (rs : List Row) : Bits (evalRows B rs) := by
  induction rs generalizing B with
  | nil => exact h
  | cons r rs ih => exact ih (h.row r)
theorem evalRows_snoc (B : Int → Int) (rs : List Row) (r : Row) : evalRows B (rs ++ [r]) = evalRow (evalRows B rs) r := by
  unfold evalRows; rw [List.foldl_append]; rfl

/-- a list of bits by their nets -/
noncomputable def tab (n : Nat) (B : Int → Int) : List V := (List.range n).map fun (i : Nat) => V.int (B i)
theorem tab_len (n : Nat) (B : Int → Int) : (tab n B).length = n := by simp [tab]
theorem tab_get {n : Nat} {B : Int → Int} {i : Int} (h0 : 0 ≤ i) (h1 : i < n) : (tab n B)[i.toNat]? = some (.int (B i)) := by
  unfold tab
  rw [List.getElem?_map, List.getElem?_range (by (first | lia | omega))]
  simp [Int.toNat_of_nonneg h0]
theorem tab_set {n : Nat} {B : Int → Int} {i x : Int} (h0 : 0 ≤ i) (h1 : i < n) : (tab n B).set i.toNat (.int x) = tab n (upd B i x) := by
  apply List.ext_getElem?
  intro j
  rw [List.getElem?_set]
  unfold tab
  rw [List.length_map, List.length_range, List.getElem?_map, List.getElem?_map]
  by_cases e : i.toNat = j
  · subst e
    rw [if_pos rfl, if_pos (by (first | lia | omega)), List.getElem?_range (by (first | lia | omega))]
    simp [upd, Int.toNat_of_nonneg h0]
  · rw [if_neg e]
    by_cases hj : j < n
    · rw [List.getElem?_range hj]
      simp only [Option.map_some]
      congr 2
      unfold upd
      rw [if_neg (by (first | lia | omega))]
    · rw [List.getElem?_eq_none (by simp; (first | lia | omega))]; rfl

section
variable {c : Cx} {m : Loc} {led : List As} {P : Params} {k : Nat}
theorem wide3 (x : PySem.Str) : 1 ≤ wideOf x ∧ wideOf x ≤ 3 := by
  unfold wideOf; repeat' split
  all_goals (first | lia | omega)
theorem row_get {cells : List Row} {i : Nat} {r : Row} (h : cells[i]? = some r) : (cells.map Row.v)[(i : Int).toNat]? = some (.tup [.str r.kind, .int r.out, .tup (r.ins.map .int), r.prm]) := by
  rw [Int.toNat_natCast, List.getElem?_map, h]; rfl

theorem evalc_ok (o : Ok c (Kt P) (k + 1 + 1 + 1)) {N d I O Cl Od Vd : Addr} {nm : V} {n : Nat} {cells : List Row} {order : List Nat} {rows : List Row} {B : Int → Int} (hn : n < 1000) (hB : Bits B) (hc : cells.length < 1000)
    (hlen : order.length = rows.length) (hl2 : rows.length < 1000) (hord : ∀ (j : Nat) (r : Row), rows[j]? = some r → ∃ i : Nat, order[j]? = some i ∧ cells[i]? = some r) (hg : ∀ r ∈ rows, r.gate n) :
    Calls c (.ref 218) [.ref N, .ref Od, .ref Vd] [.ins N d 160 (netF nm n I O Cl), .lst Cl (cells.map Row.v), .lst Od (order.map fun (i : Nat) => .int i), .lst Vd (tab n B)]
      fun v led' => v = .none ∧ led' = [.ins N d 160 (netF nm n I O Cl), .lst Cl (cells.map Row.v), .lst Od (order.map fun (i : Nat) => .int i), .lst Vd (tab n (evalRows B rows))] := by
  refine in_evaluate_cells o fun L o' hcells => ?_
  intro KR hKR
  refine s_cons ?_
  repeat tb_rel
  refine' ⟨_, _, _, .lst ?qs, fun j m led => X6 fun u1 u2 u3 u4 u5 u6 => m = [(S "netlist", some (.ref N)), (S "order", some (.ref Od)), (S "index", u1), (S "kind", u2), (S "out", u3), (S "ins", u4), (S "param", u5), (S "bits", u6)] ∧ led = [.cel (L + 1) (some (.ref Vd)), .ins N d 160 (netF nm n I O Cl), .lst Cl (cells.map Row.v), .lst Vd (tab n (evalRows B (rows.take j)))], ?_, ?_, ?_⟩
  case qs => tb_start
  · exact ⟨_, SubP.refl _, _, _, _, _, _, _, rfl, rfl⟩
  · rintro j v m led hv KX1 KX2 hX1 hX2 ⟨u1, u2, u3, u4, u5, u6, rfl, rfl⟩
    rw [List.getElem?_map, Option.map_eq_some_iff] at hv
    obtain ⟨i, hi, rfl⟩ := hv
    have hj : j < rows.length := by rw [← hlen]; exact (List.getElem?_eq_some_iff.mp hi).1
    obtain ⟨i', hi', hcr⟩ := hord j rows[j] (List.getElem?_eq_getElem hj)
    rw [hi] at hi'
    cases hi'
    have hrow := row_get hcr
    have gr := hg rows[j] (List.getElem_mem hj)
    have hil : i < cells.length := (List.getElem?_eq_some_iff.mp hcr).1
    have e1 := take_snoc (List.getElem?_eq_getElem hj)
    generalize rows[j] = r at *
    repeat tb_rel
    have hB' := hB.rows (rows.take j)
    generalize hBe : evalRows B (rows.take j) = B' at *
    refine ⟨_, _, _, .tup, by have := gr.hi; have := wide3 r.kind; simp; (first | lia | omega), fun x us led => us = ((r.ins.take x).map B').map V.int ∧ led = [.cel (L + 1) (some (.ref Vd)), .ins N d 160 (netF nm n I O Cl), .lst Cl (cells.map Row.v), .lst Vd (tab n B')], ?_, ?_, ?_⟩
    · exact ⟨_, SubP.refl _, rfl, rfl⟩
    · rintro x v us led C hv KE hKE ⟨rfl, rfl⟩
      rw [List.getElem?_map, Option.map_eq_some_iff] at hv
      obtain ⟨y, hy, rfl⟩ := hv
      have hy2 := gr.hr y (List.mem_of_getElem? hy)
      have hty := tab_get (B := B') hy2.1 hy2.2
      have hn40 : y < 2 ^ 40 := by (first | lia | omega)
      refine comp_in o' rfl fun o'' => ?_
      repeat tb_rel
      refine ⟨⟨_, rfl⟩, _, SubP.refl _, ?_, rfl⟩
      rw [take_snoc hy]; simp
    · rintro us led ⟨rfl, rfl⟩ D
      rw [List.take_of_length_le (by simp)]
      repeat tb_rel
      have cv := cellv_ok (k := k) (P := P) o' (D := D) (bits_map hB' r.ins) gr.hk (by simp [gr.hi])
      rw [← gr.hp] at cv
      have ho1 := gr.ho.1
      have ho2 := gr.ho.2
      have hlv := tab_len n B'
      refine Calls.same cv (.cons .head .nil) ?_
      rintro v rfl
      repeat tb_rel
      rw [tab_set ho1 ho2]
      refine ⟨_, .cons (.tail .head) (.cons (.tail .head) (.cons (.tail .head) (.cons (.tail .head) (.nil _)))), _, _, _, _, _, _, rfl, ?_⟩
      rw [e1, evalRows_snoc, hBe]
      rfl
  · rintro m led ⟨u1, u2, u3, u4, u5, u6, rfl, rfl⟩
    repeat tb_rel
    rw [List.take_of_length_le (by simp [hlen])]
    refine ⟨_, ?_, rfl, rfl⟩
    refine .cons (.tail (.tail .head)) (.cons (.tail (.tail .head)) (.cons .head (.cons (.tail .head) (.nil _))))
end
section
variable {c : Cx} {m : Loc} {led : List As} {P : Params} {k : Nat}
noncomputable def tabP : List (PySem.Str × V) := [(S "buf", .int 2), (S "not", .int 1), (S "and", .int 8), (S "or", .int 14), (S "xor", .int 6), (S "nand", .int 7), (S "nor", .int 1), (S "xnor", .int 9), (S "mux", .int 228)]
theorem tabP_get {kd : PySem.Str} (hk : kd ∈ kinds11) (h1 : ¬ kd = S "lut") (h2 : ¬ kd = S "cell") : tabP.lookup kd = some (.int (tabOf kd)) := by
  simp only [kinds11, List.mem_cons, List.not_mem_nil, or_false] at hk
  rcases hk with rfl | rfl | rfl | rfl | rfl | rfl | rfl | rfl | rfl | rfl | rfl
  all_goals first | (with_reducible exact absurd rfl h1) | (with_reducible exact absurd rfl h2) | kernel_rfl
theorem table_ok (o : Ok c (Kt P) (k + 1)) {kd : PySem.Str} (hk : kd ∈ kinds11) : Calls c (.ref 310) [.str kd, prmOf kd] [] fun v led' => led' = [] ∧ v = .int (tabOf kd) := by
  by_cases h1 : kd = S "lut"
  · subst h1
    rw [show prmOf (S "lut") = .int 6 by unfold prmOf; rw [if_pos rfl]]
    refine in_law_table o fun L o' => ?_
    intro KR hKR
    refine s_cons ?_
    repeat tb_rel
    exact ⟨_, SubP.refl _, rfl, congrArg V.int (by decide +kernel)⟩
  · by_cases h2 : kd = S "cell"
    · subst h2
      rw [show prmOf (S "cell") = .tup [.str (S "C"), .int 13] by unfold prmOf; rw [if_neg h1, if_pos rfl]]
      refine in_law_table o fun L o' => ?_
      intro KR hKR
      refine s_cons ?_
      repeat tb_rel
      exact ⟨_, SubP.refl _, rfl, congrArg V.int (by decide +kernel)⟩
    · refine in_law_table o fun L o' => ?_
      intro KR hKR
      refine s_cons ?_
      repeat tb_rel
      have ht := tabP_get hk h1 h2
      with_reducible refine' e_dictS o' tabP ?a ?b ?c ?d ?e ?f ?g
      case a => kernel_rfl
      case b => kernel_rfl
      case c => exact List.cons_ne_nil _ _
      case d => exact Nat.le_of_ble_eq_true rfl
      case e => decide +kernel
      case f =>
        repeat tb_rel
        exact ⟨rfl, rfl, rfl⟩
      case g =>
        intro D
        repeat tb_rel
        exact ⟨_, SubP.nil _, rfl, rfl⟩

theorem seq_at {i n : Nat} (h : i < n) : seqIndex? (i : Int) n = some i := by
  unfold seqIndex?
  have e : ¬ ((i : Int) < 0) := by (first | lia | omega)
  simp [e, h]
theorem two_pow_le {a b : Nat} (h : a ≤ b) : (2 : Int) ^ a ≤ 2 ^ b := by
  have h1 := Nat.pow_le_pow_right (n := 2) (by decide) h
  have e : ∀ x : Nat, (2 : Int) ^ x = ((2 ^ x : Nat) : Int) := fun x => by simp
  rw [e, e]; exact Int.ofNat_le.mpr h1
theorem bits2_2 : ((Builtin.Int.intBits 2 : Nat) : Int) = 2 := by decide +kernel
noncomputable def Rep (f : Int → Option V) (dom : Int → Prop) (B : Int → Int) : Prop := ∀ x, dom x → f x = some (.int (B x))
theorem Rep.put {f : Int → Option V} {dom : Int → Prop} {B : Int → Int} (h : Rep f dom B) (k v : Int) : Rep (putI k (.int v) f) (fun x => dom x ∨ x = k) (upd B k v) := fun x hx => by
  unfold putI upd
  by_cases e : x = k
  · rw [if_pos e, if_pos e]
  · rw [if_neg e, if_neg e]
    exact h x (hx.resolve_right e)
theorem Rep.sub {f : Int → Option V} {dom dom' : Int → Prop} {B : Int → Int} (h : Rep f dom B) (k : ∀ x, dom' x → dom x) : Rep f dom' B := fun x hx => h x (k x hx)
theorem rowNo_lt {bs : List Int} (h : bitL bs) : rowNo bs < 2 ^ bs.length := by
  induction bs with
  | nil => simp [rowNo]
  | cons a l ih =>
    have h1 := h a (.head _)
    have h2 := ih fun b hb => h b (.tail _ hb)
    unfold rowNo
    rw [List.length_cons, Int.pow_succ]; (first | lia | omega)

theorem gates_ok (o : Ok c (Kt P) (k + 1 + 1)) {Rw Bd : Addr} {n : Nat} {rows : List Row} {B : Int → Int} {f : Int → Option V} {nb : Nat} {dom : Int → Prop} (hB : Bits B) (hl : rows.length < 1000) (hg : ∀ r ∈ rows, r.gate n) (hnb : nb < 50000)
    (hR : Rep f dom B) (hd : ∀ (j : Nat) (r : Row), rows[j]? = some r → ∀ x ∈ r.ins, dom x ∨ ∃ r' ∈ rows.take j, r'.out = x) :
    Calls c (.ref 317) [.ref Rw, .ref Bd] [.lst Rw (rows.map Row.v), .dic c.prog c.w Bd nb f]
      fun v led' => v = .none ∧ X2 fun f' nb' => Cj4 (Rep f' (fun x => dom x ∨ ∃ r ∈ rows, r.out = x) (evalRows B rows)) (nb' ≤ nb + rows.length) (((∀ r ∈ rows, dom r.out) → nb' = nb)) (led' = [.lst Rw (rows.map Row.v), .dic c.prog c.w Bd nb' f']) := by
  refine in_law_gates o fun L o' => ?_
  intro KR hKR
  refine s_cons ?_
  repeat tb_rel
  refine' ⟨_, _, _, .lst ?qs, fun j m led => X8 fun u1 u2 u3 u4 u5 u6 f' nb' => Cj5 (m = [(S "rows", some (.ref Rw)), (S "bits", some (.ref Bd)), (S "kind", u1), (S "out", u2), (S "ins", u3), (S "param", u4), (S "number", u5), (S "spot", u6)]) (led = [.dic c.prog c.w Bd nb' f']) (Rep f' (fun x => dom x ∨ ∃ r ∈ rows.take j, r.out = x) (evalRows B (rows.take j))) (nb' ≤ nb + j) (((∀ r ∈ rows, dom r.out) → nb' = nb)), ?_, ?_, ?_⟩
  case qs => tb_start
  · exact ⟨_, SubP.refl _, _, _, _, _, _, _, f, nb, rfl, rfl, hR.sub fun x h => h.elim id (fun ⟨r, hr, _⟩ => by simp at hr), Nat.le_refl _, fun _ => rfl⟩
  · rintro j v m led hv KX1 KX2 hX1 hX2 ⟨u1, u2, u3, u4, u5, u6, f', nb', rfl, rfl, hR', hn1, hn2⟩
    rw [List.getElem?_map, Option.map_eq_some_iff] at hv
    obtain ⟨r, hr, rfl⟩ := hv
    have hj : j < rows.length := (List.getElem?_eq_some_iff.mp hr).1
    have gr := hg r (List.mem_of_getElem? hr)
    have e1 := take_snoc hr
    have hdr := hd j r hr
    have hB' := hB.rows (rows.take j)
    generalize hBe : evalRows B (rows.take j) = B' at *
    have w3 := wide3 r.kind
    have hil := gr.hi
    unfold Row.v
    repeat tb_rel
    refine ⟨_, _, _, .rng (by (first | lia | omega)) (by simp; (first | lia | omega)), fun i m led => ∃ u6, m = [(S "rows", some (.ref Rw)), (S "bits", some (.ref Bd)), (S "kind", some (.str r.kind)), (S "out", some (.int r.out)), (S "ins", some (.tup (r.ins.map .int))), (S "param", some r.prm), (S "number", some (.int (rowNo ((r.ins.take i).map B')))), (S "spot", u6)] ∧ led = [.dic c.prog c.w Bd nb' f'], ?_, ?_, ?_⟩
    · exact ⟨_, SubP.refl _, _, rfl, rfl⟩
    · rintro i v m led hv KX1 KX2 hX1 hX2 ⟨u6, rfl, rfl⟩
      obtain ⟨rfl, hi⟩ := rngV_get hv
      have hi : i < r.ins.length := by simpa using hi
      have hgi : (r.ins.map V.int)[i]? = some (.int r.ins[i]) := by simp [hi]
      have hsi : seqIndex? (i : Int) (r.ins.map V.int).length = some i := seq_at (by simpa using hi)
      have hfi : f' r.ins[i] = some (.int (B' r.ins[i])) := hR' _ (hdr _ (List.getElem_mem hi))
      repeat tb_rel
      have hb2 := hB' r.ins[i]
      refine p_pow (by (first | lia | omega)) (by rw [bits2_2]; (first | lia | omega)) ?_
      repeat tb_rel
      refine p_mul (mul_ok (by (first | lia | omega))) ?_
      repeat tb_rel
      refine ⟨_, SubP.refl _, some (.int i), ?_, rfl⟩
      rw [take_snoc (l := r.ins) (v := r.ins[i]) (List.getElem?_eq_getElem hi), List.map_append, List.map_cons, List.map_nil, rowNo_snoc, List.length_map, List.length_take, Nat.min_eq_left (Nat.le_of_lt hi), Int.toNat_natCast]
    · rintro m led ⟨u6, rfl, rfl⟩
      rw [rngV_len, Int.toNat_natCast, List.take_of_length_le (by simp)]
      repeat tb_rel
      have tk := table_ok (k := k) (P := P) o' gr.hk
      rw [← gr.hp] at tk
      refine Calls.same tk .nil ?_
      rintro v rfl
      repeat tb_rel
      have hb1 := bits_map hB' r.ins
      have r0 := rowNo_nonneg hb1
      have r1 := rowNo_lt hb1
      rw [List.length_map] at r1
      have r8 : rowNo (r.ins.map B') < 8 := Int.lt_of_lt_of_le r1 (by
        have : (2 : Int) ^ r.ins.length ≤ 2 ^ 3 := two_pow_le (by (first | lia | omega))
        (first | lia | omega))
      refine p_pow r0 (by rw [bits2_2]; (first | lia | omega)) ?_
      have hpw : (2 : Int) ^ (rowNo (r.ins.map B')).toNat ≤ 2 ^ 7 := two_pow_le (by (first | lia | omega))
      have hpp : 0 < (2 : Int) ^ (rowNo (r.ins.map B')).toNat := Int.pow_pos (by (first | lia | omega))
      generalize hpe : (2 : Int) ^ (rowNo (r.ins.map B')).toNat = pw at *
      repeat tb_rel
      have hgv : (Int.fdiv (tabOf r.kind) pw).fmod 2 = gval r.kind (r.ins.map B') := by
        unfold gval
        rw [hpe, Int.fdiv_eq_ediv_of_nonneg _ (Int.le_of_lt hpp), Int.fmod_eq_emod_of_nonneg _ (by (first | lia | omega))]
      rw [hgv]
      refine ⟨_, SubP.refl _, _, _, _, _, _, _, _, _, rfl, rfl, ?_, ?_, fun h => ?_⟩
      · rw [e1, evalRows_snoc, hBe]
        refine (hR'.put _ _).sub fun x h => ?_
        rcases h with h | ⟨r', hr', e⟩
        · exact .inl (.inl h)
        · rcases List.mem_append.mp hr' with h | h
          · exact .inl (.inr ⟨r', h, e⟩)
          · rw [List.mem_singleton.mp h] at e
            exact .inr e.symm
      · split <;> (first | lia | omega)
      · rw [hR' r.out (.inl (h r (List.mem_of_getElem? hr)))]
        exact hn2 h
  · rintro m led ⟨u1, u2, u3, u4, u5, u6, f', nb', rfl, rfl, hR', hn1, hn2⟩
    repeat tb_rel
    rw [List.length_map, List.take_of_length_le (Nat.le_refl _)] at hR'
    rw [List.length_map] at hn1
    exact ⟨_, SubP.refl _, rfl, f', nb', hR', hn1, hn2, rfl⟩
end
/-- a state cell -/
structure StC where
  flop : Bool
  out : Int
  first : Int
  d : Int
  sn : Int
  rn : Int
  edge : Int
  name : PySem.Str
  init : Int
noncomputable def StC.kind (s : StC) : PySem.Str := if s.flop then S "flop" else S "latch"
noncomputable def StC.prm (s : StC) : V := if s.flop then .tup [.int s.edge, .str s.name, .int s.init] else .tup [.str s.name, .int s.init]
noncomputable def StC.row (s : StC) : Row := ⟨s.kind, s.out, [s.first, s.d, s.sn, s.rn], s.prm⟩
structure StC.ok (s : StC) (n : Int) : Prop where
  ho : 0 ≤ s.out ∧ s.out < n
  hf : 0 ≤ s.first ∧ s.first < n
  hd : 0 ≤ s.d ∧ s.d < n
  hs : 0 ≤ s.sn ∧ s.sn < n
  hr : 0 ≤ s.rn ∧ s.rn < n
  he : s.edge = 0 ∨ s.edge = 1
  hi : s.init = 0 ∨ s.init = 1
noncomputable def nextB (s : StC) (B : Int → Int) (last : Int) : Int :=
  if B s.rn ≠ 0 then 0 else if B s.sn ≠ 0 then 1 else if s.flop then (if B s.first ≠ last ∧ B s.first = s.edge then B s.d else B s.out) else (if B s.first ≠ 0 then B s.d else B s.out)
section
variable {c : Cx} {m : Loc} {led : List As} {P : Params} {k : Nat}
theorem next_ok (o : Ok c (Kt P) (k + 1)) {Vd : Addr} {n : Nat} {B : Int → Int} {s : StC} {last : Int} (hn : n < 1000) (hs : s.ok n) :
    Calls c (.ref 225) [s.row.v, .ref Vd, .int last] [.lst Vd (tab n B)] fun v led' => led' = [.lst Vd (tab n B)] ∧ v = .int (nextB s B last) := by
  have g1 := tab_get (B := B) hs.ho.1 hs.ho.2
  have g2 := tab_get (B := B) hs.hf.1 hs.hf.2
  have g3 := tab_get (B := B) hs.hd.1 hs.hd.2
  have g4 := tab_get (B := B) hs.hs.1 hs.hs.2
  have g5 := tab_get (B := B) hs.hr.1 hs.hr.2
  obtain ⟨⟨o1, o2⟩, ⟨f1, f2⟩, ⟨d1, d2⟩, ⟨s1, s2⟩, ⟨r1, r2⟩, he, hi⟩ := hs
  unfold nextB
  cases hfl : s.flop
  · have hrow : s.row.v = .tup [.str (S "latch"), .int s.out, .tup [.int s.first, .int s.d, .int s.sn, .int s.rn], .tup [.str s.name, .int s.init]] := by
      unfold Row.v StC.row StC.kind StC.prm; simp only [hfl]; rfl
    rw [hrow]
    refine in_next_bit o fun L o' => ?_
    intro KR hKR
    refine s_cons ?_
    repeat tb_rel
    refine ite_both (fun e1 => ?_) (fun e1 => ?_)
    · have e1 := of_decide_eq_true e1
      repeat tb_rel
      exact ⟨_, SubP.refl _, rfl, by rw [if_pos e1]⟩
    · have e1 := of_decide_eq_false e1
      repeat tb_rel
      refine ite_both (fun e2 => ?_) (fun e2 => ?_)
      · have e2 := of_decide_eq_true e2
        repeat tb_rel
        exact ⟨_, SubP.refl _, rfl, by rw [if_neg e1, if_pos e2]⟩
      · have e2 := of_decide_eq_false e2
        repeat tb_rel
        refine ite_both (fun e3 => ?_) (fun e3 => ?_)
        · have e3 := of_decide_eq_true e3
          repeat tb_rel
          exact ⟨_, SubP.refl _, rfl, by rw [if_neg e1, if_neg e2, if_neg (by decide), if_pos e3]⟩
        · have e3 := of_decide_eq_false e3
          repeat tb_rel
          exact ⟨_, SubP.refl _, rfl, by rw [if_neg e1, if_neg e2, if_neg (by decide), if_neg e3]⟩
  · have hrow : s.row.v = .tup [.str (S "flop"), .int s.out, .tup [.int s.first, .int s.d, .int s.sn, .int s.rn], .tup [.int s.edge, .str s.name, .int s.init]] := by
      unfold Row.v StC.row StC.kind StC.prm; simp only [hfl]; rfl
    rw [hrow]
    refine in_next_bit o fun L o' => ?_
    intro KR hKR
    refine s_cons ?_
    repeat tb_rel
    refine ite_both (fun e1 => ?_) (fun e1 => ?_)
    · have e1 := of_decide_eq_true e1
      repeat tb_rel
      exact ⟨_, SubP.refl _, rfl, by rw [if_pos e1]⟩
    · have e1 := of_decide_eq_false e1
      repeat tb_rel
      refine ite_both (fun e2 => ?_) (fun e2 => ?_)
      · have e2 := of_decide_eq_true e2
        repeat tb_rel
        exact ⟨_, SubP.refl _, rfl, by rw [if_neg e1, if_pos e2]⟩
      · have e2 := of_decide_eq_false e2
        repeat tb_rel
        refine ite_both (fun e3 => ?_) (fun e3 => ?_)
        · have e3 := of_decide_eq_true e3
          repeat tb_rel
          refine ite_both (fun e4 => ?_) (fun e4 => ?_)
          · have e4 := of_decide_eq_true e4
            repeat tb_rel
            exact ⟨_, SubP.refl _, rfl, by rw [if_neg e1, if_neg e2, if_pos rfl, if_pos ⟨e3, e4⟩]⟩
          · have e4 := of_decide_eq_false e4
            repeat tb_rel
            exact ⟨_, SubP.refl _, rfl, by rw [if_neg e1, if_neg e2, if_pos rfl, if_neg (fun h => e4 h.2)]⟩
        · have e3 := of_decide_eq_false e3
          repeat tb_rel
          exact ⟨_, SubP.refl _, rfl, by rw [if_neg e1, if_neg e2, if_pos rfl, if_neg (fun h => e3 h.1)]⟩
end
structure AtS (sts : List StC) (sidx : List Nat) (cells : List Row) : Prop where
  len : sidx.length = sts.length
  nd : sidx.Nodup
  at' : ∀ (j : Nat) (s : StC), sts[j]? = some s → ∃ i : Nat, sidx[j]? = some i ∧ cells[i]? = some s.row
noncomputable def LastR (sidx : List Nat) (g : Int → Option V) (lo : Nat → Option Int) : Prop := ∀ (j i : Nat), sidx[j]? = some i → g (i : Int) = (lo j).map V.int
noncomputable def noteC (sts : List StC) (lo : Nat → Option Int) (B : Int → Int) (j : Nat) : Bool := (List.range j).any fun x => match sts[x]? with
  | some s => s.flop && decide ((lo x).getD (B s.first) ≠ B s.first)
  | none => false
noncomputable def noteL (sts : List StC) (lo : Nat → Option Int) (B : Int → Int) (j : Nat) : Nat → Option Int := fun x => if x < j then (match sts[x]? with | some s => if s.flop then some (B s.first) else lo x | none => lo x) else lo x
theorem noteC_succ {sts : List StC} {lo : Nat → Option Int} {B : Int → Int} {j : Nat} {s : StC} (h : sts[j]? = some s) : noteC sts lo B (j + 1) = (noteC sts lo B j || (s.flop && decide ((lo j).getD (B s.first) ≠ B s.first))) := by
  unfold noteC; rw [List.range_succ, List.any_append]; simp [h]
theorem noteL_zero {sts : List StC} {lo : Nat → Option Int} {B : Int → Int} : noteL sts lo B 0 = lo := by funext x; unfold noteL; simp
theorem noteL_succ {sts : List StC} {lo : Nat → Option Int} {B : Int → Int} {j : Nat} {s : StC} (h : sts[j]? = some s) (x : Nat) : noteL sts lo B (j + 1) x = if x = j then (if s.flop then some (B s.first) else lo j) else noteL sts lo B j x := by
  unfold noteL
  by_cases e : x = j
  · subst e; rw [if_pos (by (first | lia | omega)), if_pos rfl, h]
  · rw [if_neg e]
    by_cases hx : x < j
    · rw [if_pos hx, if_pos (by (first | lia | omega))]
    · rw [if_neg hx, if_neg (by (first | lia | omega))]
theorem noteL_self {sts : List StC} {lo : Nat → Option Int} {B : Int → Int} {j : Nat} : noteL sts lo B j j = lo j := by unfold noteL; rw [if_neg (by (first | lia | omega))]
theorem LastR.put {sidx : List Nat} {g : Int → Option V} {lo lo' : Nat → Option Int} {j i : Nat} {b : Int} (h : LastR sidx g lo) (nd : sidx.Nodup) (hi : sidx[j]? = some i) (h1 : lo' j = some b) (h2 : ∀ x, x ≠ j → lo' x = lo x) : LastR sidx (putI i (.int b) g) lo' := fun x y hy => by
  unfold putI
  by_cases e : x = j
  · subst e; rw [hi] at hy; cases hy; rw [if_pos rfl, h1]; rfl
  · rw [if_neg (fun z => e ?_), h2 x e]; exact h x y hy
    have z : y = i := by (first | lia | omega)
    subst z
    have a := List.getElem?_eq_some_iff.mp hy
    have b := List.getElem?_eq_some_iff.mp hi
    exact (List.getElem_inj (h₀ := a.1) (h₁ := b.1) nd).mp (a.2.trans b.2.symm)
theorem flop_v {s : StC} (h : s.flop = true) : s.row.v = .tup [.str (S "flop"), .int s.out, .tup [.int s.first, .int s.d, .int s.sn, .int s.rn], .tup [.int s.edge, .str s.name, .int s.init]] := by
  unfold Row.v StC.row StC.kind StC.prm; simp only [h]; rfl
theorem latch_v {s : StC} (h : s.flop = false) : s.row.v = .tup [.str (S "latch"), .int s.out, .tup [.int s.first, .int s.d, .int s.sn, .int s.rn], .tup [.str s.name, .int s.init]] := by
  unfold Row.v StC.row StC.kind StC.prm; simp only [h]; rfl
theorem row_v {cells : List Row} {i : Nat} {r : Row} (h : cells[i]? = some r) : (cells.map Row.v)[(i : Int).toNat]? = some r.v := by
  rw [Int.toNat_natCast, List.getElem?_map, h]; rfl
section
variable {c : Cx} {m : Loc} {led : List As} {P : Params} {k : Nat}
theorem note_ok (o : Ok c (Kt P) (k + 1)) {W dW N dN I O Cl Od Sd Vd Ld : Addr} {nm : V} {n nl : Nat} {cells : List Row} {sts : List StC} {sidx : List Nat} {B : Int → Int} {g : Int → Option V} {lo : Nat → Option Int} (hn : n < 1000) (hc : cells.length < 1000) (hl : sts.length < 1000) (hnl : nl < 50000)
    (ha : AtS sts sidx cells) (hs : ∀ s ∈ sts, s.ok n) (hg : LastR sidx g lo) :
    Calls c (.ref 246) [.ref W] [.ins W dW 292 (simF N Od Sd Vd Ld), .ins N dN 160 (netF nm n I O Cl), .lst Cl (cells.map Row.v), .lst Sd (sidx.map fun (i : Nat) => .int i), .lst Vd (tab n B), .dic c.prog c.w Ld nl g]
      fun v led' => v = .bool (noteC sts lo B sts.length) ∧ X2 fun g' nl' => Cj4 (LastR sidx g' (noteL sts lo B sts.length)) (nl' ≤ nl + sts.length) (((∀ (j : Nat) (s : StC), sts[j]? = some s → s.flop = true → (lo j).isSome = true) → nl' = nl)) (led' = [.ins W dW 292 (simF N Od Sd Vd Ld), .ins N dN 160 (netF nm n I O Cl), .lst Cl (cells.map Row.v), .lst Sd (sidx.map fun (i : Nat) => .int i), .lst Vd (tab n B), .dic c.prog c.w Ld nl' g']) := by
  refine in_NetSim_note_clocks o fun L o' => ?_
  intro KR hKR
  refine s_cons ?_
  repeat tb_rel
  refine' ⟨_, _, _, .lst ?qs, fun j m led => X5 fun u1 u2 u3 g' nl' => Cj5 (m = [(S "self", some (.ref W)), (S "changed", some (.bool (noteC sts lo B j))), (S "index", u1), (S "cell", u2), (S "bit", u3)]) (led = [.ins W dW 292 (simF N Od Sd Vd Ld), .ins N dN 160 (netF nm n I O Cl), .lst Cl (cells.map Row.v), .lst Vd (tab n B), .dic c.prog c.w Ld nl' g']) (LastR sidx g' (noteL sts lo B j)) (nl' ≤ nl + j) (((∀ (j : Nat) (s : StC), sts[j]? = some s → s.flop = true → (lo j).isSome = true) → nl' = nl)), ?_, ?_, ?_⟩
  case qs => tb_start
  · exact ⟨_, SubP.refl _, _, _, _, g, nl, rfl, rfl, by rw [noteL_zero]; exact hg, Nat.le_refl _, fun _ => rfl⟩
  · rintro j v m led hv KX1 KX2 hX1 hX2 ⟨u1, u2, u3, g', nl', rfl, rfl, hg', h1, h2⟩
    rw [List.getElem?_map, Option.map_eq_some_iff] at hv
    obtain ⟨i, hi, rfl⟩ := hv
    have hj : j < sts.length := by rw [← ha.len]; exact (List.getElem?_eq_some_iff.mp hi).1
    have hsj : sts[j]? = some sts[j] := List.getElem?_eq_getElem hj
    have so := hs sts[j] (List.getElem_mem hj)
    obtain ⟨i', hi', hcr⟩ := ha.at' j sts[j] hsj
    rw [hi] at hi'
    cases hi'
    have hil : i < cells.length := (List.getElem?_eq_some_iff.mp hcr).1
    have hrow := row_v hcr
    have hgi := hg' j i hi
    rw [noteL_self] at hgi
    have e1 := noteC_succ (lo := lo) (B := B) hsj
    have e2 := noteL_succ (lo := lo) (B := B) hsj
    have h2j := fun hx => h2 hx
    have hlo : (∀ (j : Nat) (s : StC), sts[j]? = some s → s.flop = true → (lo j).isSome = true) → sts[j].flop = true → (lo j).isSome = true := fun hx => hx j _ hsj
    generalize sts[j] = s at *
    cases hfl : s.flop
    · rw [latch_v hfl] at hrow
      rw [hfl] at e1
      simp only [Bool.false_and, Bool.or_false] at e1
      repeat tb_rel
      refine ⟨_, SubP.refl _, _, _, _, g', nl', by rw [e1], rfl, ?_, by (first | lia | omega), h2⟩
      intro x y hy
      rw [e2 x, hg' x y hy]
      by_cases e : x = j
      · rw [if_pos e, hfl, if_neg (by decide), e, noteL_self]
      · rw [if_neg e]
    · rw [flop_v hfl] at hrow
      rw [hfl] at e1
      simp only [Bool.true_and] at e1
      have g1 := tab_get (B := B) so.hf.1 so.hf.2
      have f1 := so.hf.1
      have f2 := so.hf.2
      have hgd : (g' (i : Int)).getD (.int (B s.first)) = .int ((lo j).getD (B s.first)) := by rw [hgi]; cases lo j <;> rfl
      repeat tb_rel
      have fin1 : LastR sidx (putI (i : Int) (.int (B s.first)) g') (noteL sts lo B (j + 1)) := hg'.put ha.nd hi (by rw [e2, if_pos rfl, if_pos hfl]) fun x hx => by rw [e2, if_neg hx]
      have fin2 : (if (g' (i : Int)).isSome = true then nl' else nl' + 1) ≤ nl + (j + 1) := by split <;> (first | lia | omega)
      have fin3 : (∀ (j : Nat) (s : StC), sts[j]? = some s → s.flop = true → (lo j).isSome = true) → (if (g' (i : Int)).isSome = true then nl' else nl' + 1) = nl := fun hx => by
        rw [if_pos (by rw [hgi, Option.isSome_map]; exact hlo hx hfl)]; exact h2 hx
      refine ite_both (fun e => ?_) (fun e => ?_)
      · repeat tb_rel
        exact ⟨_, SubP.refl _, _, _, _, _, _, by rw [e1, e, Bool.or_true], rfl, fin1, fin2, fin3⟩
      · repeat tb_rel
        exact ⟨_, SubP.refl _, _, _, _, _, _, by rw [e1, e, Bool.or_false], rfl, fin1, fin2, fin3⟩
  · rintro m led ⟨u1, u2, u3, g', nl', rfl, rfl, hg', h1, h2⟩
    rw [List.length_map, ha.len] at *
    repeat tb_rel
    exact ⟨_, .cons (.tail .head) (.cons (.tail .head) (.cons (.tail .head) (.cons .head (.cons .head (.cons .head (.nil _)))))), rfl, g', nl', hg', h1, h2, rfl⟩
end
noncomputable def foundL (sts : List StC) (lo : Nat → Option Int) (B : Int → Int) : List (Int × Int) := sts.zipIdx.map fun p => (p.1.out, nextB p.1 B ((lo p.2).getD 0))
noncomputable def setOuts (B : Int → Int) (l : List (Int × Int)) : Int → Int := l.foldl (fun B p => upd B p.1 p.2) B
noncomputable def diffs (B : Int → Int) (l : List (Int × Int)) : Bool := l.any fun p => decide (B p.1 ≠ p.2)
noncomputable def pairV (p : Int × Int) : V := .tup [.int p.1, .int p.2]
theorem foundL_len (sts : List StC) (lo : Nat → Option Int) (B : Int → Int) : (foundL sts lo B).length = sts.length := by simp [foundL]
theorem foundL_get {sts : List StC} {lo : Nat → Option Int} {B : Int → Int} {j : Nat} {s : StC} (h : sts[j]? = some s) : (foundL sts lo B)[j]? = some (s.out, nextB s B ((lo j).getD 0)) := by
  unfold foundL; rw [List.getElem?_map, List.getElem?_zipIdx, h]; simp
theorem foundL_outs (sts : List StC) (lo : Nat → Option Int) (B : Int → Int) : (foundL sts lo B).map (·.1) = sts.map (·.out) := by
  apply List.ext_getElem?
  intro j
  rw [List.getElem?_map, List.getElem?_map]
  cases h : sts[j]? with
  | none => rw [List.getElem?_eq_none (by rw [foundL_len]; exact List.getElem?_eq_none_iff.mp h)]; rfl
  | some s => rw [foundL_get h]; rfl
theorem setOuts_snoc (B : Int → Int) (l : List (Int × Int)) (p : Int × Int) : setOuts B (l ++ [p]) = upd (setOuts B l) p.1 p.2 := by unfold setOuts; rw [List.foldl_append]; rfl
theorem setOuts_other {B : Int → Int} {l : List (Int × Int)} {x : Int} (h : x ∉ l.map (·.1)) : setOuts B l x = B x := by
  induction l generalizing B with
  | nil => rfl
  | cons p l ih =>
    rw [List.map_cons, List.mem_cons, not_or] at h
    show setOuts (upd B p.1 p.2) l x = B x
    rw [ih h.2]; unfold upd; rw [if_neg h.1]
theorem upd_same {B : Int → Int} {k v : Int} (h : B k = v) : upd B k v = B := by
  funext x; unfold upd; split
  · rename_i e; rw [e, h]
  · rfl
theorem diffs_snoc (B : Int → Int) (l : List (Int × Int)) (p : Int × Int) : diffs B (l ++ [p]) = (diffs B l || decide (B p.1 ≠ p.2)) := by unfold diffs; rw [List.any_append]; simp
theorem nextB_bit {s : StC} {B : Int → Int} (h : Bits B) (last : Int) : nextB s B last = 0 ∨ nextB s B last = 1 := by
  unfold nextB
  repeat' split
  all_goals first | exact .inl rfl | exact .inr rfl | exact h _
theorem nd_take {l : List (Int × Int)} (nd : (l.map (·.1)).Nodup) {j : Nat} {p : Int × Int} (h : l[j]? = some p) : p.1 ∉ (l.take j).map (·.1) := by
  have e := take_snoc h
  have : ((l.take (j + 1)).map (·.1)).Nodup := nd.sublist ((List.take_sublist _ _).map _)
  rw [e, List.map_append, List.map_cons, List.map_nil] at this
  intro q
  exact (List.nodup_append.mp this).2.2 _ q _ (.head _) rfl
section
variable {c : Cx} {m : Loc} {led : List As} {P : Params} {k : Nat}
theorem turn_ok (o : Ok c (Kt P) (k + 1 + 1 + 1 + 1)) {W dW N dN I O Cl Od Sd Vd Ld : Addr} {nm : V} {n nl : Nat} {cells : List Row} {sts : List StC} {sidx order : List Nat} {rows : List Row} {B : Int → Int} {g : Int → Option V} {lo : Nat → Option Int} (hn : n < 1000) (hc : cells.length < 1000) (hl : sts.length < 1000) (hnl : nl < 50000)
    (ha : AtS sts sidx cells) (hs : ∀ s ∈ sts, s.ok n) (hg : LastR sidx g lo) (hB : Bits B) (hnd : (sts.map (·.out)).Nodup)
    (hlen : order.length = rows.length) (hl2 : rows.length < 1000) (hord : ∀ (j : Nat) (r : Row), rows[j]? = some r → ∃ i : Nat, order[j]? = some i ∧ cells[i]? = some r) (hgr : ∀ r ∈ rows, r.gate n) :
    Calls c (.ref 260) [.ref W] [.ins W dW 292 (simF N Od Sd Vd Ld), .ins N dN 160 (netF nm n I O Cl), .lst Cl (cells.map Row.v), .lst Od (order.map fun (i : Nat) => .int i), .lst Sd (sidx.map fun (i : Nat) => .int i), .lst Vd (tab n B), .dic c.prog c.w Ld nl g]
      fun v led' => v = .bool (noteC sts lo (evalRows B rows) sts.length || diffs (evalRows B rows) (foundL sts lo (evalRows B rows))) ∧ X2 fun g' nl' => Cj4 (LastR sidx g' (noteL sts lo (evalRows B rows) sts.length)) (nl' ≤ nl + sts.length) (((∀ (j : Nat) (s : StC), sts[j]? = some s → s.flop = true → (lo j).isSome = true) → nl' = nl)) (led' = [.ins W dW 292 (simF N Od Sd Vd Ld), .ins N dN 160 (netF nm n I O Cl), .lst Cl (cells.map Row.v), .lst Od (order.map fun (i : Nat) => .int i), .lst Sd (sidx.map fun (i : Nat) => .int i), .lst Vd (tab n (setOuts (evalRows B rows) (foundL sts lo (evalRows B rows)))), .dic c.prog c.w Ld nl' g']) := by
  refine in_NetSim_turn o fun L o' => ?_
  intro KR hKR
  refine s_cons ?_
  repeat tb_rel
  refine Calls.go (evalc_ok (k := k) o' hn hB hc hlen hl2 hord hgr) (.cons (by tb_start) (.cons (by tb_start) (.cons (by tb_start) (.cons (by tb_start) .nil)))) ?_
  rintro v led' ⟨rfl, rfl⟩
  refine ⟨_, .cons (.cons (.cons (.cons .nil))), ?_⟩
  have hB1 := hB.rows rows
  generalize evalRows B rows = B1 at *
  repeat tb_rel
  intro F
  repeat tb_rel
  refine' ⟨_, _, _, .lst ?qs, fun j m led => X2 fun u1 u2 => m = [(S "self", some (.ref W)), (S "cells", some (.ref Cl)), (S "found", some (.ref F)), (S "index", u1), (S "last", u2), (S "changed", none), (S "out", none), (S "bit", none)] ∧ led = [.lst F (((foundL sts lo B1).take j).map pairV), .ins N dN 160 (netF nm n I O Cl), .lst Cl (cells.map Row.v), .lst Od (order.map fun (i : Nat) => .int i), .lst Vd (tab n B1), .ins W dW 292 (simF N Od Sd Vd Ld), .dic c.prog c.w Ld nl g], ?_, ?_, ?_⟩
  case qs => tb_start
  · exact ⟨_, SubP.refl _, _, _, rfl, rfl⟩
  · rintro j v m led hv KX1 KX2 hX1 hX2 ⟨u1, u2, rfl, rfl⟩
    rw [List.getElem?_map, Option.map_eq_some_iff] at hv
    obtain ⟨i, hi, rfl⟩ := hv
    have hj : j < sts.length := by rw [← ha.len]; exact (List.getElem?_eq_some_iff.mp hi).1
    have hsj : sts[j]? = some sts[j] := List.getElem?_eq_getElem hj
    have so := hs sts[j] (List.getElem_mem hj)
    obtain ⟨i', hi', hcr⟩ := ha.at' j sts[j] hsj
    rw [hi] at hi'
    cases hi'
    have hil : i < cells.length := (List.getElem?_eq_some_iff.mp hcr).1
    have hrow := row_v hcr
    have hgi := hg j i hi
    have hgd : (g (i : Int)).getD (.int 0) = .int ((lo j).getD 0) := by rw [hgi]; cases lo j <;> rfl
    have e1 := take_snoc (foundL_get (lo := lo) (B := B1) hsj)
    generalize sts[j] = s at *
    have hsv : s.row.v = .tup [.str s.kind, .int s.out, .tup [.int s.first, .int s.d, .int s.sn, .int s.rn], s.prm] := rfl
    have nx := next_ok (k := k + 1 + 1) (P := P) (Vd := Vd) (B := B1) (last := (lo j).getD 0) o' hn so
    rw [hsv] at hrow nx
    have hfl : (((foundL sts lo B1).take j).map pairV).length ≤ 100000 := by rw [List.length_map, List.length_take]; have := foundL_len sts lo B1; (first | lia | omega)
    repeat tb_rel
    refine Calls.same nx (.cons (by tb_start) .nil) ?_
    rintro v rfl
    repeat tb_rel
    exact ⟨_, SubP.refl _, _, _, rfl, by rw [e1, List.map_append]; rfl⟩
  · rintro m led ⟨u1, u2, rfl, rfl⟩
    rw [List.length_map, ha.len, List.take_of_length_le (by rw [foundL_len]; exact Nat.le_refl _)]
    repeat tb_rel
    refine Calls.go (note_ok (k := k + 1 + 1) (P := P) o' hn hc hl hnl ha hs hg) (.cons (by tb_start) (.cons (by tb_start) (.cons (by tb_start) (.cons (by tb_start) (.cons (by tb_start) (.cons (by tb_start) .nil)))))) ?_
    rintro v led' ⟨rfl, g', nl', hg', hn1, hn2, rfl⟩
    refine ⟨_, .cons (.cons (.cons (.cons (.cons (.cons .nil))))), ?_⟩
    have hfn := foundL_outs sts lo B1
    have hfb : ∀ p ∈ foundL sts lo B1, p.2 = 0 ∨ p.2 = 1 := fun p hp => by
      obtain ⟨q, _, rfl⟩ := List.mem_map.mp hp
      exact nextB_bit hB1 _
    have hfo : ∀ p ∈ foundL sts lo B1, 0 ≤ p.1 ∧ p.1 < n := fun p hp => by
      obtain ⟨q, hq, rfl⟩ := List.mem_map.mp hp
      exact (hs q.1 (by obtain ⟨h1, h2⟩ := List.mem_zipIdx' hq; rw [h2]; exact List.getElem_mem h1)).ho
    rw [← hfn] at hnd
    generalize foundL sts lo B1 = Lf at *
    generalize noteC sts lo B1 sts.length = nc at *
    repeat tb_rel
    refine' ⟨_, _, _, .lst ?qs, fun j m led => X2 fun u3 u4 => m = [(S "self", some (.ref W)), (S "cells", some (.ref Cl)), (S "found", some (.ref F)), (S "index", u1), (S "last", u2), (S "changed", some (.bool (nc || diffs B1 (Lf.take j)))), (S "out", u3), (S "bit", u4)] ∧ led = [.ins W dW 292 (simF N Od Sd Vd Ld), .ins N dN 160 (netF nm n I O Cl), .lst Cl (cells.map Row.v), .lst Sd (sidx.map fun (i : Nat) => .int i), .lst Vd (tab n (setOuts B1 (Lf.take j))), .dic c.prog c.w Ld nl' g', .lst Od (order.map fun (i : Nat) => .int i)], ?_, ?_, ?_⟩
    case qs => tb_start
    · exact ⟨_, SubP.refl _, _, _, by rw [List.take_zero]; unfold diffs; rw [List.any_nil, Bool.or_false], rfl⟩
    · rintro j v m led hv KX1 KX2 hX1 hX2 ⟨u3, u4, rfl, rfl⟩
      rw [List.getElem?_map, Option.map_eq_some_iff] at hv
      obtain ⟨p, hp, rfl⟩ := hv
      have hpo := hfo p (List.mem_of_getElem? hp)
      have hnt := nd_take hnd hp
      have hso := setOuts_other (B := B1) hnt
      have e1 := take_snoc hp
      have e2 := diffs_snoc B1 (Lf.take j) p
      have e3 := setOuts_snoc B1 (Lf.take j) p
      obtain ⟨po, pb⟩ := p
      dsimp only at hpo hso e2 e3
      obtain ⟨p1, p2⟩ := hpo
      have hgv := tab_get (B := setOuts B1 (Lf.take j)) p1 p2
      have hlv := tab_len n (setOuts B1 (Lf.take j))
      rw [hso] at hgv
      unfold pairV
      dsimp only
      repeat tb_rel
      refine ite_both (fun e => ?_) (fun e => ?_)
      · repeat tb_rel
        rw [tab_set p1 p2]
        exact ⟨_, SubP.refl _, _, _, by rw [e1, e2, e, Bool.or_true, Bool.or_true], by rw [e1, e3]⟩
      · repeat tb_rel
        have e4 := of_decide_eq_false e
        rw [Decidable.not_not] at e4
        exact ⟨_, SubP.refl _, _, _, by rw [e1, e2, e, Bool.or_false], by rw [e1, e3, upd_same (hso.trans e4)]⟩
    · rintro m led ⟨u3, u4, rfl, rfl⟩
      rw [List.length_map, List.take_of_length_le (Nat.le_refl _)]
      repeat tb_rel
      exact ⟨_, .cons (.tail .head) (.cons (.tail .head) (.cons (.tail .head) (.cons (.tail (.tail (.tail (.tail .head)))) (.cons (.tail .head) (.cons (.tail .head) (.cons (.tail .head) (.nil _))))))), rfl, g', nl', hg', hn1, hn2, rfl⟩
end
noncomputable def lawN (s : StC) (B : Int → Int) (ck : Int) : Int :=
  let b1 := if s.flop = false ∧ B s.first = 1 then B s.d else B s.out
  let b2 := if s.flop = true ∧ ck = 1 - s.edge ∧ B s.first = s.edge then B s.d else b1
  let b3 := if B s.sn = 1 then 1 else b2
  if B s.rn = 1 then 0 else b3
noncomputable def lawF (sts : List StC) (CK B : Int → Int) : List (Int × Int) := sts.map fun s => (s.out, lawN s B (CK s.out))
noncomputable def lawK (sts : List StC) (B : Int → Int) : List (Int × Int) := sts.map fun s => (s.out, B s.first)
noncomputable def lawS (l : List StC) (CK B : Int → Int) : Bool := l.any fun s => decide (B s.out ≠ lawN s B (CK s.out)) || (s.flop && decide (CK s.out ≠ B s.first))
structure InD (s : StC) (dom : Int → Prop) : Prop where
  ho : dom s.out
  hf : dom s.first
  hd : dom s.d
  hs : dom s.sn
  hr : dom s.rn
section
variable {c : Cx} {m : Loc} {led : List As} {P : Params} {k : Nat}
theorem lturn_ok (o : Ok c (Kt P) (k + 1 + 1 + 1)) {Rw St Bd Kd : Addr} {n : Nat} {rows : List Row} {sts : List StC} {B CK : Int → Int} {f ck : Int → Option V} {nb nk : Nat} {dom : Int → Prop} (hB : Bits B) (hl : rows.length < 1000) (hl2 : sts.length < 1000) (hg : ∀ r ∈ rows, r.gate n) (hnb : nb < 50000) (hnk : nk < 50000)
    (hR : Rep f dom B) (hd : ∀ r ∈ rows, dom r.out ∧ ∀ x ∈ r.ins, dom x) (hK : Rep ck (fun x => ∃ s ∈ sts, s.out = x) CK) (hs : ∀ s ∈ sts, InD s dom) (hnd : (sts.map (·.out)).Nodup) :
    Calls c (.ref 322) [.ref Rw, .ref St, .ref Bd, .ref Kd] [.lst Rw (rows.map Row.v), .lst St (sts.map fun s => s.row.v), .dic c.prog c.w Bd nb f, .dic c.prog c.w Kd nk ck]
      fun v led' => v = .bool (lawS sts CK (evalRows B rows)) ∧ X2 fun f' ck' => Cj3 (Rep f' dom (setOuts (evalRows B rows) (lawF sts CK (evalRows B rows)))) (Rep ck' (fun x => ∃ s ∈ sts, s.out = x) (setOuts CK (lawK sts (evalRows B rows)))) (led' = [.lst Rw (rows.map Row.v), .lst St (sts.map fun s => s.row.v), .dic c.prog c.w Bd nb f', .dic c.prog c.w Kd nk ck']) := by
  refine in_law_turn o fun L o' hcells => ?_
  intro KR hKR
  refine s_cons ?_
  repeat tb_rel
  refine Calls.go (gates_ok (k := k) (P := P) o' hB hl hg hnb hR (fun j r hr x hx => .inl ((hd r (List.mem_of_getElem? hr)).2 x hx))) (.cons (by tb_start) (.cons (by tb_start) .nil)) ?_
  rintro v led' ⟨rfl, f', nb', hR', _, hnb2, rfl⟩
  have hnb2 := hnb2 fun r hr => (hd r hr).1
  subst hnb2
  have hR1 : Rep f' dom (evalRows B rows) := hR'.sub fun x h => .inl h
  clear hR' hR
  refine ⟨_, .cons (.cons .nil), ?_⟩
  have hB1 := hB.rows rows
  generalize evalRows B rows = B1 at *
  repeat tb_rel
  intro F
  repeat tb_rel
  have hlf : (lawF sts CK B1).length = sts.length := by simp [lawF]
  refine' ⟨_, _, _, .lst ?qs, fun j m led => X5 fun u1 u2 u3 u4 u5 => m = [(S "rows", some (.ref Rw)), (S "states", some (.ref St)), (S "clocks", some (.ref Kd)), (S "found", some (.ref F)), (S "kind", u1), (S "out", u2), (S "ins", u3), (S "param", u4), (S "bit", u5), (S "stirred", none), (S "nows", none), (S "spot", none), (S "now", none)] ∧ led = [.lst F (((lawF sts CK B1).take j).map fun p => .int p.2), .lst Rw (rows.map Row.v), .dic c.prog c.w Bd nb' f', .cel (L + 1) (some (.ref Bd)), .dic c.prog c.w Kd nk ck], ?_, ?_, ?_⟩
  case qs => tb_start
  · exact ⟨_, SubP.refl _, _, _, _, _, _, rfl, rfl⟩
  · rintro j v m led hv KX1 KX2 hX1 hX2 ⟨u1, u2, u3, u4, u5, rfl, rfl⟩
    rw [List.getElem?_map, Option.map_eq_some_iff] at hv
    obtain ⟨s, hsj, rfl⟩ := hv
    have hj : j < sts.length := (List.getElem?_eq_some_iff.mp hsj).1
    have sm := List.mem_of_getElem? hsj
    have sd := hs s sm
    have g1 := hR1 _ sd.ho
    have g2 := hR1 _ sd.hf
    have g3 := hR1 _ sd.hd
    have g4 := hR1 _ sd.hs
    have g5 := hR1 _ sd.hr
    have g6 := hK s.out ⟨s, sm, rfl⟩
    have e1 : (lawF sts CK B1).take (j + 1) = (lawF sts CK B1).take j ++ [(s.out, lawN s B1 (CK s.out))] := take_snoc (by unfold lawF; rw [List.getElem?_map, hsj]; rfl)
    have hfl2 : (((lawF sts CK B1).take j).map fun p : Int × Int => V.int p.2).length ≤ 100000 := by rw [List.length_map, List.length_take]; (first | lia | omega)
    cases hfl : s.flop
    · rw [latch_v hfl]
      iterate 14 tb_rel
      refine s_join (M := [(S "rows", some (.ref Rw)), (S "states", some (.ref St)), (S "clocks", some (.ref Kd)), (S "found", some (.ref F)), (S "kind", some (.str (S "latch"))), (S "out", some (.int s.out)), (S "ins", some (.tup [.int s.first, .int s.d, .int s.sn, .int s.rn])), (S "param", some (.tup [.str s.name, .int s.init])), (S "bit", some (.int (if B1 s.first = 1 then B1 s.d else B1 s.out))), (S "stirred", none), (S "nows", none), (S "spot", none), (S "now", none)]) ?_ ?_
      · repeat tb_rel
        refine ite_both (fun a => ?_) (fun a => ?_)
        · repeat tb_rel
          exact ⟨rfl, by rw [if_pos (of_decide_eq_true a)], rfl⟩
        · repeat tb_rel
          exact ⟨rfl, by rw [if_neg (of_decide_eq_false a)], rfl⟩
      refine s_join (M := [(S "rows", some (.ref Rw)), (S "states", some (.ref St)), (S "clocks", some (.ref Kd)), (S "found", some (.ref F)), (S "kind", some (.str (S "latch"))), (S "out", some (.int s.out)), (S "ins", some (.tup [.int s.first, .int s.d, .int s.sn, .int s.rn])), (S "param", some (.tup [.str s.name, .int s.init])), (S "bit", some (.int (if B1 s.first = 1 then B1 s.d else B1 s.out))), (S "stirred", none), (S "nows", none), (S "spot", none), (S "now", none)]) ?_ ?_
      · repeat tb_rel
        exact ⟨rfl, rfl, rfl⟩
      generalize hb2 : (if B1 s.first = 1 then B1 s.d else B1 s.out) = b2
      refine s_join (M := [(S "rows", some (.ref Rw)), (S "states", some (.ref St)), (S "clocks", some (.ref Kd)), (S "found", some (.ref F)), (S "kind", some (.str (S "latch"))), (S "out", some (.int s.out)), (S "ins", some (.tup [.int s.first, .int s.d, .int s.sn, .int s.rn])), (S "param", some (.tup [.str s.name, .int s.init])), (S "bit", some (.int (if B1 s.sn = 1 then 1 else b2))), (S "stirred", none), (S "nows", none), (S "spot", none), (S "now", none)]) ?_ ?_
      · repeat tb_rel
        refine ite_both (fun a => ?_) (fun a => ?_)
        · repeat tb_rel
          exact ⟨rfl, by rw [if_pos (of_decide_eq_true a)], rfl⟩
        · repeat tb_rel
          exact ⟨rfl, by rw [if_neg (of_decide_eq_false a)], rfl⟩
      generalize hb3 : (if B1 s.sn = 1 then 1 else b2) = b3
      refine s_join (M := [(S "rows", some (.ref Rw)), (S "states", some (.ref St)), (S "clocks", some (.ref Kd)), (S "found", some (.ref F)), (S "kind", some (.str (S "latch"))), (S "out", some (.int s.out)), (S "ins", some (.tup [.int s.first, .int s.d, .int s.sn, .int s.rn])), (S "param", some (.tup [.str s.name, .int s.init])), (S "bit", some (.int (if B1 s.rn = 1 then 0 else b3))), (S "stirred", none), (S "nows", none), (S "spot", none), (S "now", none)]) ?_ ?_
      · repeat tb_rel
        refine ite_both (fun a => ?_) (fun a => ?_)
        · repeat tb_rel
          exact ⟨rfl, by rw [if_pos (of_decide_eq_true a)], rfl⟩
        · repeat tb_rel
          exact ⟨rfl, by rw [if_neg (of_decide_eq_false a)], rfl⟩
      repeat tb_rel
      refine ⟨_, SubP.refl _, _, _, _, _, _, rfl, ?_⟩
      have q : lawN s B1 (CK s.out) = if B1 s.rn = 1 then 0 else b3 := by
        rw [← hb3, ← hb2]
        unfold lawN
        simp [hfl]
      rw [e1, q, List.map_append]; rfl
    · rw [flop_v hfl]
      iterate 14 tb_rel
      refine s_join (M := [(S "rows", some (.ref Rw)), (S "states", some (.ref St)), (S "clocks", some (.ref Kd)), (S "found", some (.ref F)), (S "kind", some (.str (S "flop"))), (S "out", some (.int s.out)), (S "ins", some (.tup [.int s.first, .int s.d, .int s.sn, .int s.rn])), (S "param", some (.tup [.int s.edge, .str s.name, .int s.init])), (S "bit", some (.int (B1 s.out))), (S "stirred", none), (S "nows", none), (S "spot", none), (S "now", none)]) ?_ ?_
      · repeat tb_rel
        exact ⟨rfl, rfl, rfl⟩
      refine s_join (M := [(S "rows", some (.ref Rw)), (S "states", some (.ref St)), (S "clocks", some (.ref Kd)), (S "found", some (.ref F)), (S "kind", some (.str (S "flop"))), (S "out", some (.int s.out)), (S "ins", some (.tup [.int s.first, .int s.d, .int s.sn, .int s.rn])), (S "param", some (.tup [.int s.edge, .str s.name, .int s.init])), (S "bit", some (.int (if CK s.out = 1 - s.edge ∧ B1 s.first = s.edge then B1 s.d else B1 s.out))), (S "stirred", none), (S "nows", none), (S "spot", none), (S "now", none)]) ?_ ?_
      · repeat tb_rel
        refine ite_both (fun a0 => ?_) (fun a0 => ?_)
        · repeat tb_rel
          refine ite_both (fun a => ?_) (fun a => ?_)
          · repeat tb_rel
            exact ⟨rfl, by rw [if_pos ⟨of_decide_eq_true a0, of_decide_eq_true a⟩], rfl⟩
          · repeat tb_rel
            exact ⟨rfl, by rw [if_neg fun z => of_decide_eq_false a z.2], rfl⟩
        · repeat tb_rel
          exact ⟨rfl, by rw [if_neg fun z => of_decide_eq_false a0 z.1], rfl⟩
      generalize hb2 : (if CK s.out = 1 - s.edge ∧ B1 s.first = s.edge then B1 s.d else B1 s.out) = b2
      refine s_join (M := [(S "rows", some (.ref Rw)), (S "states", some (.ref St)), (S "clocks", some (.ref Kd)), (S "found", some (.ref F)), (S "kind", some (.str (S "flop"))), (S "out", some (.int s.out)), (S "ins", some (.tup [.int s.first, .int s.d, .int s.sn, .int s.rn])), (S "param", some (.tup [.int s.edge, .str s.name, .int s.init])), (S "bit", some (.int (if B1 s.sn = 1 then 1 else b2))), (S "stirred", none), (S "nows", none), (S "spot", none), (S "now", none)]) ?_ ?_
      · repeat tb_rel
        refine ite_both (fun a => ?_) (fun a => ?_)
        · repeat tb_rel
          exact ⟨rfl, by rw [if_pos (of_decide_eq_true a)], rfl⟩
        · repeat tb_rel
          exact ⟨rfl, by rw [if_neg (of_decide_eq_false a)], rfl⟩
      generalize hb3 : (if B1 s.sn = 1 then 1 else b2) = b3
      refine s_join (M := [(S "rows", some (.ref Rw)), (S "states", some (.ref St)), (S "clocks", some (.ref Kd)), (S "found", some (.ref F)), (S "kind", some (.str (S "flop"))), (S "out", some (.int s.out)), (S "ins", some (.tup [.int s.first, .int s.d, .int s.sn, .int s.rn])), (S "param", some (.tup [.int s.edge, .str s.name, .int s.init])), (S "bit", some (.int (if B1 s.rn = 1 then 0 else b3))), (S "stirred", none), (S "nows", none), (S "spot", none), (S "now", none)]) ?_ ?_
      · repeat tb_rel
        refine ite_both (fun a => ?_) (fun a => ?_)
        · repeat tb_rel
          exact ⟨rfl, by rw [if_pos (of_decide_eq_true a)], rfl⟩
        · repeat tb_rel
          exact ⟨rfl, by rw [if_neg (of_decide_eq_false a)], rfl⟩
      repeat tb_rel
      refine ⟨_, SubP.refl _, _, _, _, _, _, rfl, ?_⟩
      have q : lawN s B1 (CK s.out) = if B1 s.rn = 1 then 0 else b3 := by
        rw [← hb3, ← hb2]
        unfold lawN
        simp [hfl]
      rw [e1, q, List.map_append]; rfl
  · rintro m led ⟨u1, u2, u3, u4, u5, rfl, rfl⟩
    rw [List.length_map, List.take_of_length_le (Nat.le_of_eq hlf)]
    repeat tb_rel
    refine' ⟨_, _, _, .lst ?qs, ?hz, fun i us led => us = (sts.take i).map (fun s => V.int (B1 s.first)) ∧ led = [.lst F ((lawF sts CK B1).map fun p => .int p.2), .lst Rw (rows.map Row.v), .dic c.prog c.w Bd nb' f', .cel (L + 1) (some (.ref Bd)), .dic c.prog c.w Kd nk ck], ?_, ?_, ?_⟩
    case qs => tb_start
    case hz => rw [List.length_map]; (first | lia | omega)
    · exact ⟨_, SubP.refl _, rfl, rfl⟩
    · rintro i v us led C hv KE hKE ⟨rfl, rfl⟩
      rw [List.getElem?_map, Option.map_eq_some_iff] at hv
      obtain ⟨s, hsj, rfl⟩ := hv
      have g2 := hR1 _ (hs s (List.mem_of_getElem? hsj)).hf
      rw [show s.row.v = .tup [.str s.kind, .int s.out, .tup [.int s.first, .int s.d, .int s.sn, .int s.rn], s.prm] from rfl]
      refine comp_in o' rfl fun o'' => ?_
      repeat tb_rel
      exact ⟨⟨_, rfl⟩, _, SubP.refl _, by rw [take_snoc hsj, List.map_append]; rfl, rfl⟩
    · rintro us led ⟨rfl, rfl⟩ D
      rw [List.length_map, List.take_of_length_le (Nat.le_refl _)]
      repeat tb_rel
      have hlk : (lawK sts B1).length = sts.length := by simp [lawK]
      have ndF : ((lawF sts CK B1).map (·.1)).Nodup := by unfold lawF; rw [List.map_map]; exact hnd
      have ndK : ((lawK sts B1).map (·.1)).Nodup := by unfold lawK; rw [List.map_map]; exact hnd
      refine ⟨_, _, _, .rng (by (first | lia | omega)) (by simp; (first | lia | omega)), fun j m led => X9 fun u1 u2 u3 u4 u5 u6 u7 ff kk => Cj4 (m = [(S "rows", some (.ref Rw)), (S "states", some (.ref St)), (S "clocks", some (.ref Kd)), (S "found", some (.ref F)), (S "kind", u1), (S "out", u2), (S "ins", u3), (S "param", u4), (S "bit", u5), (S "stirred", some (.bool (lawS (sts.take j) CK B1))), (S "nows", some (.ref D)), (S "spot", u6), (S "now", u7)]) (led = [.lst St (sts.map fun s => s.row.v), .lst D (sts.map fun s => V.int (B1 s.first)), .lst F ((lawF sts CK B1).map fun p => .int p.2), .lst Rw (rows.map Row.v), .dic c.prog c.w Bd nb' ff, .cel (L + 1) (some (.ref Bd)), .dic c.prog c.w Kd nk kk]) (Rep ff dom (setOuts B1 ((lawF sts CK B1).take j))) (Rep kk (fun x => ∃ s ∈ sts, s.out = x) (setOuts CK ((lawK sts B1).take j))), ?_, ?_, ?_⟩
      · exact ⟨_, SubP.refl _, _, _, _, _, _, _, _, _, _, rfl, rfl, hR1, hK⟩
      · rintro j v m led hv KX1 KX2 hX1 hX2 ⟨u1, u2, u3, u4, u5, u6, u7, ff, kk, rfl, rfl, hff, hkk⟩
        obtain ⟨rfl, hi⟩ := rngV_get hv
        have hj : j < sts.length := by simpa using hi
        have hsj : sts[j]? = some sts[j] := List.getElem?_eq_getElem hj
        have sm := List.getElem_mem hj
        have eF : (lawF sts CK B1)[j]? = some (sts[j].out, lawN sts[j] B1 (CK sts[j].out)) := by unfold lawF; rw [List.getElem?_map, hsj]; rfl
        have eK : (lawK sts B1)[j]? = some (sts[j].out, B1 sts[j].first) := by unfold lawK; rw [List.getElem?_map, hsj]; rfl
        have eS := take_snoc hsj
        have h1 : (sts.map fun s => s.row.v)[((j : Nat) : Int).toNat]? = some sts[j].row.v := by simp [hj]
        have h2 : (sts.map fun s => V.int (B1 s.first))[((j : Nat) : Int).toNat]? = some (V.int (B1 sts[j].first)) := by simp [hj]
        have h3 : ((lawF sts CK B1).map fun p : Int × Int => V.int p.2)[((j : Nat) : Int).toNat]? = some (V.int (lawN sts[j] B1 (CK sts[j].out))) := by rw [Int.toNat_natCast, List.getElem?_map, eF]; rfl
        generalize sts[j] = s at *
        have g1 : ff s.out = some (.int (B1 s.out)) := (hff s.out (hs s sm).ho).trans (by rw [setOuts_other (nd_take ndF eF)])
        have g2 : kk s.out = some (.int (CK s.out)) := (hkk s.out ⟨s, sm, rfl⟩).trans (by rw [setOuts_other (nd_take ndK eK)])
        have fF : Rep (putI s.out (.int (lawN s B1 (CK s.out))) ff) dom (setOuts B1 ((lawF sts CK B1).take (j + 1))) := by
          rw [take_snoc eF, setOuts_snoc]; exact (hff.put _ _).sub fun x h => .inl h
        have fK : Rep (putI s.out (.int (B1 s.first)) kk) (fun x => ∃ s ∈ sts, s.out = x) (setOuts CK ((lawK sts B1).take (j + 1))) := by
          rw [take_snoc eK, setOuts_snoc]; exact (hkk.put _ _).sub fun x h => .inl h
        have q1 : (if (ff s.out).isSome = true then nb' else nb' + 1) = nb' := by rw [g1]; rfl
        have q2 : (if (kk s.out).isSome = true then nk else nk + 1) = nk := by rw [g2]; rfl
        have hb : lawS (sts.take (j + 1)) CK B1 = (lawS (sts.take j) CK B1 || (decide (B1 s.out ≠ lawN s B1 (CK s.out)) || (s.flop && decide (CK s.out ≠ B1 s.first)))) := by
          rw [eS]; unfold lawS; rw [List.any_append]; simp
        cases hfl : s.flop
        · rw [latch_v hfl] at h1
          rw [hfl] at hb
          repeat tb_rel
          refine ite_both (fun a1 => ?_) (fun a1 => ?_)
          · repeat tb_rel
            rw [q1, q2]
            exact ⟨_, SubP.refl _, _, _, _, _, _, _, _, _, _, by rw [hb, a1, Bool.true_or, Bool.or_true], rfl, fF, fK⟩
          · repeat tb_rel
            rw [q1, q2]
            exact ⟨_, SubP.refl _, _, _, _, _, _, _, _, _, _, by rw [hb, a1, Bool.false_and, Bool.or_false, Bool.or_false], rfl, fF, fK⟩
        · rw [flop_v hfl] at h1
          rw [hfl] at hb
          repeat tb_rel
          refine ite_both (fun a1 => ?_) (fun a1 => ?_)
          · repeat tb_rel
            rw [q1, q2]
            exact ⟨_, SubP.refl _, _, _, _, _, _, _, _, _, _, by rw [hb, a1, Bool.true_or, Bool.or_true], rfl, fF, fK⟩
          · repeat tb_rel
            refine ite_both (fun a2 => ?_) (fun a2 => ?_)
            · repeat tb_rel
              rw [q1, q2]
              exact ⟨_, SubP.refl _, _, _, _, _, _, _, _, _, _, by rw [hb, a1, a2, Bool.true_and, Bool.or_true, Bool.or_true], rfl, fF, fK⟩
            · repeat tb_rel
              rw [q1, q2]
              exact ⟨_, SubP.refl _, _, _, _, _, _, _, _, _, _, by rw [hb, a1, a2, Bool.true_and, Bool.or_false, Bool.or_false], rfl, fF, fK⟩
      · rintro m led ⟨u1, u2, u3, u4, u5, u6, u7, ff, kk, rfl, rfl, hff, hkk⟩
        rw [rngV_len] at *
        rw [List.length_map, Int.toNat_natCast, List.take_of_length_le (Nat.le_refl _)]
        rw [List.length_map, Int.toNat_natCast, List.take_of_length_le (Nat.le_of_eq hlf)] at hff
        rw [List.length_map, Int.toNat_natCast, List.take_of_length_le (Nat.le_of_eq hlk)] at hkk
        repeat tb_rel
        exact ⟨_, .cons (.tail (.tail (.tail .head))) (.cons .head (.cons (.tail (.tail .head)) (.cons (.tail (.tail (.tail .head))) (.nil _)))), rfl, ff, kk, hff, hkk, rfl⟩
end
section
variable {c : Cx} {m : Loc} {led : List As} {P : Params} {k : Nat}
theorem sname_ok (o : Ok c (Kt P) (k + 1)) {s : StC} : Calls c (.ref 80) [s.row.v] [] fun v led' => led' = [] ∧ v = .str s.name := by
  cases hfl : s.flop
  · rw [latch_v hfl]
    refine in_state_name o fun L o' => ?_
    intro KR hKR
    refine s_cons ?_
    repeat tb_rel
    exact ⟨_, SubP.refl _, rfl, rfl⟩
  · rw [flop_v hfl]
    refine in_state_name o fun L o' => ?_
    intro KR hKR
    refine s_cons ?_
    repeat tb_rel
    exact ⟨_, SubP.refl _, rfl, rfl⟩
theorem sinit_ok (o : Ok c (Kt P) (k + 1)) {s : StC} : Calls c (.ref 87) [s.row.v] [] fun v led' => led' = [] ∧ v = .int s.init := by
  cases hfl : s.flop
  · rw [latch_v hfl]
    refine in_state_init o fun L o' => ?_
    intro KR hKR
    refine s_cons ?_
    repeat tb_rel
    exact ⟨_, SubP.refl _, rfl, rfl⟩
  · rw [flop_v hfl]
    refine in_state_init o fun L o' => ?_
    intro KR hKR
    refine s_cons ?_
    repeat tb_rel
    exact ⟨_, SubP.refl _, rfl, rfl⟩
theorem ninit_ok (o : Ok c (Kt P) (k + 1)) {N d : Addr} {nm : V} {K : V → List As → Prop} (hnm : ∀ g, nm ≠ .glob g) (hK : ∀ I O Cl, K .none [.ins N d 160 (netF nm 2 I O Cl), .lst I [], .lst O [], .lst Cl []]) : Calls c (.ref 101) [.ref N, nm] [.ins N d 160 []] K := by
  refine in_Netlist_init o fun L o' => ?_
  intro KR hKR
  refine s_cons ?_
  repeat tb_rel
  intro I
  repeat tb_rel
  intro O
  repeat tb_rel
  intro Cl
  repeat tb_rel
  exact ⟨_, .cons (.tail (.tail (.tail .head))) (.cons (.tail (.tail .head)) (.cons (.tail .head) (.cons .head (.nil _)))), hK I O Cl⟩
theorem newnet_ok (o : Ok c (Kt P) (k + 1)) {N d I O Cl : Addr} {nm : V} {n : Int} : Calls c (.ref 108) [.ref N] [.ins N d 160 (netF nm n I O Cl)] fun v led' => v = .int n ∧ led' = [.ins N d 160 (netF nm (n + 1) I O Cl)] := by
  refine in_Netlist_new_net o fun L o' => ?_
  intro KR hKR
  refine s_cons ?_
  repeat tb_rel
  exact ⟨_, SubP.refl _, rfl, rfl⟩
theorem drive_ok (o : Ok c (Kt P) (k + 1)) {N d I O Cl : Addr} {nm prm : V} {n out : Int} {kd : PySem.Str} {ins : List V} {cs : List V} (hc : cs.length ≤ 1000) : Calls c (.ref 143) [.ref N, .int out, .str kd, .tup ins, prm] [.ins N d 160 (netF nm n I O Cl), .lst Cl cs]
    fun v led' => v = .none ∧ led' = [.ins N d 160 (netF nm n I O Cl), .lst Cl (cs ++ [.tup [.str kd, .int out, .tup ins, prm]])] := by
  refine in_Netlist_drive o fun L o' => ?_
  intro KR hKR
  refine s_cons ?_
  repeat tb_rel
  refine n_tupleT ?_
  repeat tb_rel
  exact ⟨_, SubP.refl _, rfl, rfl⟩
theorem addcell_ok (o : Ok c (Kt P) (k + 1 + 1)) {N d I O Cl : Addr} {nm prm : V} {n : Int} {kd : PySem.Str} {ins : List V} {cs : List V} (hc : cs.length ≤ 1000) : Calls c (.ref 135) [.ref N, .str kd, .tup ins, prm] [.ins N d 160 (netF nm n I O Cl), .lst Cl cs]
    fun v led' => v = .int n ∧ led' = [.ins N d 160 (netF nm (n + 1) I O Cl), .lst Cl (cs ++ [.tup [.str kd, .int n, .tup ins, prm]])] := by
  refine in_Netlist_add_cell o fun L o' => ?_
  intro KR hKR
  refine s_cons ?_
  repeat tb_rel
  refine Calls.go (newnet_ok (k := k) (P := P) o') (.cons (by tb_start) .nil) ?_
  rintro v led' ⟨rfl, rfl⟩
  refine ⟨_, .cons .nil, ?_⟩
  repeat tb_rel
  refine Calls.go (drive_ok (k := k) (P := P) o' hc) (.cons (by tb_start) (.cons (by tb_start) .nil)) ?_
  rintro v led' ⟨rfl, rfl⟩
  refine ⟨_, .cons (.cons .nil), ?_⟩
  repeat tb_rel
  exact ⟨_, SubP.refl _, rfl, rfl⟩
noncomputable def runFrom (n : Int) (w : Nat) : List Int := (List.range w).map fun (i : Nat) => n + i
theorem newnets_ok (o : Ok c (Kt P) (k + 1 + 1)) {N d I O Cl : Addr} {nm : V} {n w : Int} (hw : 0 ≤ w) (hw2 : w < 100) : Calls c (.ref 113) [.ref N, .int w] [.ins N d 160 (netF nm n I O Cl)]
    fun v led' => ∃ R, v = .ref R ∧ led' = [.lst R ((runFrom n w.toNat).map .int), .ins N d 160 (netF nm (n + w) I O Cl)] := by
  refine in_Netlist_new_nets o fun L o' hcells => ?_
  intro KR hKR
  refine s_cons ?_
  repeat tb_rel
  refine ⟨_, _, _, .rng (by (first | lia | omega)) (by (first | lia | omega)), by rw [rngV_len]; (first | lia | omega), fun i us led => us = (runFrom n i).map V.int ∧ led = [.cel (L + 1) (some (.ref N)), .ins N d 160 (netF nm (n + i) I O Cl)], ?_, ?_, ?_⟩
  · exact ⟨_, SubP.refl _, rfl, by rw [show n + ((0 : Nat) : Int) = n by (first | lia | omega)]⟩
  · rintro i v us led C hv KE hKE ⟨rfl, rfl⟩
    refine comp_in o' rfl fun o'' => ?_
    repeat tb_rel
    refine Calls.go (newnet_ok (k := k) (P := P) o'') (.cons (by tb_start) .nil) ?_
    rintro v led' ⟨rfl, rfl⟩
    refine ⟨_, .cons .nil, ?_⟩
    repeat tb_rel
    refine ⟨⟨_, rfl⟩, _, .cons (.tail .head) (.cons .head (.nil _)), ?_, ?_⟩
    · unfold runFrom; rw [List.range_succ, List.map_append, List.map_append]; rfl
    · rw [show n + (i : Int) + 1 = n + ((i + 1 : Nat) : Int) by (first | lia | omega)]
  · rintro us led ⟨rfl, rfl⟩ D
    rw [rngV_len, show ((w.toNat : Nat) : Int) = w by (first | lia | omega)]
    repeat tb_rel
    exact ⟨_, .cons .head (.cons (.tail .head) (.nil _)), D, rfl, rfl⟩
end
theorem bit_and {w : Int} {j : Nat} (h0 : 0 ≤ w) (h1 : w < 4) (hj : j < 2) : Builtin.bitAnd (w.fdiv (2 ^ ((j : Int)).toNat)) 1 = w / 2 ^ j % 2 := by
  have hw : w = 0 ∨ w = 1 ∨ w = 2 ∨ w = 3 := by (first | lia | omega)
  have hj' : j = 0 ∨ j = 1 := by (first | lia | omega)
  rcases hw with rfl | rfl | rfl | rfl <;> rcases hj' with rfl | rfl <;> decide +kernel
noncomputable def setIn (B : Int → Int) (l : List Int) (w : Int) : Int → Int := setOuts B (l.zipIdx.map fun p => (p.1, w / 2 ^ p.2 % 2))
theorem setIn_snoc {B : Int → Int} {l : List Int} {w : Int} {j : Nat} {x : Int} (h : l[j]? = some x) : setIn B (l.take (j + 1)) w = upd (setIn B (l.take j) w) x (w / 2 ^ j % 2) := by
  unfold setIn
  have hj : j < l.length := (List.getElem?_eq_some_iff.mp h).1
  rw [take_snoc h, List.zipIdx_append, List.map_append, List.length_take, Nat.min_eq_left (Nat.le_of_lt hj)]
  simp only [List.zipIdx_cons, List.zipIdx_nil, List.map_cons, List.map_nil, Nat.zero_add]
  exact setOuts_snoc _ _ _
theorem Bits.setIn {B : Int → Int} (h : Bits B) (l : List Int) (w : Int) : Bits (NSim.setIn B l w) := by
  unfold NSim.setIn
  generalize hq : (l.zipIdx.map fun p : Int × Nat => (p.1, w / 2 ^ p.2 % 2)) = q
  have hq2 : ∀ p ∈ q, p.2 = 0 ∨ p.2 = 1 := fun p hp => by
    rw [← hq] at hp
    obtain ⟨y, _, rfl⟩ := List.mem_map.mp hp
    dsimp only; (first | lia | omega)
  clear hq
  induction q generalizing B with
  | nil => exact h
  | cons p q ih => exact ih (h.upd _ (hq2 p (.head _))) fun p hp => hq2 p (.tail _ hp)
section
variable {c : Cx} {m : Loc} {led : List As} {P : Params} {k : Nat}
theorem addin_ok (o : Ok c (Kt P) (k + 1 + 1 + 1)) {N d I O Cl : Addr} {nm : V} {n w : Int} {x : PySem.Str} {is : List V} (hw : 0 ≤ w) (hw2 : w < 100) (hi : is.length < 1000) : Calls c (.ref 120) [.ref N, .str x, .int w] [.ins N d 160 (netF nm n I O Cl), .lst I is]
    fun v led' => X2 fun R R2 => v = .ref R ∧ led' = [.lst R ((runFrom n w.toNat).map .int), .lst R2 ((runFrom n w.toNat).map .int), .ins N d 160 (netF nm (n + w) I O Cl), .lst I (is ++ [.tup [.str x, .ref R2]])] := by
  refine in_Netlist_add_input o fun L o' => ?_
  intro KR hKR
  refine s_cons ?_
  repeat tb_rel
  refine Calls.go (newnets_ok (k := k) (P := P) o' hw hw2) (.cons (by tb_start) .nil) ?_
  rintro v led' ⟨R, rfl, rfl⟩
  refine ⟨_, .cons (.cons .nil), ?_⟩
  repeat tb_rel
  refine n_listL (by tb_start) (by rw [List.length_map]; unfold runFrom; rw [List.length_map, List.length_range]; (first | lia | omega)) fun R2 => ?_
  repeat tb_rel
  exact ⟨_, .cons (.tail .head) (.cons .head (.cons .head (.cons .head (.nil _)))), R, R2, rfl, rfl⟩
theorem addout_ok (o : Ok c (Kt P) (k + 1)) {N d I O Cl R : Addr} {nm : V} {n : Int} {x : PySem.Str} {os : List V} {ns : List Int} (hi : os.length < 1000) (hn : ns.length < 1000) : Calls c (.ref 127) [.ref N, .str x, .ref R] [.ins N d 160 (netF nm n I O Cl), .lst O os, .lst R (ns.map .int)]
    fun v led' => ∃ R2, v = .none ∧ led' = [.ins N d 160 (netF nm n I O Cl), .lst O (os ++ [.tup [.str x, .ref R2]]), .lst R (ns.map .int), .lst R2 (ns.map .int)] := by
  refine in_Netlist_add_output o fun L o' => ?_
  intro KR hKR
  refine s_cons ?_
  repeat tb_rel
  refine n_listL (by tb_start) (by rw [List.length_map]; (first | lia | omega)) fun R2 => ?_
  repeat tb_rel
  exact ⟨_, .cons (.tail .head) (.cons (.tail .head) (.cons (.tail .head) (.cons .head (.nil _)))), R2, rfl, rfl⟩

noncomputable def inV (Ia Ib : Addr) : List V := [.tup [.str (S "a"), .ref Ia], .tup [.str (S "b"), .ref Ib]]
theorem setin_ok (o : Ok c (Kt P) (k + 1)) {W dW N dN I O Cl Od Sd Vd Ld Ia Ib : Addr} {nm : V} {n : Nat} {B : Int → Int} {na nb : List Int} {w : Int} (isA : Bool) (hn : n < 1000) (hna : ∀ x ∈ na, 0 ≤ x ∧ x < (n : Int)) (hnb : ∀ x ∈ nb, 0 ≤ x ∧ x < (n : Int)) (hla : na.length ≤ 2) (hlb : nb.length ≤ 2) (h0 : 0 ≤ w) (h1 : w < 4) :
    Calls c (.ref 253) [.ref W, .str (if isA = true then S "a" else S "b"), .int w] [.ins W dW 292 (simF N Od Sd Vd Ld), .ins N dN 160 (netF nm n I O Cl), .lst I (inV Ia Ib), .lst Ia (na.map .int), .lst Ib (nb.map .int), .lst Vd (tab n B)]
      fun v led' => v = .none ∧ led' = [.ins W dW 292 (simF N Od Sd Vd Ld), .ins N dN 160 (netF nm n I O Cl), .lst I (inV Ia Ib), .lst Ia (na.map .int), .lst Ib (nb.map .int), .lst Vd (tab n (setIn B (if isA = true then na else nb) w))] := by
  cases isA
  · simp only [if_neg (show ¬ false = true by decide)]
    refine in_NetSim_set_input o fun L o' => ?_
    intro KR hKR
    refine s_cons ?_
    repeat tb_rel
    refine' ⟨_, _, _, .lst ?qs, fun j m led => j ≤ 1 ∧ X2 fun u1 u2 => m = [(S "self", some (.ref W)), (S "name", some (.str (S "b"))), (S "whole", some (.int w)), (S "port", u1), (S "nets", u2), (S "place", none)] ∧ led = [.ins W dW 292 (simF N Od Sd Vd Ld), .ins N dN 160 (netF nm n I O Cl), .lst Ia (na.map .int), .lst Ib (nb.map .int), .lst Vd (tab n B)], ?_, ?_, ?_⟩
    case qs => tb_start
    · exact ⟨_, SubP.refl _, by (first | lia | omega), _, _, rfl, rfl⟩
    · rintro j v m led hv KX1 KX2 hX1 hX2 ⟨hj, u1, u2, rfl, rfl⟩
      have hj' : j = 0 ∨ j = 1 := by (first | lia | omega)
      rcases hj' with rfl | rfl
      · cases hv
        repeat tb_rel
        exact ⟨_, SubP.refl _, by (first | lia | omega), _, _, rfl, rfl⟩
      · cases hv
        repeat tb_rel
        refine ⟨_, _, _, .rng (by (first | lia | omega)) (by simp; (first | lia | omega)), fun i m led => ∃ u3, m = [(S "self", some (.ref W)), (S "name", some (.str (S "b"))), (S "whole", some (.int w)), (S "port", some (.str (S "b"))), (S "nets", some (.ref Ib)), (S "place", u3)] ∧ led = [.ins W dW 292 (simF N Od Sd Vd Ld), .ins N dN 160 (netF nm n I O Cl), .lst Ia (na.map .int), .lst Ib (nb.map .int), .lst Vd (tab n (setIn B (nb.take i) w))], ?_, ?_, ?_⟩
        · exact ⟨_, SubP.refl _, _, rfl, rfl⟩
        · rintro i v m led hv KX1 KX2 hX1 hX2 ⟨u3, rfl, rfl⟩
          obtain ⟨rfl, hi⟩ := rngV_get hv
          have hi : i < nb.length := by simpa using hi
          have hg : (nb.map V.int)[((i : Nat) : Int).toNat]? = some (.int nb[i]) := by simp [hi]
          have hx := hnb nb[i] (List.getElem_mem hi)
          have e1 := setIn_snoc (B := B) (w := w) (List.getElem?_eq_getElem hi)
          have hb := bit_and (j := i) h0 h1 (by (first | lia | omega))
          generalize nb[i] = x at *
          obtain ⟨x1, x2⟩ := hx
          have hlv := tab_len n (setIn B (nb.take i) w)
          repeat tb_rel
          rw [hb, tab_set x1 x2]
          exact ⟨_, SubP.refl _, _, rfl, by rw [e1]⟩
        · rintro m led ⟨u3, rfl, rfl⟩
          rw [rngV_len, Int.toNat_natCast, List.length_map, List.take_of_length_le (Nat.le_refl _)]
          repeat tb_rel
          exact ⟨_, .cons (.tail .head) (.cons (.tail .head) (.cons .head (.cons .head (.cons .head (.cons .head (.nil _)))))), rfl, rfl⟩
    · rintro m led ⟨hj, _⟩
      exact absurd (show (2 : Nat) ≤ 1 from hj) (by decide)
  · simp only [if_true]
    refine in_NetSim_set_input o fun L o' => ?_
    intro KR hKR
    refine s_cons ?_
    repeat tb_rel
    refine' ⟨_, _, _, .lst ?qs, fun j m led => j ≤ 0 ∧ X2 fun u1 u2 => m = [(S "self", some (.ref W)), (S "name", some (.str (S "a"))), (S "whole", some (.int w)), (S "port", u1), (S "nets", u2), (S "place", none)] ∧ led = [.ins W dW 292 (simF N Od Sd Vd Ld), .ins N dN 160 (netF nm n I O Cl), .lst Ia (na.map .int), .lst Ib (nb.map .int), .lst Vd (tab n B)], ?_, ?_, ?_⟩
    case qs => tb_start
    · exact ⟨_, SubP.refl _, by (first | lia | omega), _, _, rfl, rfl⟩
    · rintro j v m led hv KX1 KX2 hX1 hX2 ⟨hj, u1, u2, rfl, rfl⟩
      have hj' : j = 0 := by (first | lia | omega)
      subst hj'
      · cases hv
        repeat tb_rel
        refine ⟨_, _, _, .rng (by (first | lia | omega)) (by simp; (first | lia | omega)), fun i m led => ∃ u3, m = [(S "self", some (.ref W)), (S "name", some (.str (S "a"))), (S "whole", some (.int w)), (S "port", some (.str (S "a"))), (S "nets", some (.ref Ia)), (S "place", u3)] ∧ led = [.ins W dW 292 (simF N Od Sd Vd Ld), .ins N dN 160 (netF nm n I O Cl), .lst Ia (na.map .int), .lst Ib (nb.map .int), .lst Vd (tab n (setIn B (na.take i) w))], ?_, ?_, ?_⟩
        · exact ⟨_, SubP.refl _, _, rfl, rfl⟩
        · rintro i v m led hv KX1 KX2 hX1 hX2 ⟨u3, rfl, rfl⟩
          obtain ⟨rfl, hi⟩ := rngV_get hv
          have hi : i < na.length := by simpa using hi
          have hg : (na.map V.int)[((i : Nat) : Int).toNat]? = some (.int na[i]) := by simp [hi]
          have hx := hna na[i] (List.getElem_mem hi)
          have e1 := setIn_snoc (B := B) (w := w) (List.getElem?_eq_getElem hi)
          have hb := bit_and (j := i) h0 h1 (by (first | lia | omega))
          generalize na[i] = x at *
          obtain ⟨x1, x2⟩ := hx
          have hlv := tab_len n (setIn B (na.take i) w)
          repeat tb_rel
          rw [hb, tab_set x1 x2]
          exact ⟨_, SubP.refl _, _, rfl, by rw [e1]⟩
        · rintro m led ⟨u3, rfl, rfl⟩
          rw [rngV_len, Int.toNat_natCast, List.length_map, List.take_of_length_le (Nat.le_refl _)]
          repeat tb_rel
          exact ⟨_, .cons (.tail .head) (.cons (.tail .head) (.cons .head (.cons .head (.cons .head (.cons .head (.nil _)))))), rfl, rfl⟩
    · rintro m led ⟨hj, _⟩
      exact absurd (show (2 : Nat) ≤ 0 from hj) (by decide)
end
section
variable {c : Cx} {m : Loc} {led : List As} {P : Params} {k : Nat}
theorem output_ok (o : Ok c (Kt P) (k + 1)) {W dW N dN I O Cl Od Sd Vd Ld Y : Addr} {nm : V} {n : Nat} {B : Int → Int} {seen : List Int} (hn : n < 1000) (hB : Bits B) (hs : ∀ x ∈ seen, 0 ≤ x ∧ x < (n : Int)) (hl : seen.length ≤ 5) :
    Calls c (.ref 275) [.ref W, .str (S "y")] [.ins W dW 292 (simF N Od Sd Vd Ld), .ins N dN 160 (netF nm n I O Cl), .lst O [.tup [.str (S "y"), .ref Y]], .lst Y (seen.map .int), .lst Vd (tab n B)]
      fun v led' => led' = [.ins W dW 292 (simF N Od Sd Vd Ld), .ins N dN 160 (netF nm n I O Cl), .lst O [.tup [.str (S "y"), .ref Y]], .lst Y (seen.map .int), .lst Vd (tab n B)] ∧ v = .int (rowNo (seen.map B)) := by
  refine in_NetSim_output o fun L o' => ?_
  intro KR hKR
  refine s_cons ?_
  repeat tb_rel
  refine' ⟨_, _, _, .lst ?qs, fun j m led => Cj3 (j ≤ 0) (m = [(S "self", some (.ref W)), (S "name", some (.str (S "y"))), (S "port", none), (S "nets", none), (S "whole", none), (S "place", none)]) (led = [.ins W dW 292 (simF N Od Sd Vd Ld), .ins N dN 160 (netF nm n I O Cl), .lst Y (seen.map .int), .lst Vd (tab n B)]), ?_, ?_, ?_⟩
  case qs => tb_start
  · exact ⟨_, SubP.refl _, by (first | lia | omega), rfl, rfl⟩
  · rintro j v m led hv KX1 KX2 hX1 hX2 ⟨hj, rfl, rfl⟩
    have hj' : j = 0 := by (first | lia | omega)
    subst hj'
    cases hv
    repeat tb_rel
    refine ⟨_, _, _, .rng (by (first | lia | omega)) (by simp; (first | lia | omega)), fun i m led => ∃ u3, m = [(S "self", some (.ref W)), (S "name", some (.str (S "y"))), (S "port", some (.str (S "y"))), (S "nets", some (.ref Y)), (S "whole", some (.int (rowNo ((seen.take i).map B)))), (S "place", u3)] ∧ led = [.ins W dW 292 (simF N Od Sd Vd Ld), .ins N dN 160 (netF nm n I O Cl), .lst Y (seen.map .int), .lst Vd (tab n B)], ?_, ?_, ?_⟩
    · exact ⟨_, SubP.refl _, _, rfl, rfl⟩
    · rintro i v m led hv KX1 KX2 hX1 hX2 ⟨u3, rfl, rfl⟩
      obtain ⟨rfl, hi⟩ := rngV_get hv
      have hi : i < seen.length := by simpa using hi
      have hg : (seen.map V.int)[((i : Nat) : Int).toNat]? = some (.int seen[i]) := by simp [hi]
      have hx := hs seen[i] (List.getElem_mem hi)
      have e1 : (seen.take (i + 1)).map B = (seen.take i).map B ++ [B seen[i]] := by rw [take_snoc (List.getElem?_eq_getElem hi), List.map_append]; rfl
      have hln : ((seen.take i).map B).length = i := by rw [List.length_map, List.length_take]; (first | lia | omega)
      have hb := hB seen[i]
      have e2 := rowNo_snoc ((seen.take i).map B) (B seen[i])
      rw [hln] at e2
      generalize seen[i] = x at *
      obtain ⟨x1, x2⟩ := hx
      have hgv := tab_get (B := B) x1 x2
      repeat tb_rel
      refine ite_both (fun e => ?_) (fun e => ?_)
      · have e := of_decide_eq_true e
        repeat tb_rel
        exact ⟨_, SubP.refl _, _, by rw [e1, e2, show B x = 1 by (first | lia | omega), Int.toNat_natCast], rfl⟩
      · have e := of_decide_eq_false e
        repeat tb_rel
        exact ⟨_, SubP.refl _, _, by rw [e1, e2, show B x = 0 by (first | lia | omega), Int.zero_mul, Int.add_zero], rfl⟩
    · rintro m led ⟨u3, rfl, rfl⟩
      rw [rngV_len, Int.toNat_natCast, List.length_map, List.take_of_length_le (Nat.le_refl _)]
      repeat tb_rel
      exact ⟨_, .cons (.tail .head) (.cons (.tail .head) (.cons .head (.cons .head (.cons .head (.nil _))))), rfl, rfl⟩
  · rintro m led ⟨hj, _⟩
    exact absurd (show (1 : Nat) ≤ 0 from hj) (by decide)

theorem state_ok (o : Ok c (Kt P) (k + 1 + 1)) {W dW N dN I O Cl Od Sd Vd Ld : Addr} {nm : V} {n : Nat} {cells : List Row} {sts : List StC} {sidx : List Nat} {B : Int → Int} {j0 : Nat} {s0 : StC} (hn : n < 1000) (hc : cells.length < 1000)
    (ha : AtS sts sidx cells) (hs : ∀ s ∈ sts, s.ok n) (h0 : sts[j0]? = some s0) (hne : ∀ (j : Nat) (s : StC), j < j0 → sts[j]? = some s → s.name ≠ s0.name) :
    Calls c (.ref 282) [.ref W, .str s0.name] [.ins W dW 292 (simF N Od Sd Vd Ld), .ins N dN 160 (netF nm n I O Cl), .lst Cl (cells.map Row.v), .lst Sd (sidx.map fun (i : Nat) => .int i), .lst Vd (tab n B)]
      fun v led' => led' = [.ins W dW 292 (simF N Od Sd Vd Ld), .ins N dN 160 (netF nm n I O Cl), .lst Cl (cells.map Row.v), .lst Sd (sidx.map fun (i : Nat) => .int i), .lst Vd (tab n B)] ∧ v = .int (B s0.out) := by
  have hj0 : j0 < sts.length := (List.getElem?_eq_some_iff.mp h0).1
  refine in_NetSim_state o fun L o' => ?_
  intro KR hKR
  refine s_cons ?_
  repeat tb_rel
  refine' ⟨_, _, _, .lst ?qs, fun j m led => j ≤ j0 ∧ X2 fun u1 u2 => m = [(S "self", some (.ref W)), (S "name", some (.str s0.name)), (S "index", u1), (S "cell", u2)] ∧ led = [.ins W dW 292 (simF N Od Sd Vd Ld), .ins N dN 160 (netF nm n I O Cl), .lst Cl (cells.map Row.v), .lst Vd (tab n B)], ?_, ?_, ?_⟩
  case qs => tb_start
  · exact ⟨_, SubP.refl _, by (first | lia | omega), _, _, rfl, rfl⟩
  · rintro j v m led hv KX1 KX2 hX1 hX2 ⟨hj, u1, u2, rfl, rfl⟩
    rw [List.getElem?_map, Option.map_eq_some_iff] at hv
    obtain ⟨i, hi, rfl⟩ := hv
    have hjl : j < sts.length := by rw [← ha.len]; exact (List.getElem?_eq_some_iff.mp hi).1
    have hsj : sts[j]? = some sts[j] := List.getElem?_eq_getElem hjl
    have so := hs sts[j] (List.getElem_mem hjl)
    obtain ⟨i', hi', hcr⟩ := ha.at' j sts[j] hsj
    rw [hi] at hi'
    cases hi'
    have hil : i < cells.length := (List.getElem?_eq_some_iff.mp hcr).1
    have hrow := row_v hcr
    generalize sts[j] = s at *
    have hgv := tab_get (B := B) so.ho.1 so.ho.2
    have o1 := so.ho.1
    have o2 := so.ho.2
    repeat tb_rel
    refine Calls.same (sname_ok (k := k) (P := P) o') .nil ?_
    rintro v rfl
    repeat tb_rel
    refine ite_both (fun e => ?_) (fun e => ?_)
    · have e := of_decide_eq_true e
      have hjj : j = j0 := by
        by_cases q : j = j0
        · exact q
        · exact absurd e (hne j s (by (first | lia | omega)) hsj)
      subst hjj
      rw [h0] at hsj
      cases hsj
      rw [show s0.row.v = .tup [.str s0.kind, .int s0.out, .tup [.int s0.first, .int s0.d, .int s0.sn, .int s0.rn], s0.prm] from rfl]
      repeat tb_rel
      exact ⟨_, .cons (.tail .head) (.cons (.tail .head) (.cons (.tail .head) (.cons .head (.cons .head (.nil _))))), rfl, rfl⟩
    · have e := of_decide_eq_false e
      have hjj : j ≠ j0 := by
        rintro rfl
        rw [h0] at hsj
        cases hsj
        exact e rfl
      repeat tb_rel
      exact ⟨_, SubP.refl _, by (first | lia | omega), _, _, rfl, rfl⟩
  · rintro m led ⟨hj, _⟩
    rw [List.length_map, ha.len] at hj
    (first | lia | omega)
end
noncomputable def stAt (cells : List Row) (i : Nat) : Bool := match cells[i]? with
  | some r => isSt r.kind
  | none => false
noncomputable def stIdx (cells : List Row) : List Nat := (List.range cells.length).filter (stAt cells)
theorem row_tup {cells : List Row} {i : Nat} {r : Row} (h : cells[i]? = some r) : (cells.map Row.v)[(i : Int).toNat]? = some (.tup [.str r.kind, .int r.out, .tup (r.ins.map .int), r.prm]) := row_get h
structure Drv (cells : List Row) (i : Nat) (g : Int → Option V) : Prop where
  some' : ∀ (j : Nat) (r : Row), j < i → cells[j]? = some r → g r.out = some (.int j)
  none' : ∀ x, (∀ (j : Nat) (r : Row), j < i → cells[j]? = some r → r.out ≠ x) → g x = none
section
variable {c : Cx} {m : Loc} {led : List As} {P : Params} {k : Nat}
theorem stcells_ok (o : Ok c (Kt P) (k + 1 + 1)) {N dN I O Cl : Addr} {nm : V} {n : Int} {cells : List Row} (hc : cells.length < 1000) :
    Calls c (.ref 171) [.ref N] [.ins N dN 160 (netF nm n I O Cl), .lst Cl (cells.map Row.v)]
      fun v led' => ∃ F, v = .ref F ∧ led' = [.lst F ((stIdx cells).map fun (i : Nat) => .int i), .ins N dN 160 (netF nm n I O Cl), .lst Cl (cells.map Row.v)] := by
  refine in_state_cells o fun L o' => ?_
  intro KR hKR
  refine s_cons ?_
  repeat tb_rel
  intro F
  repeat tb_rel
  refine ⟨_, _, _, .rng (by (first | lia | omega)) (by simp; (first | lia | omega)), fun j m led => ∃ u, m = [(S "netlist", some (.ref N)), (S "found", some (.ref F)), (S "index", u)] ∧ led = [.lst F (((List.range j).filter (stAt cells)).map fun (i : Nat) => .int i), .ins N dN 160 (netF nm n I O Cl), .lst Cl (cells.map Row.v)], ?_, ?_, ?_⟩
  · exact ⟨_, SubP.refl _, _, rfl, rfl⟩
  · rintro j v m led hv KX1 KX2 hX1 hX2 ⟨u, rfl, rfl⟩
    obtain ⟨rfl, hi⟩ := rngV_get hv
    have hj : j < cells.length := by simpa using hi
    have hcj : cells[j]? = some cells[j] := List.getElem?_eq_getElem hj
    have hrow := row_tup hcj
    have e1 : (List.range (j + 1)).filter (stAt cells) = (List.range j).filter (stAt cells) ++ (if isSt cells[j].kind = true then [j] else []) := by
      rw [List.range_succ, List.filter_append]
      congr 1
      rw [List.filter_cons, List.filter_nil]
      unfold stAt; rw [hcj]
    have hfl : ((((List.range j).filter (stAt cells)).map fun (i : Nat) => V.int i)).length ≤ 100000 := by
      rw [List.length_map]; have := List.length_filter_le (stAt cells) (List.range j); rw [List.length_range] at this; (first | lia | omega)
    generalize cells[j] = r at *
    repeat tb_rel
    refine Calls.same (kind_ok (k := k) (P := P) o') .nil ?_
    rintro v rfl
    repeat tb_rel
    refine ite_both (fun e => ?_) (fun e => ?_)
    · repeat tb_rel
      exact ⟨_, SubP.refl _, _, rfl, by rw [e1, if_pos e, List.map_append]; rfl⟩
    · repeat tb_rel
      exact ⟨_, SubP.refl _, _, rfl, by rw [e1, if_neg (by rw [e]; decide), List.append_nil]⟩
  · rintro m led ⟨u, rfl, rfl⟩
    rw [rngV_len, Int.toNat_natCast, List.length_map]
    repeat tb_rel
    exact ⟨_, SubP.refl _, F, rfl, rfl⟩

theorem drivers_ok (o : Ok c (Kt P) (k + 1)) {N dN I O Cl Ia Ib : Addr} {nm : V} {n : Int} {cells : List Row} {na nb : List Int} (hc : cells.length < 1000) (hna : na.length < 1000) (hnb : nb.length < 1000) (hnd : (([0, 1] : List Int) ++ na ++ nb ++ cells.map Row.out).Nodup) :
    Calls c (.ref 178) [.ref N] [.ins N dN 160 (netF nm n I O Cl), .lst I (inV Ia Ib), .lst Ia (na.map .int), .lst Ib (nb.map .int), .lst Cl (cells.map Row.v)]
      fun v led' => X3 fun D nd g => Cj4 (v = .ref D) (Drv cells cells.length g) (nd ≤ cells.length) (led' = [.dic c.prog c.w D nd g, .ins N dN 160 (netF nm n I O Cl), .lst I (inV Ia Ib), .lst Ia (na.map .int), .lst Ib (nb.map .int), .lst Cl (cells.map Row.v)]) := by
  refine in_drivers o fun L o' => ?_
  intro KR hKR
  refine s_cons ?_
  repeat tb_rel
  with_reducible refine' e_dictI o' [(0, .bool true), (1, .bool true)] ?a ?b ?c ?d ?e ?f ?g
  case a => kernel_rfl
  case b => kernel_rfl
  case c => exact List.cons_ne_nil _ _
  case d => exact Nat.le_of_ble_eq_true rfl
  case e => decide
  case f =>
    repeat tb_rel
    exact ⟨rfl, rfl, rfl⟩
  case g =>
    intro Tk
    have tk0 : ∀ x, ((fun k => List.lookup k [((0 : Int), V.bool true), (1, V.bool true)]) x).isSome = decide (x ∈ ([0, 1] : List Int)) := fun x => by
      by_cases h0 : x = 0
      · subst h0; rfl
      · by_cases h1 : x = 1
        · subst h1; rfl
        · have e0 : (x == 0) = false := beq_eq_false_iff_ne.mpr h0
          have e1 : (x == 1) = false := beq_eq_false_iff_ne.mpr h1
          simp [List.lookup_cons, e0, e1, h0, h1]
    generalize (fun k => List.lookup k [((0 : Int), V.bool true), (1, V.bool true)]) = ft at *
    repeat tb_rel
    refine' ⟨_, _, _, .lst ?qs, fun i m led => X5 fun u1 u2 u3 ft nt => Cj4 (m = [(S "netlist", some (.ref N)), (S "taken", some (.ref Tk)), (S "name", u1), (S "bits", u2), (S "net", u3), (S "found", none), (S "index", none)]) (led = [.dic c.prog c.w Tk nt ft, .ins N dN 160 (netF nm n I O Cl), .lst Ia (na.map .int), .lst Ib (nb.map .int), .lst Cl (cells.map Row.v)]) ((∀ x, (ft x).isSome = decide (x ∈ ([0, 1] : List Int) ++ (([na, nb] : List (List Int)).take i).flatten))) (nt ≤ (([0, 1] : List Int) ++ (([na, nb] : List (List Int)).take i).flatten).length), ?_, ?_, ?_⟩
    case qs => tb_start
    · exact ⟨_, SubP.refl _, _, _, _, _, _, rfl, rfl, by simpa using tk0, by simp⟩
    · rintro i v m led hv KX1 KX2 hX1 hX2 ⟨u1, u2, u3, ft, nt, rfl, rfl, hft, hnt⟩
      have hil : i < 2 := (List.getElem?_eq_some_iff.mp hv).1
      have hi2 : i = 0 ∨ i = 1 := by (first | lia | omega)
      rcases hi2 with rfl | rfl
      · cases hv
        simp only [List.take_zero, List.flatten_nil, List.append_nil] at hft hnt
        have ndX : (([0, 1] : List Int) ++ na).Nodup := hnd.sublist ((List.sublist_append_left _ _).trans (List.sublist_append_left _ _))
        repeat tb_rel
        refine' ⟨_, _, _, .lst ?qs, fun i m led => X3 fun u3 ft nt => Cj4 (m = [(S "netlist", some (.ref N)), (S "taken", some (.ref Tk)), (S "name", some (.str (S "a"))), (S "bits", some (.ref Ia)), (S "net", u3), (S "found", none), (S "index", none)]) (led = [.dic c.prog c.w Tk nt ft, .ins N dN 160 (netF nm n I O Cl), .lst Ib (nb.map .int), .lst Cl (cells.map Row.v)]) ((∀ x, (ft x).isSome = decide (x ∈ ([0, 1] : List Int) ++ na.take i))) (nt ≤ (([0, 1] : List Int)).length + i), ?_, ?_, ?_⟩
        case qs => tb_start
        · exact ⟨_, .cons (by tb_start) (.cons (by tb_start) (.cons (by tb_start) (.cons (by tb_start) (.nil _)))), _, _, _, rfl, rfl, by rw [List.take_zero, List.append_nil]; exact hft, hnt⟩
        · rintro i v m led hv KX1 KX2 hX1 hX2 ⟨u3, ft, nt, rfl, rfl, hft, hnt⟩
          rw [List.getElem?_map, Option.map_eq_some_iff] at hv
          obtain ⟨x, hx, rfl⟩ := hv
          have hil : i < na.length := (List.getElem?_eq_some_iff.mp hx).1
          have e1 := take_snoc hx
          have hnt2 : nt ≤ 100000 := by simp at hnt; (first | lia | omega)
          have hno : (ft x).isSome = false := by
            rw [hft x]
            refine decide_eq_false fun q => ?_
            have nd2 : (([0, 1] : List Int) ++ na.take (i + 1)).Nodup := ndX.sublist (List.Sublist.append_left (List.take_sublist _ _) _)
            rw [e1, ← List.append_assoc] at nd2
            exact (List.nodup_append.mp nd2).2.2 x q x (.head _) rfl
          repeat tb_rel
          rw [hno, if_neg (by decide)]
          refine ⟨_, SubP.refl _, _, _, _, rfl, rfl, fun y => ?_, by (first | lia | omega)⟩
          unfold putI
          rw [e1, ← List.append_assoc]
          by_cases q : y = x
          · rw [if_pos q, q]; simp
          · rw [if_neg q, hft y]; simp [q]
        · rintro m led ⟨u3, ft, nt, rfl, rfl, hft, hnt⟩
          rw [List.length_map, List.take_of_length_le (Nat.le_refl _)] at hft
          rw [List.length_map] at hnt
          repeat tb_rel
          exact ⟨_, .cons (by tb_start) (.cons (by tb_start) (.cons (by tb_start) (.cons (by tb_start) (.cons (by tb_start) (.nil _))))), _, _, _, _, _, rfl, rfl, by simpa using hft, by simp at hnt ⊢; (first | lia | omega)⟩
      · cases hv
        simp only [List.take_succ_cons, List.take_zero, List.flatten_cons, List.flatten_nil, List.append_nil] at hft hnt
        have ndX : ((([0, 1] : List Int) ++ na) ++ nb).Nodup := hnd.sublist (List.sublist_append_left _ _)
        repeat tb_rel
        refine' ⟨_, _, _, .lst ?qs, fun i m led => X3 fun u3 ft nt => Cj4 (m = [(S "netlist", some (.ref N)), (S "taken", some (.ref Tk)), (S "name", some (.str (S "b"))), (S "bits", some (.ref Ib)), (S "net", u3), (S "found", none), (S "index", none)]) (led = [.dic c.prog c.w Tk nt ft, .ins N dN 160 (netF nm n I O Cl), .lst Ia (na.map .int), .lst Cl (cells.map Row.v)]) ((∀ x, (ft x).isSome = decide (x ∈ (([0, 1] : List Int) ++ na) ++ nb.take i))) (nt ≤ ((([0, 1] : List Int) ++ na)).length + i), ?_, ?_, ?_⟩
        case qs => tb_start
        · exact ⟨_, .cons (by tb_start) (.cons (by tb_start) (.cons (by tb_start) (.cons (by tb_start) (.nil _)))), _, _, _, rfl, rfl, by rw [List.take_zero, List.append_nil]; exact hft, hnt⟩
        · rintro i v m led hv KX1 KX2 hX1 hX2 ⟨u3, ft, nt, rfl, rfl, hft, hnt⟩
          rw [List.getElem?_map, Option.map_eq_some_iff] at hv
          obtain ⟨x, hx, rfl⟩ := hv
          have hil : i < nb.length := (List.getElem?_eq_some_iff.mp hx).1
          have e1 := take_snoc hx
          have hnt2 : nt ≤ 100000 := by simp at hnt; (first | lia | omega)
          have hno : (ft x).isSome = false := by
            rw [hft x]
            refine decide_eq_false fun q => ?_
            have nd2 : ((([0, 1] : List Int) ++ na) ++ nb.take (i + 1)).Nodup := ndX.sublist (List.Sublist.append_left (List.take_sublist _ _) _)
            rw [e1, ← List.append_assoc] at nd2
            exact (List.nodup_append.mp nd2).2.2 x q x (.head _) rfl
          repeat tb_rel
          rw [hno, if_neg (by decide)]
          refine ⟨_, SubP.refl _, _, _, _, rfl, rfl, fun y => ?_, by (first | lia | omega)⟩
          unfold putI
          rw [e1, ← List.append_assoc]
          by_cases q : y = x
          · rw [if_pos q, q]; simp
          · rw [if_neg q, hft y]; simp [q]
        · rintro m led ⟨u3, ft, nt, rfl, rfl, hft, hnt⟩
          rw [List.length_map, List.take_of_length_le (Nat.le_refl _)] at hft
          rw [List.length_map] at hnt
          repeat tb_rel
          exact ⟨_, .cons (by tb_start) (.cons (by tb_start) (.cons (by tb_start) (.cons (by tb_start) (.cons (by tb_start) (.nil _))))), _, _, _, _, _, rfl, rfl, by simpa using hft, by simp at hnt ⊢; (first | lia | omega)⟩
    · rintro m led ⟨u1, u2, u3, ft, nt, rfl, rfl, hft, hnt⟩
      have hnt3 : nt ≤ 2 + na.length + nb.length := by
        have : (inV Ia Ib).length = 2 := rfl
        rw [this] at hnt; simp at hnt; (first | lia | omega)
      have hft3 : ∀ x, (ft x).isSome = decide (x ∈ ([0, 1] : List Int) ++ na ++ nb) := fun x => by
        have h2 := hft x
        have : (inV Ia Ib).length = 2 := rfl
        rw [this] at h2; simpa using h2
      clear hft hnt
      repeat tb_rel
      intro D
      repeat tb_rel
      refine ⟨_, _, _, .rng (by (first | lia | omega)) (by simp; (first | lia | omega)), fun i m led => X6 fun u3 u4 ft nt g nd => Cj6 (m = [(S "netlist", some (.ref N)), (S "taken", some (.ref Tk)), (S "name", u1), (S "bits", u2), (S "net", u3), (S "found", some (.ref D)), (S "index", u4)]) (led = [.dic c.prog c.w D nd g, .lst I (inV Ia Ib), .dic c.prog c.w Tk nt ft, .ins N dN 160 (netF nm n I O Cl), .lst Ia (na.map .int), .lst Ib (nb.map .int), .lst Cl (cells.map Row.v)]) ((∀ x, (ft x).isSome = decide (x ∈ (([0, 1] : List Int) ++ na ++ nb) ++ (cells.take i).map Row.out))) (nt ≤ 2 + na.length + nb.length + i) (Drv cells i g) (nd ≤ i), ?_, ?_, ?_⟩
      · exact ⟨_, SubP.refl _, _, _, _, _, _, _, rfl, rfl, by simpa using hft3, by (first | lia | omega), ⟨fun j r hj => by (first | lia | omega), fun x _ => rfl⟩, Nat.le_refl _⟩
      · rintro i v m led hv KX1 KX2 hX1 hX2 ⟨u3, u4, ft, nt, g, nd, rfl, rfl, hft, hnt, hg, hnd2⟩
        obtain ⟨rfl, hi⟩ := rngV_get hv
        have hj : i < cells.length := by simpa using hi
        have hcj : cells[i]? = some cells[i] := List.getElem?_eq_getElem hj
        have hrow := row_tup hcj
        have e1 : (cells.take (i + 1)).map Row.out = (cells.take i).map Row.out ++ [cells[i].out] := by rw [take_snoc hcj, List.map_append]; rfl
        have hno : (ft cells[i].out).isSome = false := by
          rw [hft]
          refine decide_eq_false fun q => ?_
          have nd2 : ((([0, 1] : List Int) ++ na ++ nb) ++ (cells.take (i + 1)).map Row.out).Nodup := hnd.sublist (List.Sublist.append_left ((List.take_sublist _ _).map _) _)
          rw [e1, ← List.append_assoc] at nd2
          exact (List.nodup_append.mp nd2).2.2 _ q _ (.head _) rfl
        have hgn : g cells[i].out = none := hg.none' _ fun j r hji hr e => by
          have nd2 : ((cells.take (i + 1)).map Row.out).Nodup := (hnd.sublist (List.sublist_append_right _ _)).sublist ((List.take_sublist _ _).map _)
          rw [e1] at nd2
          refine (List.nodup_append.mp nd2).2.2 r.out (List.mem_map.mpr ⟨r, ?_, rfl⟩) _ (.head _) e
          exact List.mem_of_getElem? (i := j) (by rw [List.getElem?_take, if_pos hji]; exact hr)
        have hnt2 : nt ≤ 100000 := by (first | lia | omega)
        have hnd3 : nd ≤ 100000 := by (first | lia | omega)
        generalize hro : cells[i] = r at *
        repeat tb_rel
        rw [hno, hgn, if_neg (by decide), if_neg (by decide)]
        refine ⟨_, SubP.refl _, _, _, _, _, _, _, rfl, rfl, fun y => ?_, by (first | lia | omega), ⟨fun j r' hj' hr' => ?_, fun x hx => ?_⟩, by (first | lia | omega)⟩
        · unfold putI
          rw [e1, ← List.append_assoc]
          by_cases q : y = r.out
          · rw [if_pos q, q]; simp
          · rw [if_neg q, hft y]; simp [q]
        · unfold putI
          by_cases q : j = i
          · subst q
            rw [hcj] at hr'
            cases hr'
            rw [if_pos rfl]
          · rw [if_neg ?_]
            · exact hg.some' j r' (by (first | lia | omega)) hr'
            · intro e
              have := hg.some' j r' (by (first | lia | omega)) hr'
              rw [e, hgn] at this
              cases this
        · unfold putI
          rw [if_neg (fun e => hx i r (by (first | lia | omega)) hcj e.symm)]
          exact hg.none' x fun j r' hj' hr' => hx j r' (by (first | lia | omega)) hr'
      · rintro m led ⟨u3, u4, ft, nt, g, nd, rfl, rfl, hft, hnt, hg, hnd2⟩
        rw [rngV_len, Int.toNat_natCast, List.length_map] at hg hnd2
        repeat tb_rel
        exact ⟨_, .cons (by tb_start) (.cons (.tail (.tail .head)) (.cons .head (.cons (.tail .head) (.cons (.tail .head) (.cons (.tail .head) (.nil _)))))), D, nd, g, rfl, hg, hnd2, rfl⟩
end
section
/-- Kahn's order, in plain words -/
noncomputable def rem (preds : Nat → List Nat) (T : List Nat) (x : Nat) : Nat := (preds x).countP fun b => decide (b ∉ T)
theorem countP_snoc {T : List Nat} {r : Nat} (h : r ∉ T) : ∀ l : List Nat, l.countP (fun b => decide (b ∉ T)) = l.countP (fun b => decide (b ∉ T ++ [r])) + l.count r
  | [] => rfl
  | b :: l => by
    rw [List.countP_cons, List.countP_cons, List.count_cons, countP_snoc h l]
    by_cases q : b = r
    · subst q
      simp [h]; (first | lia | omega)
    · simp [q]; (first | lia | omega)
theorem rem_snoc (preds : Nat → List Nat) {T : List Nat} {r : Nat} (h : r ∉ T) (x : Nat) : rem preds T x = rem preds (T ++ [r]) x + (preds x).count r := countP_snoc h _
theorem rem_zero {preds : Nat → List Nat} {T : List Nat} {x : Nat} : rem preds T x = 0 ↔ ∀ b ∈ preds x, b ∈ T := by
  unfold rem
  rw [List.countP_eq_zero]
  simp
structure KI (n : Nat) (comb : Nat → Bool) (preds : Nat → List Nat) (R : List Nat) (t : Nat) : Prop where
  nd : R.Nodup
  mem : ∀ x, x ∈ R ↔ (x < n ∧ comb x = true ∧ rem preds (R.take t) x = 0)
  top : ∀ (q x : Nat), R[q]? = some x → ∀ b ∈ preds x, b ∈ R.take q
structure KJ (n : Nat) (comb : Nat → Bool) (preds : Nat → List Nat) (R T : List Nat) (r : Nat) (d : Nat → Nat) : Prop where
  nd : R.Nodup
  pre : R.take (T.length + 1) = T ++ [r]
  mem : ∀ x, x ∈ R ↔ (x < n ∧ comb x = true ∧ rem preds T x - d x = 0)
  top : ∀ (q x : Nat), R[q]? = some x → ∀ b ∈ preds x, b ∈ R.take q
variable {n : Nat} {comb : Nat → Bool} {preds : Nat → List Nat} {R T : List Nat} {r t : Nat} {d : Nat → Nat}
theorem KI.start (h : KI n comb preds R t) (hr : R[t]? = some r) : KJ n comb preds R (R.take t) r fun _ => 0 := by
  have hl : t < R.length := (List.getElem?_eq_some_iff.mp hr).1
  have e1 : (R.take t).length = t := by rw [List.length_take]; (first | lia | omega)
  refine ⟨h.nd, ?_, fun x => ?_, h.top⟩
  · rw [e1, take_snoc hr]
  · rw [h.mem x]; simp
theorem KJ.notin (h : KJ n comb preds R T r d) : r ∉ T := by
  have nd := h.nd.sublist (List.take_sublist (T.length + 1) R)
  rw [h.pre] at nd
  exact fun q => (List.nodup_append.mp nd).2.2 r q r (.head _) rfl
theorem KJ.finish (h : KJ n comb preds R T r d) (hd : ∀ x, x < n → comb x = true → d x = (preds x).count r) : KI n comb preds R (T.length + 1) := by
  refine ⟨h.nd, fun x => ?_, h.top⟩
  rw [h.mem x, h.pre]
  constructor
  · rintro ⟨a, b, e⟩
    rw [hd x a b, rem_snoc preds h.notin x] at e
    exact ⟨a, b, by (first | lia | omega)⟩
  · rintro ⟨a, b, e⟩
    rw [hd x a b, rem_snoc preds h.notin x]
    exact ⟨a, b, by (first | lia | omega)⟩
noncomputable def bump (d : Nat → Nat) (j : Nat) : Nat → Nat := fun x => if x = j then d x + 1 else d x
theorem KJ.low (h : KJ n comb preds R T r d) {j : Nat} (hj : d j < (preds j).count r) : d j + 1 ≤ rem preds T j := by
  have := rem_snoc preds h.notin j; (first | lia | omega)
theorem KJ.step1 (h : KJ n comb preds R T r d) {j : Nat} (hn : j < n) (hc : comb j = true) (hj : d j < (preds j).count r) (hz : rem preds T j - d j - 1 = 0) : KJ n comb preds (R ++ [j]) T r (bump d j) := by
  have hlow := h.low hj
  have e1 := rem_snoc preds h.notin j
  have hin : j ∉ R := fun q => by have := (h.mem j).mp q; (first | lia | omega)
  have hz2 : rem preds (T ++ [r]) j = 0 := by (first | lia | omega)
  have hl : T.length + 1 ≤ R.length := by
    have := congrArg List.length h.pre
    rw [List.length_take, List.length_append] at this
    simp at this; (first | lia | omega)
  refine ⟨?_, ?_, fun x => ?_, fun q x hx b hb => ?_⟩
  · rw [List.nodup_append]
    refine ⟨h.nd, by simp, fun a ha b hb e => hin ?_⟩
    rw [List.mem_singleton.mp hb] at e
    exact e ▸ ha
  · rw [List.take_append_of_le_length hl, h.pre]
  · unfold bump
    by_cases q : x = j
    · subst q
      rw [if_pos rfl]
      exact ⟨fun _ => ⟨hn, hc, by (first | lia | omega)⟩, fun _ => by simp⟩
    · rw [if_neg q, ← h.mem x]
      simp [q]
  · rcases Nat.lt_or_ge q R.length with z | z
    · rw [List.getElem?_append_left z] at hx
      have := h.top q x hx b hb
      rw [List.take_append_of_le_length (by (first | lia | omega))]
      exact this
    · rw [List.getElem?_append_right z] at hx
      have hq : q - R.length = 0 := by
        rcases Nat.eq_zero_or_pos (q - R.length) with w | w
        · exact w
        · rw [List.getElem?_eq_none (by simp; (first | lia | omega))] at hx; cases hx
      rw [hq] at hx
      cases hx
      have hb2 := rem_zero.mp hz2 b hb
      rw [← h.pre] at hb2
      have hbR : b ∈ R := List.mem_of_mem_take hb2
      have : q = R.length := by (first | lia | omega)
      subst this
      rw [List.take_left]
      exact hbR
theorem KJ.step0 (h : KJ n comb preds R T r d) {j : Nat} (hj : d j < (preds j).count r) (hz : ¬ rem preds T j - d j - 1 = 0) : KJ n comb preds R T r (bump d j) := by
  refine ⟨h.nd, h.pre, fun x => ?_, h.top⟩
  rw [h.mem x]
  unfold bump
  by_cases q : x = j
  · subst q
    rw [if_pos rfl]
    have hlow := h.low hj
    exact ⟨fun ⟨_, _, e⟩ => by (first | lia | omega), fun ⟨_, _, e⟩ => by (first | lia | omega)⟩
  · rw [if_neg q]
theorem KI.done (h : KI n comb preds R t) (ht : R.length ≤ t) (hac : ∀ x, x < n → comb x = true → ∀ b ∈ preds x, b < x ∧ comb b = true) : ∀ x, x ∈ R ↔ (x < n ∧ comb x = true) := fun x => by
  constructor
  · intro q; have := (h.mem x).mp q; exact ⟨this.1, this.2.1⟩
  · induction x using Nat.strongRecOn with
    | _ x ih =>
      rintro ⟨a, b⟩
      rw [h.mem x, List.take_of_length_le ht]
      refine ⟨a, b, rem_zero.mpr fun y hy => ?_⟩
      have := hac x a b y hy
      exact ih y this.1 ⟨by (first | lia | omega), this.2⟩
theorem KI.len (h : KI n comb preds R t) : R.length ≤ n := by
  have := List.Nodup.length_le_of_subset (l₂ := List.range n) h.nd (fun x hx => List.mem_range.mpr ((h.mem x).mp hx).1)
  simpa using this
theorem KJ.len (h : KJ n comb preds R T r d) : R.length ≤ n := by
  have := List.Nodup.length_le_of_subset (l₂ := List.range n) h.nd (fun x hx => List.mem_range.mpr ((h.mem x).mp hx).1)
  simpa using this
/-- the start: those without anything ahead -/
theorem KI.zero : KI n comb preds ((List.range n).filter fun x => comb x && (preds x).isEmpty) 0 := by
  refine ⟨List.nodup_range.filter _, fun x => ?_, fun q x hx b hb => ?_⟩
  · rw [List.mem_filter, List.mem_range, List.take_zero, rem_zero]
    simp only [Bool.and_eq_true, List.isEmpty_iff, List.not_mem_nil, imp_false]
    rw [List.eq_nil_iff_forall_not_mem]
  · have := (List.mem_filter.mp (List.mem_of_getElem? hx)).2
    simp only [Bool.and_eq_true, List.isEmpty_iff] at this
    rw [this.2] at hb; cases hb
end
section
variable {c : Cx} {m : Loc} {led : List As} {P : Params} {k : Nat}
/-- the users' lists -/
noncomputable abbrev Us := List (Nat × Addr × List Nat)
noncomputable def usTail (U : Us) : List As := U.map fun e => .lst e.2.1 (e.2.2.map fun (i : Nat) => V.int i)
noncomputable def usAt : Us → Int → Option V
  | [], _ => none
  | e :: r, x => if x = (e.1 : Int) then some (.ref e.2.1) else usAt r x
noncomputable def usL : Us → Nat → List Nat
  | [], _ => []
  | e :: r, b => if b = e.1 then e.2.2 else usL r b
noncomputable def usApp (b i : Nat) : Us → Us
  | [] => []
  | e :: r => if b = e.1 then (e.1, e.2.1, e.2.2 ++ [i]) :: r else e :: usApp b i r
theorem usAt_app (b i : Nat) : ∀ (U : Us) (x : Int), usAt (usApp b i U) x = usAt U x
  | [], _ => rfl
  | e :: r, x => by
    unfold usApp
    by_cases q : b = e.1
    · rw [if_pos q]; rfl
    · rw [if_neg q]; unfold usAt; rw [usAt_app b i r x]
theorem usL_app {b i : Nat} : ∀ {U : Us}, (usAt U b).isSome = true → ∀ x, usL (usApp b i U) x = if x = b then usL U b ++ [i] else usL U x
  | [], h, _ => by cases h
  | e :: r, h, x => by
    unfold usApp
    by_cases q : b = e.1
    · rw [if_pos q]
      unfold usL
      by_cases q2 : x = b
      · rw [if_pos q2, if_pos (q2.trans q), if_pos q]
      · rw [if_neg q2, if_neg (fun z => q2 (z.trans q.symm)), if_neg (fun z => q2 (z.trans q.symm))]
    · rw [if_neg q]
      unfold usAt at h
      rw [if_neg (by (first | lia | omega))] at h
      have ih := usL_app (i := i) h x
      unfold usL
      by_cases q2 : x = e.1
      · rw [if_pos q2, if_neg (by (first | lia | omega)), if_pos q2]
      · rw [if_neg q2, if_neg q2, if_neg q]
        exact ih
theorem us_upd {b i : Nat} : ∀ {U : Us} {v : V}, usAt U b = some v → ∃ a, v = .ref a ∧ UpdA (.lst a ((usL U b).map fun (i : Nat) => V.int i)) (.lst a (((usL U b).map fun (i : Nat) => V.int i) ++ [.int i])) (usTail U) (usTail (usApp b i U))
  | [], v, h => by cases h
  | e :: r, v, h => by
    unfold usAt at h
    by_cases q : b = e.1
    · rw [if_pos (by (first | lia | omega))] at h
      cases h
      refine ⟨_, rfl, ?_⟩
      unfold usL usApp
      rw [if_pos q, if_pos q]
      have e1 : (V.int (i : Int)) :: [] = [i].map fun (i : Nat) => V.int i := rfl
      rw [e1, ← List.map_append]
      exact UpdA.head
    · rw [if_neg (by (first | lia | omega))] at h
      obtain ⟨a, rfl, z⟩ := us_upd (i := i) h
      refine ⟨_, rfl, ?_⟩
      unfold usL usApp
      rw [if_neg q, if_neg q]
      exact UpdA.tail z
theorem us_sel {b : Nat} : ∀ {U : Us} {v : V}, usAt U b = some v → ∃ a rest, v = .ref a ∧ Sel (.lst a ((usL U b).map fun (i : Nat) => V.int i)) (usTail U) rest
  | [], v, h => by cases h
  | e :: r, v, h => by
    unfold usAt at h
    by_cases q : b = e.1
    · rw [if_pos (by (first | lia | omega))] at h
      cases h
      refine ⟨e.2.1, usTail r, rfl, ?_⟩
      unfold usL
      rw [if_pos q]
      exact Sel.head
    · rw [if_neg (by (first | lia | omega))] at h
      obtain ⟨a, rest, rfl, z⟩ := us_sel h
      refine ⟨a, .lst e.2.1 (e.2.2.map fun (i : Nat) => V.int i) :: rest, rfl, ?_⟩
      unfold usL
      rw [if_neg q]
      exact Sel.tail z
theorem usL_none {b : Nat} : ∀ {U : Us}, usAt U b = none → usL U b = []
  | [], h => rfl
  | e :: r, h => by
    unfold usAt at h
    by_cases q : b = e.1
    · rw [if_pos (by (first | lia | omega))] at h; cases h
    · rw [if_neg (by (first | lia | omega))] at h
      unfold usL
      rw [if_neg q]
      exact usL_none h
end
section
variable {c : Cx} {m : Loc} {led : List As} {P : Params} {k : Nat}
noncomputable def bef (cells : List Row) (dv : Int → Option Nat) (x : Int) : Option Nat := (dv x).filter fun j => !stAt cells j
noncomputable def preds (cells : List Row) (dv : Int → Option Nat) (i : Nat) : List Nat := match cells[i]? with
  | some r => r.ins.filterMap (bef cells dv)
  | none => []
noncomputable def comb (cells : List Row) (i : Nat) : Bool := !stAt cells i
theorem UpdA.memA {x x' : As} {l l' : List As} (g : UpdA x x' l l') : MemA x l := by
  induction g with
  | head => exact .head
  | tail _ ih => exact .tail ih
theorem SubP.drop {x : As} (l : List As) : SubP (x :: l) l := ⟨[x], List.perm_append_comm (l₁ := [x])⟩
theorem sel_app {x : As} : ∀ (pre : List As) {l r : List As}, Sel x l r → Sel x (pre ++ l) (pre ++ r)
  | [], _, _, h => h
  | _ :: t, _, _, h => Sel.tail (sel_app t h)
theorem us_pick (us : Us) (r : Nat) (F : Addr) (pre : List As) : ∃ A rest X, (usAt us r).getD (.ref F) = .ref A ∧ Sel (.lst A ((usL us r).map fun (i : Nat) => V.int i)) (.lst F [] :: (pre ++ usTail us)) rest ∧ SubP rest (pre ++ X) ∧ SubP (.lst A ((usL us r).map fun (i : Nat) => V.int i) :: X) (usTail us) := by
  cases h : usAt us r with
  | none => exact ⟨F, pre ++ usTail us, usTail us, rfl, by rw [usL_none h]; exact .head, .refl _, .drop _⟩
  | some v =>
    obtain ⟨a, rest, rfl, z⟩ := us_sel h
    exact ⟨a, .lst F [] :: (pre ++ rest), rest, rfl, .tail (sel_app pre z), .drop _, ⟨[], by rw [List.append_nil]; exact z.perm.symm⟩⟩
theorem fm_snoc {α β : Type} {f : α → Option β} {l : List α} {i : Nat} {v : α} (h : l[i]? = some v) : (l.take (i + 1)).filterMap f = (l.take i).filterMap f ++ (f v).toList := by
  rw [take_snoc h, List.filterMap_append]
  congr 1
theorem f_snoc {f : Nat → Bool} {i : Nat} : (List.range (i + 1)).filter f = (List.range i).filter f ++ (if f i = true then [i] else []) := by
  rw [List.range_succ, List.filter_append]
  congr 1
  rw [List.filter_cons, List.filter_nil]
theorem ordered_ok (o : Ok c (Kt P) (k + 1 + 1)) {N dN I O Cl D : Addr} {nm : V} {n : Int} {nd : Nat} {g : Int → Option V} {dv : Int → Option Nat} {cells : List Row} (hc : cells.length < 1000) (hi : ∀ r ∈ cells, r.ins.length ≤ 10)
    (hg : ∀ x, g x = (dv x).map fun (j : Nat) => V.int j) (hdv : ∀ x j, dv x = some j → j < cells.length)
    (hac : ∀ x, x < cells.length → comb cells x = true → ∀ b ∈ preds cells dv x, b < x ∧ comb cells b = true) :
    Calls c (.ref 185) [.ref N, .ref D] [.ins N dN 160 (netF nm n I O Cl), .lst Cl (cells.map Row.v), .dic c.prog c.w D nd g]
      fun v led' => X2 fun (F : Addr) (R : List Nat) => Cj5 (v = .ref F) (R.Nodup) ((∀ x, x ∈ R ↔ (x < cells.length ∧ comb cells x = true))) ((∀ (q x : Nat), R[q]? = some x → ∀ b ∈ preds cells dv x, b ∈ R.take q)) (led' = [.lst F (R.map fun (i : Nat) => .int i), .ins N dN 160 (netF nm n I O Cl), .lst Cl (cells.map Row.v), .dic c.prog c.w D nd g]) := by
  refine in_ordered_cells o fun L o' => ?_
  intro KR hKR
  refine s_cons ?_
  repeat tb_rel
  intro W
  repeat tb_rel
  intro U
  repeat tb_rel
  intro Rd
  repeat tb_rel
  refine ⟨_, _, _, .rng (by (first | lia | omega)) (by simp; (first | lia | omega)), fun i m led => X8 fun u1 u2 u3 u4 us nu w nw => Cj7 (m = [(S "netlist", some (.ref N)), (S "driven", some (.ref D)), (S "cells", some (.ref Cl)), (S "waiting", some (.ref W)), (S "users", some (.ref U)), (S "ready", some (.ref Rd)), (S "index", u1), (S "count", u2), (S "net", u3), (S "before", u4), (S "turn", none)]) (led = .lst Rd (((List.range i).filter fun x => comb cells x && (preds cells dv x).isEmpty).map fun (i : Nat) => .int i) :: .dic c.prog c.w U nu (usAt us) :: .dic c.prog c.w W nw w :: .ins N dN 160 (netF nm n I O Cl) :: .lst Cl (cells.map Row.v) :: .dic c.prog c.w D nd g :: usTail us) (nu ≤ 10 * i) (nw ≤ i) ((∀ x, x < i → comb cells x = true → w x = some (.int (preds cells dv x).length))) ((∀ b x, (usL us b).count x = if x < i ∧ comb cells x = true then (preds cells dv x).count b else 0)) ((∀ b, (usL us b).length ≤ 10 * i)), ?_, ?_, ?_⟩
  · exact ⟨_, SubP.refl _, _, _, _, _, [], _, _, _, rfl, rfl, Nat.zero_le _, Nat.zero_le _, fun x hx => absurd hx (Nat.not_lt_zero _), fun b x => by rw [if_neg (by (first | lia | omega))]; rfl, fun b => Nat.zero_le _⟩
  · rintro i v m led hv KX1 KX2 hX1 hX2 ⟨u1, u2, u3, u4, us, nu, w, nw, rfl, rfl, hnu, hnw, hw, hus, hul0⟩
    obtain ⟨rfl, hil0⟩ := rngV_get hv
    have hj : i < cells.length := by simpa using hil0
    have hcj : cells[i]? = some cells[i] := List.getElem?_eq_getElem hj
    have hrow := row_tup hcj
    have hil : cells[i].ins.length ≤ 10 := hi _ (List.getElem_mem hj)
    generalize hro : cells[i] = r at *
    have hst : stAt cells i = isSt r.kind := by unfold stAt; rw [hcj]
    have hpr : preds cells dv i = r.ins.filterMap (bef cells dv) := by unfold preds; rw [hcj]
    repeat tb_rel
    refine Calls.same (kind_ok (k := k) (P := P) o') .nil ?_
    rintro v rfl
    repeat tb_rel
    refine ite_both (fun e => ?_) (fun e => ?_)
    · repeat tb_rel
      have hcb : comb cells i = false := by unfold comb; rw [hst, e]; rfl
      refine ⟨_, SubP.refl _, _, _, _, _, us, _, _, _, rfl, by rw [f_snoc, hcb, Bool.false_and, if_neg (by decide), List.append_nil], by (first | lia | omega), by (first | lia | omega), fun x hx hcx => hw x ?_ hcx, fun b x => ?_, fun b => by have := hul0 b; (first | lia | omega)⟩
      · rcases Nat.lt_or_ge x i with z | z
        · exact z
        · have : x = i := by (first | lia | omega)
          rw [this, hcb] at hcx; cases hcx
      · rw [hus b x]
        by_cases z : x = i
        · subst z; rw [hcb]; simp
        · have e9 : (x < i) = (x < i + 1) := propext ⟨fun _ => by (first | lia | omega), fun _ => by (first | lia | omega)⟩
          simp only [e9]
    · repeat tb_rel
      refine ⟨_, _, _, .tup, fun p m led => X4 fun u3 u4 us nu => Cj5 (m = [(S "netlist", some (.ref N)), (S "driven", some (.ref D)), (S "cells", some (.ref Cl)), (S "waiting", some (.ref W)), (S "users", some (.ref U)), (S "ready", some (.ref Rd)), (S "index", some (.int i)), (S "count", some (.int ((r.ins.take p).filterMap (bef cells dv)).length)), (S "net", u3), (S "before", u4), (S "turn", none)]) (led = .lst Rd (((List.range i).filter fun x => comb cells x && (preds cells dv x).isEmpty).map fun (i : Nat) => .int i) :: .dic c.prog c.w U nu (usAt us) :: .dic c.prog c.w W nw w :: .ins N dN 160 (netF nm n I O Cl) :: .lst Cl (cells.map Row.v) :: .dic c.prog c.w D nd g :: usTail us) (nu ≤ 10 * i + p) ((∀ b x, (usL us b).count x = (if x < i ∧ comb cells x = true then (preds cells dv x).count b else 0) + if x = i then ((r.ins.take p).filterMap (bef cells dv)).count b else 0)) ((∀ b, (usL us b).length ≤ 10 * i + p)), ?_, ?_, ?_⟩
      · exact ⟨_, SubP.refl _, _, _, us, _, rfl, rfl, by (first | lia | omega), fun b x => by rw [hus b x]; simp, fun b => hul0 b⟩
      · rintro p v m led hv KX1 KX2 hX1 hX2 ⟨u3, u4, us, nu, rfl, rfl, hnu, hus, hul⟩
        rw [List.getElem?_map, Option.map_eq_some_iff] at hv
        obtain ⟨x, hx, rfl⟩ := hv
        have hpl := (List.getElem?_eq_some_iff.mp hx).1
        have hgx := hg x
        cases hdx : dv x with
        | none =>
          have hgd : (g x).getD (.int (-1)) = .int (-1) := by rw [hgx, hdx]; rfl
          have hbx : bef cells dv x = none := by unfold bef; rw [hdx]; rfl
          have efm := fm_snoc (f := bef cells dv) hx
          rw [hbx] at efm
          simp only [Option.toList, List.append_nil] at efm
          repeat tb_rel
          exact ⟨_, SubP.refl _, _, _, us, _, by rw [efm], rfl, by (first | lia | omega), by rw [efm]; exact hus, fun b => by have := hul b; (first | lia | omega)⟩
        | some j =>
          have hgd : (g x).getD (.int (-1)) = .int j := by rw [hgx, hdx]; rfl
          have hjl := hdv x j hdx
          have hcj2 : cells[j]? = some cells[j] := List.getElem?_eq_getElem hjl
          have hrow2 := row_tup hcj2
          generalize hro2 : cells[j] = r2 at *
          have hst2 : stAt cells j = isSt r2.kind := by unfold stAt; rw [hcj2]
          have efm := fm_snoc (f := bef cells dv) hx
          repeat tb_rel
          refine Calls.same (kind_ok (k := k) (P := P) o') .nil ?_
          rintro v rfl
          repeat tb_rel
          refine ite_both (fun e2 => ?_) (fun e2 => ?_)
          · have e2 : isSt r2.kind = false := by simpa using e2
            have hbx : bef cells dv x = some j := by unfold bef; rw [hdx]; simp [hst2, e2]
            rw [hbx] at efm
            simp only [Option.toList] at efm
            have hlen : (((r.ins.take p).filterMap (bef cells dv)).length : Int) + 1 = ((r.ins.take (p + 1)).filterMap (bef cells dv)).length := by rw [efm]; simp
            have hkeep : ∀ us' : Us, (∀ b x, (usL us' b).count x = (usL us b).count x + if b = j ∧ x = i then 1 else 0) → ∀ b x, (usL us' b).count x = (if x < i ∧ comb cells x = true then (preds cells dv x).count b else 0) + if x = i then ((r.ins.take (p + 1)).filterMap (bef cells dv)).count b else 0 := fun us' h b x => by
              rw [h b x, hus b x, efm, List.count_append]
              by_cases z : x = i
              · subst z
                by_cases z2 : b = j
                · subst z2; simp
                · simp [z2, Ne.symm z2]
              · simp [z]
            have hnu2 : nu ≤ 100000 := by (first | lia | omega)
            repeat tb_rel
            refine ite_both (fun e3 => ?_) (fun e3 => ?_)
            · have e3 : (usAt us j).isSome = false := by simpa using e3
              have e4 : usAt us j = none := by simpa using e3
              repeat tb_rel
              intro F
              have hput : putI (j : Int) (.ref F) (usAt us) j = some (.ref F) := by unfold putI; rw [if_pos rfl]
              repeat tb_rel
              refine ⟨.lst Rd (((List.range i).filter fun x => comb cells x && (preds cells dv x).isEmpty).map fun (i : Nat) => .int i) :: .dic c.prog c.w U (if (usAt us j).isSome then nu else nu + 1) (putI j (.ref F) (usAt us)) :: .dic c.prog c.w W nw w :: .ins N dN 160 (netF nm n I O Cl) :: .lst Cl (cells.map Row.v) :: .dic c.prog c.w D nd g :: .lst F ([] ++ [.int i]) :: usTail us, .cons (by tb_start) (.cons (by tb_start) (.cons (by tb_start) (.cons (by tb_start) (.cons (by tb_start) (.cons (by tb_start) (.refl _)))))), _, _, (j, F, [i]) :: us, _, by rw [hlen], rfl, by rw [e3, if_neg (by decide)]; (first | lia | omega), hkeep _ fun b x => ?_, fun b => ?_⟩
              rotate_left
              · show (if b = j then [i] else usL us b).length ≤ _
                split
                · simp; (first | lia | omega)
                · have := hul b; (first | lia | omega)
              show (if b = j then [i] else usL us b).count x = _
              by_cases z : b = j
              · subst z
                rw [if_pos rfl, usL_none e4]
                by_cases z2 : x = i
                · subst z2; simp
                · rw [if_neg (fun w => z2 w.2)]
                  simp [Ne.symm z2]
              · rw [if_neg z, if_neg (fun w => z w.1)]; rfl
            · have e3 : (usAt us j).isSome = true := by simpa using e3
              obtain ⟨v, e4⟩ := Option.isSome_iff_exists.mp e3
              obtain ⟨a, rfl, hup⟩ := us_upd (i := i) e4
              have hz : ((usL us j).map fun (i : Nat) => V.int i).length ≤ 100000 := by rw [List.length_map]; have := hul j; (first | lia | omega)
              repeat tb_rel
              refine g_append (.tail (.tail (.tail (.tail (.tail (.tail hup.memA)))))) ?_
              repeat tb_rel
              refine n_append (.tail (.tail (.tail (.tail (.tail (.tail hup)))))) hz ?_
              repeat tb_rel
              refine ⟨_, .refl _, _, _, usApp j i us, _, by rw [hlen], by rw [show usAt (usApp j i us) = usAt us from funext (usAt_app j i us)], by (first | lia | omega), hkeep _ fun b x => ?_, fun b => ?_⟩
              · rw [usL_app e3 b]
                by_cases z : b = j
                · subst z
                  rw [if_pos rfl, List.count_append]
                  by_cases z2 : x = i
                  · subst z2; simp
                  · simp [z2, Ne.symm z2]
                · rw [if_neg z, if_neg (fun w => z w.1)]; rfl
              · rw [usL_app e3 b]
                split
                · rename_i q; rw [List.length_append]; have := hul j; have e5 : [i].length = 1 := rfl; (first | lia | omega)
                · have := hul b; (first | lia | omega)
          · have e2 : isSt r2.kind = true := by simpa using e2
            have hbx : bef cells dv x = none := by unfold bef; rw [hdx]; simp [hst2, e2]
            rw [hbx] at efm
            simp only [Option.toList, List.append_nil] at efm
            repeat tb_rel
            exact ⟨_, SubP.refl _, _, _, us, _, by rw [efm], rfl, by (first | lia | omega), by rw [efm]; exact hus, fun b => by have := hul b; (first | lia | omega)⟩
      · rintro m led ⟨u3, u4, us, nu, rfl, rfl, hnu, hus, hul⟩
        rw [List.length_map] at hnu hul hus
        rw [List.take_of_length_le (Nat.le_refl _), ← hpr] at hus
        have hcb : comb cells i = true := by unfold comb; rw [hst, e]; rfl
        rw [List.length_map, List.take_of_length_le (Nat.le_refl _), ← hpr]
        have hnw2 : nw ≤ 100000 := by (first | lia | omega)
        have hfin : ∀ b x, (usL us b).count x = if x < i + 1 ∧ comb cells x = true then (preds cells dv x).count b else 0 := fun b x => by
          rw [hus b x]
          by_cases z : x = i
          · subst z; simp [hcb]
          · have e9 : (x < i) = (x < i + 1) := propext ⟨fun _ => by (first | lia | omega), fun _ => by (first | lia | omega)⟩
            simp only [e9, if_neg z, Nat.add_zero]
        have hwf : ∀ x, x < i + 1 → comb cells x = true → putI (i : Int) (.int (preds cells dv i).length) w x = some (.int (preds cells dv x).length) := fun x hx hcx => by
          unfold putI
          by_cases z : x = i
          · subst z; rw [if_pos rfl]
          · rw [if_neg (by (first | lia | omega))]; exact hw x (by (first | lia | omega)) hcx
        have hfl : ((((List.range i).filter fun x => comb cells x && (preds cells dv x).isEmpty).map fun (i : Nat) => V.int i)).length ≤ 100000 := by
          rw [List.length_map]; have := List.length_filter_le (fun x => comb cells x && (preds cells dv x).isEmpty) (List.range i); rw [List.length_range] at this; (first | lia | omega)
        repeat tb_rel
        refine ite_both (fun e2 => ?_) (fun e2 => ?_)
        · have e2 := of_decide_eq_true e2
          have e3 : (preds cells dv i).isEmpty = true := by rw [List.isEmpty_iff]; exact List.length_eq_zero_iff.mp (by (first | lia | omega))
          repeat tb_rel
          refine ⟨_, SubP.refl _, _, _, _, _, us, _, _, _, rfl, by rw [f_snoc, hcb, e3, Bool.true_and, if_pos rfl, List.map_append]; rfl, by (first | lia | omega), ?_, hwf, hfin, fun b => by have := hul b; (first | lia | omega)⟩
          split <;> (first | lia | omega)
        · have e2 := of_decide_eq_false e2
          have e3 : (preds cells dv i).isEmpty = false := by rw [← Bool.not_eq_true, List.isEmpty_iff]; exact fun q => e2 (by rw [q]; rfl)
          have hf0 : ((List.range (i + 1)).filter fun x => comb cells x && (preds cells dv x).isEmpty) = (List.range i).filter fun x => comb cells x && (preds cells dv x).isEmpty := by rw [f_snoc, hcb, e3, Bool.true_and, if_neg (by decide), List.append_nil]
          repeat tb_rel
          refine ⟨_, SubP.refl _, _, _, _, _, us, _, _, _, rfl, by rw [hf0], by (first | lia | omega), ?_, hwf, hfin, fun b => by have := hul b; (first | lia | omega)⟩
          split <;> (first | lia | omega)
  · rintro m led ⟨u1, u2, u3, u4, us, nu, w, nw, rfl, rfl, hnu, hnw, hw, hus, hul⟩
    rw [rngV_len, Int.toNat_natCast, List.length_map] at *
    repeat tb_rel
    refine s_while (fun q m led0 => Dn led0 fun led => X5 fun t R u1 w nw => Cj7 (q = cells.length + 1 - t) (m = [(S "netlist", some (.ref N)), (S "driven", some (.ref D)), (S "cells", some (.ref Cl)), (S "waiting", some (.ref W)), (S "users", some (.ref U)), (S "ready", some (.ref Rd)), (S "index", u1), (S "count", u2), (S "net", u3), (S "before", u4), (S "turn", some (.int (t : Nat)))]) (led = .lst Rd (R.map fun (i : Nat) => .int i) :: .dic c.prog c.w U nu (usAt us) :: .dic c.prog c.w W nw w :: .ins N dN 160 (netF nm n I O Cl) :: .lst Cl (cells.map Row.v) :: .dic c.prog c.w D nd g :: usTail us) (t ≤ R.length) (KI cells.length (comb cells) (preds cells dv) R t) ((∀ x, x < cells.length → comb cells x = true → w x = some (.int (rem (preds cells dv) (R.take t) x)))) (nw ≤ 10000)) (cells.length + 1) ?_ ?_
    · refine ⟨_, SubP.refl _, 0, _, _, _, _, rfl, rfl, rfl, Nat.zero_le _, KI.zero, fun x hx hcx => ?_, by (first | lia | omega)⟩
      rw [hw x hx hcx]
      have : rem (preds cells dv) [] x = (preds cells dv x).length := by unfold rem; simp
      rw [List.take_zero, this]
    · rintro q m led0 KX1 KX2 hX1 hX2 ⟨led, sp, t, R, u1, w, nw, rfl, rfl, rfl, htR, hK, hw, hnw⟩
      refine SP.sub sp ?_
      clear sp led0
      have hRl : R.length ≤ 100000 := by have := hK.len; (first | lia | omega)
      have hRl2 : (R.map fun (i : Nat) => V.int i).length ≤ 100000 := by rw [List.length_map]; exact hRl
      repeat tb_rel
      refine ite_both (fun e => ?_) (fun e => ?_)
      · have e := of_decide_eq_true e
        rw [List.length_map] at e
        have ht : t < R.length := by (first | lia | omega)
        have hr : R[t]? = some R[t] := List.getElem?_eq_getElem ht
        generalize hrr : R[t] = r at *
        have hRt : (R.map fun (i : Nat) => V.int i)[(t : Int).toNat]? = some (.int r) := by rw [Int.toNat_natCast, List.getElem?_map, hr]; rfl
        have hJ := hK.start hr
        have hTl : (R.take t).length = t := by rw [List.length_take]; (first | lia | omega)
        have hcount : ∀ x, x < cells.length → comb cells x = true → (usL us r).count x = (preds cells dv x).count r := fun x hx hcx => by rw [hus r x, if_pos ⟨hx, hcx⟩]
        have hnone : ∀ x, ¬ (x < cells.length ∧ comb cells x = true) → (usL us r).count x = 0 := fun x hx => by rw [hus r x, if_neg hx]
        repeat tb_rel
        intro F
        obtain ⟨A, rest, X, hgA, hsel, hrest, hX⟩ := us_pick us r F [.lst Rd (R.map fun (i : Nat) => .int i), .dic c.prog c.w U nu (usAt us), .dic c.prog c.w W nw w, .ins N dN 160 (netF nm n I O Cl), .lst Cl (cells.map Row.v), .dic c.prog c.w D nd g]
        repeat tb_rel
        refine ⟨_, _, _, .lst hsel, fun p m led => X3 fun R' u1 w => Cj4 (m = [(S "netlist", some (.ref N)), (S "driven", some (.ref D)), (S "cells", some (.ref Cl)), (S "waiting", some (.ref W)), (S "users", some (.ref U)), (S "ready", some (.ref Rd)), (S "index", u1), (S "count", u2), (S "net", u3), (S "before", u4), (S "turn", some (.int (t : Nat)))]) (led = .lst Rd (R'.map fun (i : Nat) => .int i) :: .dic c.prog c.w U nu (usAt us) :: .dic c.prog c.w W nw w :: .ins N dN 160 (netF nm n I O Cl) :: .lst Cl (cells.map Row.v) :: .dic c.prog c.w D nd g :: X) (KJ cells.length (comb cells) (preds cells dv) R' (R.take t) r (fun x => ((usL us r).take p).count x)) ((∀ x, x < cells.length → comb cells x = true → w x = some (.int (rem (preds cells dv) (R.take t) x - ((usL us r).take p).count x : Nat)))), ?_, ?_, ?_⟩
        · exact ⟨_, hrest, R, u1, w, rfl, rfl, by simpa using hJ, by simpa using hw⟩
        · rintro p v m led hv KX1 KX2 hX1 hX2 ⟨R', u1, w, rfl, rfl, hJ, hw⟩
          rw [List.getElem?_map, Option.map_eq_some_iff] at hv
          obtain ⟨j, hj, rfl⟩ := hv
          have hc1 : ∀ x, ((usL us r).take (p + 1)).count x = ((usL us r).take p).count x + if x = j then 1 else 0 := fun x => by
            rw [take_snoc hj, List.count_append]
            by_cases z : x = j
            · subst z; simp
            · simp [z, Ne.symm z]
          have hb : (fun x => ((usL us r).take (p + 1)).count x) = bump (fun x => ((usL us r).take p).count x) j := funext fun x => by
            rw [hc1 x]; unfold bump; split <;> rfl
          have hle : ((usL us r).take (p + 1)).count j ≤ (usL us r).count j := (List.take_sublist _ _).count_le _
          have hc1j : ((usL us r).take (p + 1)).count j = ((usL us r).take p).count j + 1 := by rw [hc1 j, if_pos rfl]
          have hcj : j < cells.length ∧ comb cells j = true := Classical.byContradiction fun q => by have := hnone j q; (first | lia | omega)
          have hlt : ((usL us r).take p).count j < (preds cells dv j).count r := by have := hcount j hcj.1 hcj.2; (first | lia | omega)
          have hlow := hJ.low hlt
          have hwj := hw j hcj.1 hcj.2
          have hsome : (w j).isSome = true := by rw [hwj]; rfl
          have hnw2 : nw ≤ 100000 := by (first | lia | omega)
          have hval : ((rem (preds cells dv) (R.take t) j - ((usL us r).take p).count j : Nat) : Int) - 1 = ((rem (preds cells dv) (R.take t) j - ((usL us r).take p).count j - 1 : Nat) : Int) := by (first | lia | omega)
          have hRl : (R'.map fun (i : Nat) => V.int i).length ≤ 100000 := by rw [List.length_map]; have := hJ.len; (first | lia | omega)
          have hw2 : ∀ x, x < cells.length → comb cells x = true → putI (j : Int) (.int (rem (preds cells dv) (R.take t) j - ((usL us r).take p).count j - 1 : Nat)) w x = some (.int (rem (preds cells dv) (R.take t) x - ((usL us r).take (p + 1)).count x : Nat)) := fun x hx hcx => by
            unfold putI
            by_cases z : x = j
            · subst z; rw [if_pos rfl, hc1j, Nat.sub_sub]
            · rw [if_neg (by (first | lia | omega)), hc1 x, if_neg z]; exact hw x hx hcx
          have hput : ∀ v, putI (j : Int) v w j = some v := fun v => by unfold putI; rw [if_pos rfl]
          have hput2 := hput (.int (((rem (preds cells dv) (R.take t) j - ((usL us r).take p).count j : Nat) : Int) - 1))
          repeat tb_rel
          rw [hval, hsome, if_pos rfl]
          refine ite_both (fun e2 => ?_) (fun e2 => ?_)
          · have e2 := of_decide_eq_true e2
            repeat tb_rel
            exact ⟨_, SubP.refl _, R' ++ [j], _, _, rfl, by rw [List.map_append]; rfl, by rw [hb]; exact hJ.step1 hcj.1 hcj.2 hlt (by (first | lia | omega)), hw2⟩
          · have e2 := of_decide_eq_false e2
            repeat tb_rel
            exact ⟨_, SubP.refl _, _, _, _, rfl, rfl, by rw [hb]; exact hJ.step0 hlt (by (first | lia | omega)), hw2⟩
        · rintro m led ⟨R', u1, w, rfl, rfl, hJ, hw⟩
          rw [List.length_map, List.take_of_length_le (Nat.le_refl _)] at *
          have hK2 := hJ.finish fun x hx hcx => hcount x hx hcx
          rw [hTl] at hK2
          repeat tb_rel
          have hTl2 : R'.take (t + 1) = R.take t ++ [r] := by have := hJ.pre; rw [hTl] at this; exact this
          refine ⟨cells.length + 1 - (t + 1), ?_, _, .cons (.tail .head) (.cons (.tail .head) (.cons (.tail .head) (.cons (.tail .head) (.cons (.tail .head) (.cons (.tail .head) hX))))), t + 1, R', u1, w, nw, rfl, rfl, rfl, ?_, hK2, fun x hx hcx => ?_, hnw⟩
          · have := hK.len; (first | lia | omega)
          · have := congrArg List.length hTl2
            rw [List.length_take, List.length_append, hTl] at this
            have e5 : [r].length = 1 := rfl
            (first | lia | omega)
          · rw [hw x hx hcx, hTl2, hcount x hx hcx, rem_snoc (preds cells dv) hJ.notin x, Nat.add_sub_cancel]
      · have e := of_decide_eq_false e
        rw [List.length_map] at e
        repeat tb_rel
        exact ⟨_, .cons (by tb_start) (.cons (.tail (.tail .head)) (.cons (.tail (.tail .head)) (.cons (.tail (.tail .head)) (.nil _)))), Rd, R, rfl, hK.nd, hK.done (by (first | lia | omega)) hac, hK.top, rfl⟩
end
section
variable {c : Cx} {m : Loc} {led : List As} {P : Params} {k : Nat}
/-- where a net is driven -/
noncomputable def dvOf (cells : List Row) (x : Int) : Option Nat := cells.findIdx? fun r => r.out == x
theorem dvOf_lt {cells : List Row} {x : Int} {j : Nat} (h : dvOf cells x = some j) : j < cells.length := (List.findIdx?_eq_some_iff_getElem.mp h).1
theorem dvOf_some {cells : List Row} {x : Int} {j : Nat} (h : dvOf cells x = some j) : ∃ r, cells[j]? = some r ∧ r.out = x := by
  obtain ⟨hl, hp, _⟩ := List.findIdx?_eq_some_iff_getElem.mp h
  exact ⟨_, List.getElem?_eq_getElem hl, by simpa using hp⟩
theorem dvOf_none {cells : List Row} {x : Int} (h : dvOf cells x = none) : ∀ (j : Nat) (r : Row), cells[j]? = some r → r.out ≠ x := fun j r hr e => by
  have := List.findIdx?_eq_none_iff.mp h r (List.mem_of_getElem? hr)
  simp [e] at this
theorem drv_dv {cells : List Row} {g : Int → Option V} (h : Drv cells cells.length g) (x : Int) : g x = (dvOf cells x).map fun (j : Nat) => V.int j := by
  cases q : dvOf cells x with
  | none => exact h.none' x fun j r _ hr => dvOf_none q j r hr
  | some j =>
    obtain ⟨r, hr, rfl⟩ := dvOf_some q
    exact h.some' j r (dvOf_lt q) hr
structure Ord (cells : List Row) (R : List Nat) : Prop where
  nd : R.Nodup
  mem : ∀ x, x ∈ R ↔ (x < cells.length ∧ comb cells x = true)
  top : ∀ (q x : Nat), R[q]? = some x → ∀ b ∈ preds cells (dvOf cells) x, b ∈ R.take q
theorem Ord.len {cells : List Row} {R : List Nat} (h : Ord cells R) : R.length + (stIdx cells).length = cells.length := by
  have p : R.Perm ((List.range cells.length).filter (comb cells)) := by
    rw [List.perm_ext_iff_of_nodup h.nd (List.nodup_range.filter _)]
    intro x
    rw [h.mem, List.mem_filter, List.mem_range]
  rw [p.length_eq]
  unfold stIdx comb
  have := List.length_eq_countP_add_countP (l := List.range cells.length) (stAt cells)
  rw [List.length_range, List.countP_eq_length_filter, List.countP_eq_length_filter] at this
  have e : (fun i => decide ¬stAt cells i = true) = fun i => !stAt cells i := funext fun i => by cases stAt cells i <;> rfl
  rw [e] at this
  (first | lia | omega)
theorem comb_ok (o : Ok c (Kt P) (k + 1 + 1 + 1)) {N dN I O Cl Ia Ib : Addr} {nm : V} {n : Int} {cells : List Row} {na nb : List Int} (hc : cells.length < 1000) (hna : na.length < 1000) (hnb : nb.length < 1000) (hnd : (([0, 1] : List Int) ++ na ++ nb ++ cells.map Row.out).Nodup) (hi : ∀ r ∈ cells, r.ins.length ≤ 10)
    (hac : ∀ x, x < cells.length → comb cells x = true → ∀ b ∈ preds cells (dvOf cells) x, b < x ∧ comb cells b = true) :
    Calls c (.ref 192) [.ref N] [.ins N dN 160 (netF nm n I O Cl), .lst I (inV Ia Ib), .lst Ia (na.map .int), .lst Ib (nb.map .int), .lst Cl (cells.map Row.v)]
      fun v led' => X2 fun (F : Addr) (R : List Nat) => Cj3 (v = .ref F) (Ord cells R) (led' = [.lst F (R.map fun (i : Nat) => .int i), .ins N dN 160 (netF nm n I O Cl), .lst I (inV Ia Ib), .lst Ia (na.map .int), .lst Ib (nb.map .int), .lst Cl (cells.map Row.v)]) := by
  refine in_comb_order o fun L o' => ?_
  intro KR hKR
  refine s_cons ?_
  repeat tb_rel
  refine Calls.go (drivers_ok (k := k + 1) (P := P) o' hc hna hnb hnd) (.cons (by tb_start) (.cons (by tb_start) (.cons (by tb_start) (.cons (by tb_start) (.cons (by tb_start) .nil))))) ?_
  rintro v led' ⟨D, nd, g, rfl, hD, hnd2, rfl⟩
  refine ⟨_, .cons (.cons (.cons (.cons (.cons (.cons .nil))))), ?_⟩
  repeat tb_rel
  refine Calls.go (ordered_ok (k := k) (P := P) o' hc hi (drv_dv hD) (fun x j => dvOf_lt) hac) (.cons (by tb_start) (.cons (by tb_start) (.cons (by tb_start) .nil))) ?_
  rintro v led' ⟨F, R, rfl, h1, h2, h3, rfl⟩
  have hO : Ord cells R := ⟨h1, h2, h3⟩
  have hlen := hO.len
  refine ⟨_, .cons (.cons (.cons (.cons .nil))), ?_⟩
  have hRl : (R.map fun (i : Nat) => V.int i).length < 2 ^ 40 := by rw [List.length_map]; (first | lia | omega)
  repeat tb_rel
  refine Calls.go (stcells_ok (k := k) (P := P) o' hc) (.cons (by tb_start) (.cons (by tb_start) .nil)) ?_
  rintro v led' ⟨F2, rfl, rfl⟩
  refine ⟨_, .cons (.cons (.cons .nil)), ?_⟩
  have hSl : ((stIdx cells).map fun (i : Nat) => V.int i).length < 2 ^ 40 := by rw [List.length_map]; (first | lia | omega)
  have hf : decide (((R.map fun (i : Nat) => V.int i).length : Int) + ((stIdx cells).map fun (i : Nat) => V.int i).length < (cells.map Row.v).length) = false := decide_eq_false (by rw [List.length_map, List.length_map, List.length_map]; (first | lia | omega))
  repeat tb_rel
  exact ⟨[.lst F (R.map fun (i : Nat) => .int i), .ins N dN 160 (netF nm n I O Cl), .lst I (inV Ia Ib), .lst Ia (na.map .int), .lst Ib (nb.map .int), .lst Cl (cells.map Row.v)], .cons (by tb_start) (.cons (by tb_start) (.cons (by tb_start) (.cons (by tb_start) (.cons (by tb_start) (.cons (by tb_start) (.nil _)))))), F, R, rfl, hO, rfl⟩
end
section
variable {c : Cx} {m : Loc} {led : List As} {P : Params} {k : Nat}
noncomputable def rowsOf (cells : List Row) (R : List Nat) : List Row := R.filterMap fun i => cells[i]?
theorem rowsOf_map {cells : List Row} : ∀ {R : List Nat}, (∀ x ∈ R, x < cells.length) → (rowsOf cells R).length = R.length ∧ ∀ (j : Nat) (r : Row), (rowsOf cells R)[j]? = some r → ∃ i : Nat, R[j]? = some i ∧ cells[i]? = some r
  | [], _ => ⟨rfl, fun j r h => by simp [rowsOf] at h⟩
  | x :: R, h => by
    have hx := h x (.head _)
    obtain ⟨e1, e2⟩ := rowsOf_map (cells := cells) (R := R) fun y hy => h y (.tail _ hy)
    have e : rowsOf cells (x :: R) = cells[x] :: rowsOf cells R := by unfold rowsOf; rw [List.filterMap_cons_some (List.getElem?_eq_getElem hx)]
    rw [e]
    refine ⟨by simp [e1], fun j r hj => ?_⟩
    cases j with
    | zero => cases hj; exact ⟨x, rfl, List.getElem?_eq_getElem hx⟩
    | succ j => exact e2 j r hj
/-- the bits at the start: all 0 but net 1 and the states' first bits -/
noncomputable def initB (sts : List StC) : Int → Int := sts.foldl (fun B s => upd B s.out s.init) (upd (fun _ => 0) 1 1)
theorem s_expr2 {K : F → Loc → List As → Prop} {e : Expr} {pos : Pos} (hi : interactive c.env = false) (hs : swapsWith e none pos.line c.env = pure false)
    (h : SE c m led e fun v m1 led1 => K .next m1 led1) : SS c m led (.Expr e pos) K := fun T hp tk s =>
  wpAny_Expr_any (wpAny_mono (h T hp tk s) (fun a s1 zz => Post.go zz fun v1 h1 tk1 m1 led1 e s1' r1 k1 => by
    subst e
    exact post_here s1' FR.next k1) fun _ _ x => x) hi hs
theorem initB_bits {sts : List StC} (h : ∀ s ∈ sts, s.init = 0 ∨ s.init = 1) : Bits (initB sts) := by
  unfold initB
  have h0 : Bits (upd (fun _ => 0) 1 1) := Bits.upd (fun _ => .inl rfl) 1 (.inr rfl)
  generalize upd (fun _ => 0) 1 1 = B at *
  induction sts generalizing B with
  | nil => exact h0
  | cons s r ih => exact ih (fun x hx => h x (.tail _ hx)) _ (h0.upd _ (h s (.head _)))
theorem simInit_ok (o : Ok c (Kt P) (k + 1 + 1 + 1 + 1)) {W dW N dN I O Cl Ia Ib : Addr} {nm : V} {n : Nat} {cells : List Row} {sts : List StC} {na nb : List Int} (hn0 : 2 ≤ n) (hn : n < 1000) (hc : cells.length < 1000) (hna : na.length < 1000) (hnb : nb.length < 1000) (hnd : (([0, 1] : List Int) ++ na ++ nb ++ cells.map Row.out).Nodup) (hi : ∀ r ∈ cells, r.ins.length ≤ 10)
    (hac : ∀ x, x < cells.length → comb cells x = true → ∀ b ∈ preds cells (dvOf cells) x, b < x ∧ comb cells b = true)
    (ha : AtS sts (stIdx cells) cells) (hs : ∀ s ∈ sts, s.ok n) (hg : ∀ (i : Nat) (r : Row), cells[i]? = some r → comb cells i = true → r.gate n) :
    Calls c (.ref 239) [.ref W, .ref N] [.ins W dW 292 [], .ins N dN 160 (netF nm n I O Cl), .lst I (inV Ia Ib), .lst Ia (na.map .int), .lst Ib (nb.map .int), .lst Cl (cells.map Row.v)]
      fun v led' => v = .none ∧ X7 fun (Od Sd Vd Ld : Addr) (R : List Nat) (g : Int → Option V) (nl : Nat) => Cj4 (Ord cells R) (LastR (stIdx cells) g (noteL sts (fun _ => none) (evalRows (initB sts) (rowsOf cells R)) sts.length)) (nl ≤ sts.length) (led' = [.ins W dW 292 (simF N Od Sd Vd Ld), .ins N dN 160 (netF nm n I O Cl), .lst I (inV Ia Ib), .lst Ia (na.map .int), .lst Ib (nb.map .int), .lst Cl (cells.map Row.v), .lst Od (R.map fun (i : Nat) => .int i), .lst Sd ((stIdx cells).map fun (i : Nat) => .int i), .lst Vd (tab n (evalRows (initB sts) (rowsOf cells R))), .dic c.prog c.w Ld nl g]) := by
  have hsl : sts.length ≤ cells.length := by rw [← ha.len]; unfold stIdx; have := List.length_filter_le (stAt cells) (List.range cells.length); rw [List.length_range] at this; exact this
  refine in_NetSim_init o fun L o' => ?_
  intro KR hKR
  refine s_cons ?_
  repeat tb_rel
  refine Calls.go (comb_ok (k := k) (P := P) o' hc hna hnb hnd hi hac) (.cons (by tb_start) (.cons (by tb_start) (.cons (by tb_start) (.cons (by tb_start) (.cons (by tb_start) .nil))))) ?_
  rintro v led' ⟨Od, R, rfl, hO, rfl⟩
  refine ⟨_, .cons (.cons (.cons (.cons (.cons (.cons .nil))))), ?_⟩
  repeat tb_rel
  refine Calls.go (stcells_ok (k := k + 1) (P := P) o' hc) (.cons (by tb_start) (.cons (by tb_start) .nil)) ?_
  rintro v led' ⟨Sd, rfl, rfl⟩
  refine ⟨_, .cons (.cons (.cons .nil)), ?_⟩
  repeat tb_rel
  intro Z
  repeat tb_rel
  refine p_mulL .head (by (first | lia | omega)) (by (first | lia | omega)) fun Vd => ?_
  have e0 : List.replicate ((n : Int).toNat) (V.int 0) = tab n (fun _ => 0) := by
    unfold tab
    rw [Int.toNat_natCast]
    apply List.ext_getElem?
    intro j
    rcases Nat.lt_or_ge j n with z | z
    · rw [List.getElem?_map, List.getElem?_range z, List.getElem?_replicate, if_pos z]; rfl
    · rw [List.getElem?_eq_none (by simpa using z), List.getElem?_eq_none (by simpa using z)]
  rw [e0]
  have hlt : (1 : Int) < (tab n (fun _ => 0)).length := by rw [tab_len]; (first | lia | omega)
  have et1 : (tab n (fun _ => 0)).set (1 : Int).toNat (.int 1) = tab n (upd (fun _ => 0) 1 1) := tab_set (by (first | lia | omega)) (by (first | lia | omega))
  repeat tb_rel
  rw [et1]
  have eI : initB (sts.take 0) = upd (fun _ => 0) 1 1 := by rw [List.take_zero]; rfl
  refine' ⟨_, _, _, .lst ?qs, fun j m led => X2 fun u1 u2 => m = [(S "self", some (.ref W)), (S "netlist", some (.ref N)), (S "index", u1), (S "cell", u2)] ∧ led = [.lst Vd (tab n (initB (sts.take j))), .ins W dW 292 [(S "netlist", .ref N), (S "order", .ref Od), (S "states", .ref Sd), (S "values", .ref Vd)], .ins N dN 160 (netF nm n I O Cl), .lst Cl (cells.map Row.v), .lst Od (R.map fun (i : Nat) => .int i), .lst I (inV Ia Ib), .lst Ia (na.map .int), .lst Ib (nb.map .int)], ?_, ?_, ?_⟩
  case qs => tb_start
  · rw [← eI]
    exact ⟨[.lst Vd (tab n (initB (sts.take 0))), .ins W dW 292 [(S "netlist", .ref N), (S "order", .ref Od), (S "states", .ref Sd), (S "values", .ref Vd)], .ins N dN 160 (netF nm n I O Cl), .lst Cl (cells.map Row.v), .lst Od (R.map fun (i : Nat) => .int i), .lst I (inV Ia Ib), .lst Ia (na.map .int), .lst Ib (nb.map .int)], .cons (by tb_start) (.cons (by tb_start) (.cons (by tb_start) (.cons (by tb_start) (.cons (by tb_start) (.cons (by tb_start) (.cons (by tb_start) (.cons (by tb_start) (.nil _)))))))), _, _, rfl, rfl⟩
  · rintro j v m led hv KX1 KX2 hX1 hX2 ⟨u1, u2, rfl, rfl⟩
    rw [List.getElem?_map, Option.map_eq_some_iff] at hv
    obtain ⟨i, hij, rfl⟩ := hv
    have hjl : j < sts.length := by rw [← ha.len]; exact (List.getElem?_eq_some_iff.mp hij).1
    have hsj : sts[j]? = some sts[j] := List.getElem?_eq_getElem hjl
    have hso := hs _ (List.getElem_mem hjl)
    generalize sts[j] = s at *
    obtain ⟨i', hi', hci⟩ := ha.at' j s hsj
    rw [hij] at hi'
    cases hi'
    have hrow := row_tup hci
    have hil : i < cells.length := (List.getElem?_eq_some_iff.mp hci).1
    have ho0 : 0 ≤ s.row.out := hso.ho.1
    have hlt2 : s.row.out < (tab n (initB (sts.take j))).length := by rw [tab_len]; exact hso.ho.2
    have ho40 : s.row.out < 2 ^ 40 := by have : s.row.out < n := hso.ho.2; (first | lia | omega)
    have et2 : (tab n (initB (sts.take j))).set s.row.out.toNat (.int s.init) = tab n (initB (sts.take (j + 1))) := by
      show (tab n (initB (sts.take j))).set s.out.toNat (.int s.init) = _
      rw [tab_set hso.ho.1 hso.ho.2, take_snoc hsj]
      unfold initB
      rw [List.foldl_append]; rfl
    repeat tb_rel
    refine Calls.same (sinit_ok (s := s) (k := k + 1 + 1) (P := P) o') .nil ?_
    rintro v rfl
    repeat tb_rel
    rw [et2]
    exact ⟨_, SubP.refl _, _, _, rfl, rfl⟩
  · rintro m led ⟨u1, u2, rfl, rfl⟩
    rw [List.length_map, ha.len, List.take_of_length_le (Nat.le_refl _)]
    repeat tb_rel
    have hR : ∀ x ∈ R, x < cells.length := fun x hx => ((hO.mem x).mp hx).1
    obtain ⟨hrl, hrm⟩ := rowsOf_map hR
    have hOl := hO.len
    have hB : Bits (initB sts) := initB_bits fun s h => (hs s h).hi
    have hgr : ∀ r ∈ rowsOf cells R, r.gate n := fun r hr => by
      obtain ⟨j, hj, e⟩ := List.getElem_of_mem hr
      obtain ⟨i, hi, hci⟩ := hrm j r (by rw [List.getElem?_eq_getElem hj, e])
      exact hg i r hci ((hO.mem i).mp (List.mem_of_getElem? hi)).2
    refine Calls.go (evalc_ok (k := k) o' hn hB hc hrl.symm (by (first | lia | omega)) hrm hgr) (.cons (by tb_start) (.cons (by tb_start) (.cons (by tb_start) (.cons (by tb_start) .nil)))) ?_
    rintro v led' ⟨rfl, rfl⟩
    refine ⟨_, .cons (.cons (.cons (.cons .nil))), ?_⟩
    repeat tb_rel
    intro Ld
    iterate 3 tb_rel
    refine s_cons (s_expr2 (by rfl) (by rfl) ?_)
    repeat tb_rel
    refine Calls.go (note_ok (k := k + 1 + 1) (P := P) o' hn hc (by (first | lia | omega)) (nl := 0) (by (first | lia | omega)) ha hs (lo := fun _ => none) (g := fun _ => none) (fun _ _ _ => rfl)) (.cons (by tb_start) (.cons (by tb_start) (.cons (by tb_start) (.cons (by tb_start) (.cons (by tb_start) (.cons (by tb_start) .nil)))))) ?_
    rintro v led' ⟨rfl, g, nl, hgL, hnl, _, rfl⟩
    refine ⟨_, .cons (.cons (.cons (.cons (.cons (.cons .nil))))), ?_⟩
    repeat tb_rel
    exact ⟨[.ins W dW 292 (simF N Od Sd Vd Ld), .ins N dN 160 (netF nm n I O Cl), .lst I (inV Ia Ib), .lst Ia (na.map .int), .lst Ib (nb.map .int), .lst Cl (cells.map Row.v), .lst Od (R.map fun (i : Nat) => .int i), .lst Sd ((stIdx cells).map fun (i : Nat) => .int i), .lst Vd (tab n (evalRows (initB sts) (rowsOf cells R))), .dic c.prog c.w Ld nl g],
      .cons (by tb_start) (.cons (by tb_start) (.cons (by tb_start) (.cons (by tb_start) (.cons (by tb_start) (.cons (by tb_start) (.cons (by tb_start) (.cons (by tb_start) (.cons (by tb_start) (.cons (by tb_start) (.nil _)))))))))), rfl, Od, Sd, Vd, Ld, R, g, nl, hO, hgL, by (first | lia | omega), rfl⟩
end
/-- each row's nets are no outs of it or of a later row -/
noncomputable def Topo : List Row → Prop
  | [] => True
  | r :: rs => (∀ x ∈ r.ins, ∀ r' ∈ r :: rs, r'.out ≠ x) ∧ Topo rs
theorem topo_of_idx : ∀ {rs : List Row}, (∀ (i j : Nat) (r r' : Row), rs[i]? = some r → rs[j]? = some r' → i ≤ j → ∀ x ∈ r.ins, r'.out ≠ x) → Topo rs
  | [], _ => trivial
  | r :: rs, h => by
    refine ⟨fun x hx r' hr' => ?_, topo_of_idx fun i j r r' hi hj hij => h (i + 1) (j + 1) r r' hi hj (by (first | lia | omega))⟩
    obtain ⟨j, hj, e⟩ := List.getElem_of_mem hr'
    exact h 0 j r r' rfl (by rw [List.getElem?_eq_getElem hj, e]) (Nat.zero_le _) x hx
/-- what an evaluation in order answers -/
structure Fix (B F : Int → Int) (rs : List Row) : Prop where
  off : ∀ x, (∀ r ∈ rs, r.out ≠ x) → F x = B x
  on : ∀ r ∈ rs, F r.out = gval r.kind (r.ins.map F)
theorem eval_fix : ∀ {rs : List Row} {B : Int → Int}, Topo rs → (rs.map Row.out).Nodup → Fix B (evalRows B rs) rs
  | [], B, _, _ => ⟨fun _ _ => rfl, fun _ h => by cases h⟩
  | r :: rs, B, ht, hn => by
    rw [List.map_cons, List.nodup_cons] at hn
    have ih := eval_fix (rs := rs) (B := evalRow B r) ht.2 hn.2
    have e : evalRows B (r :: rs) = evalRows (evalRow B r) rs := rfl
    rw [e]
    have hoff : ∀ x, (∀ r' ∈ r :: rs, r'.out ≠ x) → evalRows (evalRow B r) rs x = B x := fun x hx => by
      rw [ih.off x fun r' h => hx r' (.tail _ h)]
      unfold evalRow upd
      rw [if_neg (fun q => hx r (.head _) q.symm)]
    refine ⟨hoff, fun r' hr' => ?_⟩
    rcases List.mem_cons.mp hr' with rfl | hr'
    · rw [ih.off r'.out fun r'' h q => hn.1 (List.mem_map.mpr ⟨r'', h, q⟩)]
      unfold evalRow upd
      rw [if_pos rfl]
      congr 1
      refine List.map_congr_left fun x hx => ?_
      exact (hoff x (ht.1 x hx)).symm
    · exact ih.on r' hr'
theorem fix_unique : ∀ {rs : List Row} {F F' : Int → Int}, Topo rs → (∀ x, (∀ r ∈ rs, r.out ≠ x) → F x = F' x) → (∀ r ∈ rs, F r.out = gval r.kind (r.ins.map F)) → (∀ r ∈ rs, F' r.out = gval r.kind (r.ins.map F')) → ∀ x, F x = F' x
  | [], F, F', _, h, _, _, x => h x fun _ q => by cases q
  | r :: rs, F, F', ht, h, h1, h2, x => by
    have hr : F r.out = F' r.out := by
      rw [h1 r (.head _), h2 r (.head _)]
      congr 1
      exact List.map_congr_left fun y hy => h y (ht.1 y hy)
    refine fix_unique ht.2 (fun y hy => ?_) (fun r' q => h1 r' (.tail _ q)) (fun r' q => h2 r' (.tail _ q)) x
    by_cases q : r.out = y
    · rw [← q]; exact hr
    · refine h y fun r' hr' => ?_
      rcases List.mem_cons.mp hr' with rfl | hr'
      · exact q
      · exact hy r' hr'
/-- any order that is right gives the same bits -/
theorem eval_perm {rs gs : List Row} {B : Int → Int} (h1 : Topo rs) (h2 : Topo gs) (n1 : (rs.map Row.out).Nodup) (n2 : (gs.map Row.out).Nodup) (hm : ∀ r, r ∈ rs ↔ r ∈ gs) : evalRows B rs = evalRows B gs := by
  have f1 := eval_fix (B := B) h1 n1
  have f2 := eval_fix (B := B) h2 n2
  funext x
  refine fix_unique h2 (fun y hy => ?_) (fun r hr => f1.on r ((hm r).mpr hr)) f2.on x
  rw [f2.off y hy, f1.off y fun r hr => hy r ((hm r).mp hr)]
theorem nodup_inj {α : Type} {l : List α} (h : l.Nodup) {i j : Nat} {hi : i < l.length} {hj : j < l.length} (e : l[i] = l[j]) : i = j := by
  have p := List.pairwise_iff_getElem.mp h
  rcases Nat.lt_trichotomy i j with z | z | z
  · exact absurd e (p i j hi hj z)
  · exact z
  · exact absurd e.symm (p j i hj hi z)
theorem mem_rowsOf {cells : List Row} {R : List Nat} {r : Row} : r ∈ rowsOf cells R ↔ ∃ i ∈ R, cells[i]? = some r := by
  unfold rowsOf
  rw [List.mem_filterMap]
theorem out_inj {cells : List Row} (hn : (cells.map Row.out).Nodup) {i j : Nat} {r r' : Row} (hi : cells[i]? = some r) (hj : cells[j]? = some r') (e : r.out = r'.out) : i = j := by
  have h1 : (cells.map Row.out)[i]? = some r.out := by rw [List.getElem?_map, hi]; rfl
  have h2 : (cells.map Row.out)[j]? = some r.out := by rw [List.getElem?_map, hj, e]; rfl
  obtain ⟨l1, e1⟩ := List.getElem?_eq_some_iff.mp h1
  obtain ⟨l2, e2⟩ := List.getElem?_eq_some_iff.mp h2
  exact nodup_inj hn (e1.trans e2.symm)
theorem rowsOf_nodup {cells : List Row} (hn : (cells.map Row.out).Nodup) : ∀ {R : List Nat}, R.Nodup → (∀ x ∈ R, x < cells.length) → ((rowsOf cells R).map Row.out).Nodup
  | [], _, _ => List.nodup_nil
  | x :: R, nd, h => by
    rw [List.nodup_cons] at nd
    have hx := h x (.head _)
    have hcx : cells[x]? = some cells[x] := List.getElem?_eq_getElem hx
    have e : rowsOf cells (x :: R) = cells[x] :: rowsOf cells R := by unfold rowsOf; rw [List.filterMap_cons_some hcx]
    rw [e, List.map_cons, List.nodup_cons]
    refine ⟨fun q => ?_, rowsOf_nodup hn nd.2 fun y hy => h y (.tail _ hy)⟩
    obtain ⟨r, hr, e2⟩ := List.mem_map.mp q
    obtain ⟨i, hi, hci⟩ := mem_rowsOf.mp hr
    have := out_inj hn hci hcx e2
    exact nd.1 (this ▸ hi)
theorem dvOf_eq {cells : List Row} (hn : (cells.map Row.out).Nodup) {j : Nat} {r : Row} (hj : cells[j]? = some r) : dvOf cells r.out = some j := by
  cases q : dvOf cells r.out with
  | none => exact absurd rfl (dvOf_none q j r hj)
  | some i =>
    obtain ⟨r', hr', e⟩ := dvOf_some q
    rw [out_inj hn hr' hj e]
theorem ord_topo {cells : List Row} {R : List Nat} (hO : Ord cells R) (hn : (cells.map Row.out).Nodup) : Topo (rowsOf cells R) := by
  have hR : ∀ x ∈ R, x < cells.length := fun x hx => ((hO.mem x).mp hx).1
  obtain ⟨_, hrm⟩ := rowsOf_map hR
  refine topo_of_idx fun i j r r' hi hj hij x hx e => ?_
  obtain ⟨a, ha, hca⟩ := hrm i r hi
  obtain ⟨b, hb, hcb⟩ := hrm j r' hj
  have hbR := List.mem_of_getElem? hb
  have hcomb := ((hO.mem b).mp hbR).2
  have hd : dvOf cells x = some b := by rw [← e]; exact dvOf_eq hn hcb
  have hbe : bef cells (dvOf cells) x = some b := by
    unfold bef; rw [hd]
    unfold comb at hcomb
    simp [Option.filter, hcomb] at hcomb ⊢
    try exact hcomb
  have hp : b ∈ preds cells (dvOf cells) a := by
    unfold preds; rw [hca]
    exact List.mem_filterMap.mpr ⟨x, hx, hbe⟩
  have ht := hO.top i a ha b hp
  obtain ⟨k, hk, ek⟩ := List.getElem_of_mem ht
  rw [List.length_take] at hk
  rw [List.getElem_take] at ek
  obtain ⟨hjl, ej⟩ := List.getElem?_eq_some_iff.mp hb
  have := nodup_inj hO.nd (ek.trans ej.symm)
  (first | lia | omega)
theorem topo_idx : ∀ {rs : List Row}, Topo rs → ∀ (i j : Nat) (r r' : Row), rs[i]? = some r → rs[j]? = some r' → i ≤ j → ∀ x ∈ r.ins, r'.out ≠ x
  | [], _, i, _, r, _, h, _, _, _, _ => by simp at h
  | q :: rs, ht, 0, j, r, r', hi, hj, _, x, hx => by
    cases hi
    exact ht.1 x hx r' (List.mem_of_getElem? hj)
  | q :: rs, ht, i + 1, 0, r, r', hi, hj, hij, x, hx => by (first | lia | omega)
  | q :: rs, ht, i + 1, j + 1, r, r', hi, hj, hij, x, hx => topo_idx ht.2 i j r r' hi hj (by (first | lia | omega)) x hx
/-- the cells: gates and states, in either order -/
noncomputable def cellsOf (early : Bool) (gs : List Row) (sts : List StC) : List Row := if early then sts.map StC.row ++ gs else gs ++ sts.map StC.row
theorem st_isSt (s : StC) : isSt s.row.kind = true := by
  show isSt s.kind = true
  unfold StC.kind
  cases s.flop <;> decide +kernel
theorem stAt_left {a b : List Row} {i : Nat} (h : i < a.length) : stAt (a ++ b) i = stAt a i := by
  unfold stAt; rw [List.getElem?_append_left h]
theorem stAt_right {a b : List Row} {i : Nat} : stAt (a ++ b) (a.length + i) = stAt b i := by
  unfold stAt; rw [List.getElem?_append_right (by (first | lia | omega)), Nat.add_sub_cancel_left]
theorem stIdx_append (a b : List Row) : stIdx (a ++ b) = stIdx a ++ (stIdx b).map fun i => a.length + i := by
  unfold stIdx
  rw [List.length_append, List.range_add, List.filter_append, List.filter_map]
  congr 1
  · exact List.filter_congr fun i hi => stAt_left (List.mem_range.mp hi)
  · congr 1
    exact List.filter_congr fun i _ => stAt_right
theorem stIdx_gates {gs : List Row} (h : ∀ r ∈ gs, isSt r.kind = false) : stIdx gs = [] := by
  unfold stIdx
  rw [List.filter_eq_nil_iff]
  intro i hi
  unfold stAt
  rw [List.getElem?_eq_getElem (List.mem_range.mp hi)]
  simp [h _ (List.getElem_mem (List.mem_range.mp hi))]
theorem stIdx_sts (sts : List StC) : stIdx (sts.map StC.row) = List.range sts.length := by
  unfold stIdx
  rw [List.length_map, List.filter_eq_self]
  intro i hi
  have hi := List.mem_range.mp hi
  unfold stAt
  rw [List.getElem?_map, List.getElem?_eq_getElem hi]
  exact st_isSt _
theorem stIdx_cells {early : Bool} {gs : List Row} {sts : List StC} (h : ∀ r ∈ gs, isSt r.kind = false) : stIdx (cellsOf early gs sts) = (List.range sts.length).map fun i => (if early then 0 else gs.length) + i := by
  cases early
  · show stIdx (gs ++ sts.map StC.row) = _
    rw [stIdx_append, stIdx_gates h, stIdx_sts]; rfl
  · show stIdx (sts.map StC.row ++ gs) = _
    rw [stIdx_append, stIdx_gates h, stIdx_sts]
    simp
theorem cells_st {early : Bool} {gs : List Row} {sts : List StC} {j : Nat} {s : StC} (h : sts[j]? = some s) : (cellsOf early gs sts)[(if early then 0 else gs.length) + j]? = some s.row := by
  have hj := (List.getElem?_eq_some_iff.mp h).1
  cases early
  · show (gs ++ sts.map StC.row)[gs.length + j]? = _
    rw [List.getElem?_append_right (by (first | lia | omega)), Nat.add_sub_cancel_left, List.getElem?_map, h]; rfl
  · show (sts.map StC.row ++ gs)[0 + j]? = _
    rw [Nat.zero_add, List.getElem?_append_left (by simpa using hj), List.getElem?_map, h]; rfl
theorem cells_at {early : Bool} {gs : List Row} {sts : List StC} (h : ∀ r ∈ gs, isSt r.kind = false) : AtS sts (stIdx (cellsOf early gs sts)) (cellsOf early gs sts) := by
  refine ⟨by rw [stIdx_cells h]; simp, List.nodup_range.filter _, fun j s hs => ⟨_, ?_, cells_st hs⟩⟩
  rw [stIdx_cells h]
  have hj := (List.getElem?_eq_some_iff.mp hs).1
  rw [List.getElem?_map, List.getElem?_range hj]; rfl
/-- a gate's place -/
theorem cells_gate {early : Bool} {gs : List Row} {sts : List StC} {i : Nat} {r : Row} (h : ∀ r ∈ gs, isSt r.kind = false) (hc : comb (cellsOf early gs sts) i = true) (hr : (cellsOf early gs sts)[i]? = some r) :
    (if early then sts.length else 0) ≤ i ∧ gs[i - (if early then sts.length else 0)]? = some r := by
  have hst : isSt r.kind = false := by
    unfold comb stAt at hc
    rw [hr] at hc
    simpa using hc
  cases early
  · refine ⟨Nat.zero_le _, ?_⟩
    have hr : (gs ++ sts.map StC.row)[i]? = some r := hr
    show gs[i - 0]? = some r
    rcases Nat.lt_or_ge i gs.length with z | z
    · rw [List.getElem?_append_left z] at hr; exact hr
    · rw [List.getElem?_append_right z, List.getElem?_map, Option.map_eq_some_iff] at hr
      obtain ⟨s, _, rfl⟩ := hr
      rw [st_isSt] at hst; cases hst
  · have hr : (sts.map StC.row ++ gs)[i]? = some r := hr
    show sts.length ≤ i ∧ gs[i - sts.length]? = some r
    rcases Nat.lt_or_ge i sts.length with z | z
    · rw [List.getElem?_append_left (by simpa using z), List.getElem?_map, Option.map_eq_some_iff] at hr
      obtain ⟨s, _, rfl⟩ := hr
      rw [st_isSt] at hst; cases hst
    · rw [List.getElem?_append_right (by simpa using z), List.length_map] at hr
      exact ⟨z, hr⟩
theorem mem_cells {early : Bool} {gs : List Row} {sts : List StC} {r : Row} : r ∈ cellsOf early gs sts ↔ r ∈ gs ∨ ∃ s ∈ sts, s.row = r := by
  cases early
  · show r ∈ gs ++ sts.map StC.row ↔ _
    rw [List.mem_append, List.mem_map]
  · show r ∈ sts.map StC.row ++ gs ↔ _
    rw [List.mem_append, List.mem_map, or_comm]
theorem cells_hac {early : Bool} {gs : List Row} {sts : List StC} (h : ∀ r ∈ gs, isSt r.kind = false) (ht : Topo gs) :
    ∀ x, x < (cellsOf early gs sts).length → comb (cellsOf early gs sts) x = true → ∀ b ∈ preds (cellsOf early gs sts) (dvOf (cellsOf early gs sts)) x, b < x ∧ comb (cellsOf early gs sts) b = true := by
  intro x hx hc b hb
  generalize hce : cellsOf early gs sts = cells at *
  have hcx : cells[x]? = some cells[x] := List.getElem?_eq_getElem hx
  unfold preds at hb
  rw [hcx] at hb
  obtain ⟨y, hy, hbe⟩ := List.mem_filterMap.mp hb
  unfold bef at hbe
  obtain ⟨hd, hcb⟩ := Option.filter_eq_some_iff.mp hbe
  have hcb : comb cells b = true := hcb
  obtain ⟨r', hr', he⟩ := dvOf_some hd
  subst hce
  have g1 := cells_gate h hc hcx
  have g2 := cells_gate h hcb hr'
  refine ⟨?_, hcb⟩
  rcases Nat.lt_or_ge b x with z | z
  · exact z
  · exact absurd he (topo_idx ht _ _ _ _ g1.2 g2.2 (by (first | lia | omega)) y hy)
theorem cells_mem {early : Bool} {gs : List Row} {sts : List StC} {R : List Nat} (h : ∀ r ∈ gs, isSt r.kind = false) (hO : Ord (cellsOf early gs sts) R) (r : Row) : r ∈ rowsOf (cellsOf early gs sts) R ↔ r ∈ gs := by
  rw [mem_rowsOf]
  constructor
  · rintro ⟨i, hi, hr⟩
    exact List.mem_of_getElem? (cells_gate h ((hO.mem i).mp hi).2 hr).2
  · intro hr
    obtain ⟨i, hi, e⟩ := List.getElem_of_mem (mem_cells (early := early) (sts := sts).mpr (.inl hr))
    have hg : (cellsOf early gs sts)[i]? = some r := by rw [List.getElem?_eq_getElem hi, e]
    exact ⟨i, (hO.mem i).mpr ⟨hi, by unfold comb stAt; rw [hg]; simp [h r hr]⟩, hg⟩
theorem cells_eval {early : Bool} {gs : List Row} {sts : List StC} {R : List Nat} (h : ∀ r ∈ gs, isSt r.kind = false) (ht : Topo gs) (hn : ((cellsOf early gs sts).map Row.out).Nodup) (hO : Ord (cellsOf early gs sts) R) (B : Int → Int) :
    evalRows B (rowsOf (cellsOf early gs sts) R) = evalRows B gs := by
  refine eval_perm (ord_topo hO hn) ht (rowsOf_nodup hn hO.nd fun x hx => ((hO.mem x).mp hx).1) ?_ (cells_mem h hO)
  cases early
  · have hn : ((gs ++ sts.map StC.row).map Row.out).Nodup := hn
    rw [List.map_append] at hn
    exact (List.nodup_append.mp hn).1
  · have hn : ((sts.map StC.row ++ gs).map Row.out).Nodup := hn
    rw [List.map_append] at hn
    exact (List.nodup_append.mp hn).2.1
theorem nextB_lawN {s : StC} {B : Int → Int} {last ck : Int} (hB : Bits B) (he : s.edge = 0 ∨ s.edge = 1) (hck : ck = 0 ∨ ck = 1) (hl : s.flop = true → last = ck) : nextB s B last = lawN s B ck := by
  unfold nextB lawN
  rcases hB s.rn with e1 | e1 <;> rw [e1]
  · rcases hB s.sn with e2 | e2 <;> rw [e2]
    · cases hf : s.flop
      · rcases hB s.first with e3 | e3 <;> rw [e3] <;> simp
      · rw [hl hf]
        rcases hB s.first with e3 | e3 <;> rcases he with e4 | e4 <;> rcases hck with e5 | e5 <;> rw [e3, e4, e5] <;> simp
    · simp
  · simp
/-- the simulator's last clocks are the law's -/
noncomputable def Lk (sts : List StC) (lo : Nat → Option Int) (CK : Int → Int) : Prop := ∀ (j : Nat) (s : StC), sts[j]? = some s → (CK s.out = 0 ∨ CK s.out = 1) ∧ (s.flop = true → lo j = some (CK s.out))
theorem found_same {sts : List StC} {lo : Nat → Option Int} {CK B : Int → Int} (hB : Bits B) (he : ∀ s ∈ sts, s.edge = 0 ∨ s.edge = 1) (h : Lk sts lo CK) : foundL sts lo B = lawF sts CK B := by
  apply List.ext_getElem?
  intro j
  unfold lawF
  rw [List.getElem?_map]
  cases q : sts[j]? with
  | none =>
    rw [List.getElem?_eq_none]
    · rfl
    · rw [foundL_len]
      exact List.getElem?_eq_none_iff.mp q
  | some s =>
    rw [foundL_get q]
    obtain ⟨hc, hf⟩ := h j s q
    show some (s.out, _) = some (s.out, _)
    rw [nextB_lawN hB (he s (List.mem_of_getElem? q)) hc fun z => by rw [hf z]; rfl]
theorem any_or {α : Type} (l : List α) (f g : α → Bool) : l.any (fun x => f x || g x) = (l.any f || l.any g) := by
  induction l with
  | nil => rfl
  | cons a r ih => rw [List.any_cons, List.any_cons, List.any_cons, ih]; cases f a <;> cases g a <;> cases r.any f <;> cases r.any g <;> rfl
theorem note_any {sts : List StC} {lo : Nat → Option Int} {CK B : Int → Int} (h : Lk sts lo CK) : ∀ j, j ≤ sts.length → noteC sts lo B j = (sts.take j).any fun s => s.flop && decide (CK s.out ≠ B s.first)
  | 0, _ => by rw [List.take_zero]; rfl
  | j + 1, hj => by
    have hs : sts[j]? = some sts[j] := List.getElem?_eq_getElem (by (first | lia | omega))
    rw [noteC_succ hs, take_snoc hs, List.any_append, note_any h j (by (first | lia | omega))]
    congr 1
    obtain ⟨_, hf⟩ := h j _ hs
    rw [List.any_cons, List.any_nil, Bool.or_false]
    cases q : sts[j].flop
    · rfl
    · rw [hf q]; rfl
theorem stir_same {sts : List StC} {lo : Nat → Option Int} {CK B : Int → Int} (hB : Bits B) (he : ∀ s ∈ sts, s.edge = 0 ∨ s.edge = 1) (h : Lk sts lo CK) : (noteC sts lo B sts.length || diffs B (foundL sts lo B)) = lawS sts CK B := by
  rw [note_any h _ (Nat.le_refl _), List.take_of_length_le (Nat.le_refl _), found_same hB he h]
  unfold diffs lawF lawS
  rw [List.any_map, any_or, Bool.or_comm]
  rfl
theorem setOuts_not : ∀ {l : List (Int × Int)} {B : Int → Int} {x : Int}, x ∉ l.map (·.1) → setOuts B l x = B x
  | [], _, _, _ => rfl
  | p :: l, B, x, h => by
    rw [List.map_cons, List.mem_cons, not_or] at h
    show setOuts (upd B p.1 p.2) l x = _
    rw [setOuts_not h.2]
    unfold upd
    rw [if_neg h.1]
theorem setOuts_in : ∀ {l : List (Int × Int)} {B : Int → Int} {p : Int × Int}, (l.map (·.1)).Nodup → p ∈ l → setOuts B l p.1 = p.2
  | [], _, _, _, h => by cases h
  | q :: l, B, p, nd, h => by
    rw [List.map_cons, List.nodup_cons] at nd
    show setOuts (upd B q.1 q.2) l p.1 = _
    rcases List.mem_cons.mp h with rfl | h
    · rw [setOuts_not nd.1]
      unfold upd; rw [if_pos rfl]
    · exact setOuts_in nd.2 h
theorem lawK_outs (sts : List StC) (B : Int → Int) : (lawK sts B).map (·.1) = sts.map (·.out) := by
  unfold lawK; rw [List.map_map]; rfl
theorem lk_next {sts : List StC} {lo : Nat → Option Int} {CK B : Int → Int} (hB : Bits B) (hn : (sts.map (·.out)).Nodup) : Lk sts (noteL sts lo B sts.length) (setOuts CK (lawK sts B)) := fun j s hs => by
  have e : setOuts CK (lawK sts B) s.out = B s.first :=
    setOuts_in (p := (s.out, B s.first)) (by rw [lawK_outs]; exact hn) (List.mem_map.mpr ⟨s, List.mem_of_getElem? hs, rfl⟩)
  rw [e]
  refine ⟨hB _, fun hf => ?_⟩
  unfold noteL
  rw [if_pos (List.getElem?_eq_some_iff.mp hs).1, hs]
  show (if s.flop = true then _ else _) = _
  rw [if_pos hf]
theorem lawN_bit {s : StC} {B : Int → Int} {ck : Int} (hB : Bits B) : lawN s B ck = 0 ∨ lawN s B ck = 1 := by
  unfold lawN
  have h1 := hB s.d
  have h2 := hB s.out
  dsimp only
  split
  · exact .inl rfl
  · split
    · exact .inr rfl
    · split
      · exact h1
      · split
        · exact h1
        · exact h2
theorem setOuts_bits : ∀ {l : List (Int × Int)} {B : Int → Int}, Bits B → (∀ p ∈ l, p.2 = 0 ∨ p.2 = 1) → Bits (setOuts B l)
  | [], _, h, _ => h
  | p :: l, B, h, hl => setOuts_bits (l := l) (h.upd p.1 (hl p (.head _))) fun q hq => hl q (.tail _ hq)
/-- a round, and whether it stirred -/
noncomputable abbrev Sta := (Int → Int) × (Int → Int)
noncomputable def nx (gs : List Row) (sts : List StC) (p : Sta) : Sta := (setOuts (evalRows p.1 gs) (lawF sts p.2 (evalRows p.1 gs)), setOuts p.2 (lawK sts (evalRows p.1 gs)))
noncomputable def sr (gs : List Row) (sts : List StC) (p : Sta) : Bool := lawS sts p.2 (evalRows p.1 gs)
noncomputable def it (gs : List Row) (sts : List StC) : Nat → Sta → Sta
  | 0, p => p
  | i + 1, p => nx gs sts (it gs sts i p)
theorem nx_bits {gs : List Row} {sts : List StC} {p : Sta} (h : Bits p.1) : Bits (nx gs sts p).1 :=
  setOuts_bits (h.rows gs) fun q hq => by
    obtain ⟨s, _, rfl⟩ := List.mem_map.mp hq
    exact lawN_bit (h.rows gs)
theorem it_bits {gs : List Row} {sts : List StC} {p : Sta} (h : Bits p.1) : ∀ i, Bits (it gs sts i p).1
  | 0 => h
  | i + 1 => nx_bits (it_bits h i)
section
open PySem.Builtin PySem.Builtin.ObjectAttr
theorem refuse_exc (self : Value) : refuseLoop self "__setattr__" [.type "Exception", .type "BaseException", .type "object"] = pure () := by kernel_rfl
section
variable {prog : Program} {w : World} {A : Around} {E : Value → Shared → Prop} {s : Shared} {K : Frag} {x C dx L : Addr} {h₀ : Heap} {m : PySem.Str → Option Value} {name : PySem.Str} {v : Value} {R : Result → Shared → Prop}
/-- object.__setattr__ on a thing of an own exception class: up to the store -/
theorem osaX {ox : Obj} {od : Option Obj} {tk : Tok} {cd : ClassData} (X : K.In s.heap) (I : InstAt s.heap x ox C od) (hc : clsIn K C = some cd) (hr : ∀ self, refuseLoop self "__setattr__" cd.mro = pure ()) (hob : cd.mro.contains (.type "object") = true)
    (ht : takerIn K C name = some none)
    (h : ∀ b, wpAny (model prog w) A.in1 (storeInOwnDict (.ref x) (.ref C) (.str name tk) name v b)
      (fun fin s' => match fin with | .done f => R (.ok f) s' | .again c' => c'.quiet = true ∧ codeAny (model prog w) A c' R s') (fun e s' => R (.error e) s') s) :
    codeAny (model prog w) A (.call (.builtin "object.__setattr__") ⟨[.ref x, .str name tk, v], []⟩) R s := by
  have SF := PySem.F.store_object
  have ne : cd.mro.isEmpty = false := by cases q : cd.mro with | nil => rw [q] at hob; cases hob | cons _ _ => rfl
  have sub : Looks (model prog w) s.heap (isInstance (.ref x) (.type "object")) true := I.type.andThen (looks_mroIn X (by unfold mroIn; rw [hc, Option.bind_some, if_neg (by rw [ne]; decide), hob]))
  refine codeAny_call_builtin SF.slot.plain SF.entry (@check_slot (model prog w) _ _ s "object.__setattr__" "object" "__setattr__" (.ref x) [.str name tk, v] [] _ SF.kind SF.split sub (SF.args (.ref x) (.str name tk) v) ?_)
  obtain ⟨attr, ha, hq⟩ := Option.bind_eq_some_iff.mp ht
  have hm : Looks (model prog w) s.heap (mroOf (.ref C)) cd.mro := (looks_clsIn X hc).andThen .now
  have L3 : Looks (model prog w) s.heap (storeTaker? attr) none := by
    cases attr with
    | none => exact .now
    | some a =>
      obtain ⟨b, hb, e⟩ := Option.map_eq_some_iff.mp hq
      refine (looks_takesIn X hb).andThen ?_
      cases b
      · exact .now
      · cases e
  rw [osa_eq, refuse_eq]
  refine wpAny_bind (wpAny_bind (I.type.here (wpAny_bind (hm.here ?_))))
  rw [hr]
  refine wpAny_pure (wpAny_bind (I.type.here (wpAny_bind ((looks_findIn X ha).here (wpAny_bind (L3.here ?_))))))
  exact h _
/-- a thing that is being filled: what else stood in h1 stands still -/
structure XSt (h1 h : Heap) (x C : Addr) (D : Data) (mA : PySem.Str → Option Value) : Prop where
  obj : ∃ o, h.get? x = some o ∧ o.cls = .ref C ∧ o.data = D ∧ ((o.dict = none ∧ ∀ y, mA y = none) ∨ ∃ d, o.dict = some d ∧ d ≠ x ∧ h.Ns1 d mA ∧ h1.get? d = none)
  keep : ∀ b o, b ≠ x → h1.get? b = some o → h.get? b = some o
theorem xst_store {h1 : Heap} {vs : Array Value} {mA : PySem.Str → Option Value} {ns : List PySem.Str} {cd : ClassData} {tk : Tok} {b : Bool} {QF : Fin → Shared → Prop} (X1 : K.In s.heap) (I : XSt h1 s.heap x C (.fields vs) mA) (hw : Within mA ns) (hns : ns.length ≤ 10)
    (hc : clsIn K C = some cd) (hcd : cd.hasDict = true)
    (h : ∀ h' tk', XSt h1 h' x C (.fields vs) (fun y => if y = name then some v else mA y) → QF (.done (.ret .none)) ⟨h', s.gens, s.drawn, tk', s.os⟩) : wpAny (model prog w) A (storeInOwnDict (.ref x) (.ref C) (.str name tk) name v b) QF E s := by
  obtain ⟨⟨o, hx, hcl, hdt, hd⟩, hk⟩ := I
  have hno : notCls o = true := by
    unfold notCls
    rw [hdt]
  obtain ⟨oc, odi, oda, osl⟩ := o
  rcases hd with ⟨hdn, hmA⟩ | ⟨dx, hdx, hne, hn1, hfr⟩
  · dsimp only at hcl hdt hdn
    subst hcl hdt hdn
    refine wpAny_bind (wpAny_pure (wpAny_bind (wpAny_bind (wpAny_loadPart hx (wpAny_bind ((looks_clsIn X1 hc).here ?_))))))
    rw [hcd]
    refine wpAny_bind (wpAny_alloc ?_)
    have hxs : x ≠ s.heap.objs.size := Nat.ne_of_lt (Heap.lt_size hx)
    have hx1 := Heap.get?_push_of_some (h := s.heap) { cls := .type "dict", data := .dict #[] } hx
    have hdnew : h1.get? s.heap.objs.size = none := by
      cases q : h1.get? s.heap.objs.size with
      | none => rfl
      | some ob => exact absurd (Heap.lt_size (hk _ ob (Ne.symm hxs) q)) (Nat.lt_irrefl _)
    refine wpAny_bind (wpAny_update hx1 (wpAny_pure ?_))
    have hgd : ((s.heap.push { cls := .type "dict", data := .dict #[] }).update x fun o => { cls := o.cls, dict := some s.heap.objs.size, data := o.data, slots := o.slots }).get? s.heap.objs.size = some { cls := .type "dict", data := .dict #[] } :=
      (Heap.get?_update_ne _ _ _ _ (Ne.symm hxs)).trans (Heap.get?_push_at rfl rfl)
    have hgx : ((s.heap.push { cls := .type "dict", data := .dict #[] }).update x fun o => { cls := o.cls, dict := some s.heap.objs.size, data := o.data, slots := o.slots }).get? x = some { cls := .ref C, dict := some s.heap.objs.size, data := .fields vs, slots := osl } :=
      Heap.get?_update_self _ hx1 rfl
    have hoth : ∀ bb ob, bb ≠ x → s.heap.get? bb = some ob → ((s.heap.push { cls := .type "dict", data := .dict #[] }).update x fun o => { cls := o.cls, dict := some s.heap.objs.size, data := o.data, slots := o.slots }).get? bb = some ob := fun bb ob hb e =>
      (Heap.get?_update_ne _ _ _ _ hb).trans (Heap.get?_push_of_some _ e)
    have hnd : ((s.heap.push { cls := .type "dict", data := .dict #[] }).update x fun o => { cls := o.cls, dict := some s.heap.objs.size, data := o.data, slots := o.slots }).Ns s.heap.objs.size (fun _ => none) :=
      ⟨_, #[], _, hgd, rfl, fun e he => absurd he (by simp), fun _ => rfl⟩
    generalize hz : ((s.heap.push { cls := .type "dict", data := .dict #[] }).update x fun o => { cls := o.cls, dict := some s.heap.objs.size, data := o.data, slots := o.slots }) = hp at *
    refine wpAny_bind (wpAny_pure (wpAny_bind ?_))
    refine wpAny_nsSet1 (Heap.Ns1.of_empty hnd) fun h' hn' hsb => ?_
    have hmE : (fun y => if y = name then some v else mA y) = fun y => if y = name then some v else none := funext fun y => by rw [hmA y]
    obtain ⟨oD, esD, epD, hoD, hdD, hcD⟩ := hn'.count (Within.cons name v Within.nil)
    refine wpAny_bind (wpAny_lookBehind hoD (by rw [hdD]; exact pastItsLine_dict (Nat.le_trans hcD (by rw [List.length_cons, List.length_nil, sizeLine_eq]; (first | lia | omega)))) ?_)
    refine wpAny_pure ?_
    rw [hmE] at h
    refine h h' _ ⟨⟨_, (hsb.2 x hxs).trans hgx, rfl, rfl, .inr ⟨_, rfl, Ne.symm hxs, hn', hdnew⟩⟩, fun bb ob hb e => ?_⟩
    exact (hsb.2 bb (fun z => by rw [z, hdnew] at e; cases e)).trans (hoth bb ob hb (hk bb ob hb e))
  · dsimp only at hcl hdt hdx
    subst hcl hdt hdx
    refine wpAny_bind (wpAny_pure (wpAny_bind (wpAny_bind (wpAny_loadPart hx (wpAny_bind ((looks_clsIn X1 hc).here ?_))))))
    rw [hcd]
    refine wpAny_pure (a := some dx) (wpAny_bind (wpAny_pure (wpAny_bind ?_)))
    refine wpAny_nsSet1 hn1 fun h' hn' hsb => ?_
    obtain ⟨oD, esD, epD, hoD, hdD, hcD⟩ := hn'.count (Within.cons name v hw)
    refine wpAny_bind (wpAny_lookBehind hoD (by rw [hdD]; exact pastItsLine_dict (Nat.le_trans hcD (by rw [List.length_cons, sizeLine_eq]; (first | lia | omega)))) ?_)
    refine wpAny_pure ?_
    refine h h' _ ⟨⟨_, (hsb.2 x hne.symm).trans hx, rfl, rfl, .inr ⟨dx, rfl, hne, hn', hfr⟩⟩, fun b ob hb e => ?_⟩
    exact (hsb.2 b (fun z => by rw [z, hfr] at e; cases e)).trans (hk b ob hb e)
theorem xst_set {h1 : Heap} {vs : Array Value} {mA : PySem.Str → Option Value} {ns : List PySem.Str} {cd : ClassData} {Q : Unit → Shared → Prop} (X : K.In h1) (hxK : K.lookup x = none) (I : XSt h1 s.heap x C (.fields vs) mA) (hw : Within mA ns) (hns : ns.length ≤ 10)
    (hs : findIn K (.ref C) "__setattr__" = some (some (.builtin "object.__setattr__"))) (hc : clsIn K C = some cd) (hcd : cd.hasDict = true) (hr : ∀ self, refuseLoop self "__setattr__" cd.mro = pure ()) (hob : cd.mro.contains (.type "object") = true)
    (ht : takerIn K C name = some none)
    (h : ∀ h' tk', XSt h1 h' x C (.fields vs) (fun y => if y = name then some v else mA y) → Q () ⟨h', s.gens, s.drawn, tk', s.os⟩) : wpAny (model prog w) A (setAttr (.ref x) name v) Q E s := by
  have I' := I
  obtain ⟨⟨o, hx, hcl, hdt, hd⟩, hk⟩ := I
  have X1 : K.In s.heap := fun a ob e => hk a ob (fun z => by rw [z, hxK] at e; cases e) (X a ob e)
  have hno : notCls o = true := by
    unfold notCls
    rw [hdt]
  have I0 : ∃ od, PySem.W.InstAt s.heap x o C od := by
    rcases hd with ⟨hdn, hmA⟩ | ⟨dx, hdx, hne, hn1, hfr⟩
    · exact ⟨none, hx, hcl, hno, by rw [hdn]; trivial⟩
    · obtain ⟨o', _, _, e, _⟩ := hn1
      exact ⟨some o', hx, hcl, hno, by rw [hdx]; exact e⟩
  obtain ⟨od, I0⟩ := I0
  exact set_plain X1 I0 hs (osaX (s := { s with toks := s.toks + 1 }) X1 I0 hc hr hob ht fun b => xst_store (s := { s with toks := s.toks + 1 }) X1 I' hw hns hc hcd h)
end
end
section
open PySem.Builtin PySem.Builtin.ObjectAttr
section
variable {prog : Program} {w : World} {A : Around} {E : Value → Shared → Prop} {s : Shared} {P : Params}
noncomputable def ed64 : ClassData := match ob64.data with | .cls cd => cd | _ => default
theorem rf (self : Value) : refuseLoop self "__setattr__" ed64.mro = pure () := by
  have e : ed64.mro = [.ref 64, .ref 39, .type "Exception", .type "BaseException", .type "object"] := rfl
  rw [e, refuseLoop_ref, refuseLoop_ref, refuse_exc]
theorem exc_init {x : Addr} {ox : Obj} {vs : Array Value} {y : PySem.Str} {ty : Tok} {Q : Value → Shared → Prop} (X : (Kt P).In s.heap) (hdp : A.depth < 1000) (nl : s.heap.NoLimit) (hxK : (Kt P).lookup x = none)
    (hx : s.heap.get? x = some ox) (hcl : ox.cls = .ref 64) (hdt : ox.data = .fields vs) (hdn : ox.dict = none)
    (h : ∀ h' tk', (∃ o, h'.get? x = some o ∧ o.cls = .ref 64 ∧ o.data = .fields vs) → (∀ b o, b ≠ x → s.heap.get? b = some o → h'.get? b = some o) → Q .none ⟨h', s.gens, s.drawn, tk', s.os⟩) :
    wpAny (model prog w) A (call (.ref 36) [.ref x, .str y ty]) Q E s := by
  refine wpAny_call (codeAny_call_def (binds := [(S "self", .ref x), (S "kind", .str y ty), (S "at", .int (-1) 209), (S "detail", .str (S "") 210)]) (body := bodyOf (nth (inCls (nth top 2)) 0)) (o := ob36) (fd := fd36) hdp (X _ _ (by kernel_rfl)) rfl nl (codeRec_of X (by kernel_rfl)) rfl ?_ ?_ ?_ ?_ (by kernel_rfl) (by kernel_rfl) (by kernel_rfl))
  · exact binds_K X rfl (show (Kt P).lookup 29 = some ob29 by kernel_rfl) rfl (by with_unfolding_all rfl) (by with_unfolding_all rfl)
  · have q : (fd36.scope.names.all fun x => decide (x.2 ≠ .cell)) = true := by decide +kernel
    exact fun z hz => by have := List.all_eq_true.mp q z hz; simpa using this
  · have q : ([S "self", S "kind", S "at", S "detail"].all fun x => decide (fd36.scope.names.lookup x = some .local)) = true := by decide +kernel
    intro z hz
    have := List.all_eq_true.mp q z.1 (by
      simp only [List.mem_cons, List.not_mem_nil, or_false] at hz
      rcases hz with rfl | rfl | rfl | rfl <;> simp)
    simpa using this
  · intro h₁ hns keep
    have hLx : s.heap.objs.size ≠ x := fun z => Nat.lt_irrefl _ (z ▸ Heap.lt_size hx)
    have I0 : XSt h₁ h₁ x 64 (.fields vs) (fun _ => none) := ⟨⟨ox, keep _ _ hx, hcl, hdt, .inl ⟨hdn, fun _ => rfl⟩⟩, fun b o _ e => e⟩
    have X1 : (Kt P).In h₁ := X.keeps keep
    have nsAt : ∀ {h2 : Heap} {mA : PySem.Str → Option Value}, XSt h₁ h2 x 64 (.fields vs) mA → h2.Ns s.heap.objs.size fun z => List.lookup z [(S "self", Value.ref x), (S "kind", .str y ty), (S "at", .int (-1) 209), (S "detail", .str (S "") 210)].reverse := fun {h2 mA} I => by
      obtain ⟨o, es, ep, e, r⟩ := hns
      exact ⟨o, es, ep, I.keep _ _ hLx e, r⟩
    refine wpAny_execs_cons (plainObj_wpAny_Assign_Attribute (ldc (by kernel_rfl) (by kernel_rfl) (nsAt I0) (v := .str y ty) (by kernel_rfl) (ldc (by kernel_rfl) (by kernel_rfl) (nsAt I0) (v := .ref x) (by kernel_rfl) ?_)))
    refine xst_set (K := Kt P) (h1 := h₁) (ns := []) (cd := ed64) X1 hxK I0 Within.nil (by decide) (by kernel_rfl) (by kernel_rfl) rfl (fun self => rf self) (by kernel_rfl) (by kernel_rfl) fun hI1 tkI1 I1 => ?_
    dsimp only
    refine wpAny_execs_cons (plainObj_wpAny_Assign_Attribute (ldc (by kernel_rfl) (by kernel_rfl) (nsAt I1) (v := .int (-1) 209) (by kernel_rfl) (ldc (by kernel_rfl) (by kernel_rfl) (nsAt I1) (v := .ref x) (by kernel_rfl) ?_)))
    refine xst_set (K := Kt P) (h1 := h₁) (ns := [S "kind"]) (cd := ed64) X1 hxK I1 (Within.cons _ _ Within.nil) (by decide) (by kernel_rfl) (by kernel_rfl) rfl (fun self => rf self) (by kernel_rfl) (by kernel_rfl) fun hI2 tkI2 I2 => ?_
    dsimp only
    refine wpAny_execs_cons (plainObj_wpAny_Assign_Attribute (ldc (by kernel_rfl) (by kernel_rfl) (nsAt I2) (v := .str (S "") 210) (by kernel_rfl) (ldc (by kernel_rfl) (by kernel_rfl) (nsAt I2) (v := .ref x) (by kernel_rfl) ?_)))
    refine xst_set (K := Kt P) (h1 := h₁) (ns := [S "at", S "kind"]) (cd := ed64) X1 hxK I2 (Within.cons _ _ (Within.cons _ _ Within.nil)) (by decide) (by kernel_rfl) (by kernel_rfl) rfl (fun self => rf self) (by kernel_rfl) (by kernel_rfl) fun hI3 tkI3 I3 => ?_
    dsimp only
    refine wpAny_execs_nil ?_
    obtain ⟨⟨o, e1, e2, e3, _⟩, kp⟩ := I3
    exact h _ _ ⟨o, e1, e2, e3⟩ fun b ob hb e => kp b ob hb (keep _ _ e)
end
end
section
open PySem.Builtin PySem.Builtin.ObjectAttr
section
variable {prog : Program} {w : World} {A : Around} {E : Value → Shared → Prop} {P : Params}
theorem ob64_exc : ob64 = excClassObj (S "LimitReached") (S "LimitReached") 64 63 [.ref 39] [.ref 39, .type "Exception", .type "BaseException", .type "object"] true [] [] false none none (some (.ref 55)) none (some (.str (S "LimitReached") 248)) (some (.str (S "LimitReached") 256)) (some (.bool true)) "Exception.__new__" := rfl
noncomputable abbrev bm64 : List Value := [.ref 39, .type "Exception", .type "BaseException", .type "object"]
noncomputable abbrev exObj (t : Addr) : Obj := { cls := .ref 64, data := .fields #[.ref t, .none, .none, .none, .bool false, .none] }
noncomputable abbrev tuObj (rest : List Value) : Obj := { cls := .type "tuple", data := .seq rest.toArray }
section
variable {h : Heap} {g : Array GenState} {d : Drawn} {t : Nat} {os : OsState} {R : Result → Shared → Prop}
theorem check_new64 {rest : List Value} {Q : Unit → Shared → Prop} (hC : h.get? 64 = some ob64) (hq : Q () ⟨h, g, d, t, os⟩) : wpAny (model prog w) A (checkBuiltinCall "Exception.__new__" ⟨.ref 64 :: rest, []⟩) Q E ⟨h, g, d, t, os⟩ := by
  have F := PySem.F.excBase_Exception
  rw [ob64_exc] at hC
  have hcont : (Value.ref 64 :: bm64).contains (.type "Exception") = true := by decide +kernel
  have hstar := F.noStar
  simp only [checkBuiltinCall, F.newKind, F.newSplit, F.newRow]
  repeat (first | refine wpAny_loadPart_at hC ?_ | (refine wpAny_isSubtype_exc hC ?_; rw [hcont]) | refine wpAny_staticBase_exc hC ?_ | refine wpAny_madeBy_exc hC ?_ | simp only [bne_self_eq_false, Bool.false_eq_true, if_false] | wp_step)
  exact hq
theorem new64 {rest : List Value} (hC : h.get? 64 = some ob64) (hq : R (.ok (.ret (.ref (h.objs.size + 1)))) ⟨(h.push (tuObj rest)).push (exObj h.objs.size), g, d, t, os⟩) (hrest : rest.length ≤ sizeLine) :
    codeAny (model prog w) A (.builtin "Exception.__new__" ⟨.ref 64 :: rest, []⟩) R ⟨h, g, d, t, os⟩ := by
  have F := PySem.F.excBase_Exception
  rw [ob64_exc] at hC
  have hends := F.ends
  have hcB : (Value.ref 64 :: bm64).contains (.type "Exception") = true := by decide +kernel
  have hcA : (Value.ref 64 :: bm64).contains (.type "AttributeError") = false := by decide +kernel
  have hcN : (Value.ref 64 :: bm64).contains (.type "NameError") = false := by decide +kernel
  refine codeAny_builtinAt F.entry ?_
  unfold Builtin.«BaseException.__new__»
  refine PySem.wpAt_bind ?_
  show PySem.wpAt _ _ _ (stack >>= _) _ _ _
  refine PySem.wpAt_bind (PySem.wpAt_stack fun p below => PySem.wpAt_of_wpAny ?_)
  wp_walk
  refine PySem.wpAt_of_wpAny ?_
  rw [F.owner]
  repeat (first | with_reducible refine wpAny_madeHere_exc F.canon hC ?_ | with_reducible refine wpAny_loadPart_at hC ?_ | (with_reducible refine wpAny_isSubtype_exc hC ?_; first | rw [hcB] | rw [hcA] | rw [hcN]) | wp_step)
  show R _ _
  rw [Heap.size_push]
  exact hq
theorem tcall64 {rest : List Value} {Q : Fin → Shared → Prop} (X : (Kt P).In h) (hC : h.get? 64 = some ob64)
    (hq : wpAny (model prog w) A (call (.ref 36) (.ref (h.objs.size + 1) :: rest)) (fun r s' => r = .none ∧ Q (.done (.ret (.ref (h.objs.size + 1)))) s') E ⟨(h.push (tuObj rest)).push (exObj h.objs.size), g, d, t, os⟩) (hrest : rest.length ≤ sizeLine) :
    wpAny (model prog w) A (Builtin.«type.__call__» ⟨.ref 64 :: rest, []⟩) Q E ⟨h, g, d, t, os⟩ := by
  have F := PySem.F.excBase_Exception
  have hC' := hC
  rw [ob64_exc] at hC'
  repeat (first | with_reducible refine wpAny_loadPart_at hC' ?_ | with_reducible refine wpAny_madeBy_exc hC' ?_ | wp_step)
  refine codeAny_call_builtin_code (Code.quiet_builtin _ F.quiet) (check_new64 hC ?_)
  refine new64 hC ?_ hrest
  show wpAny _ _ _ _ _ _
  have hC₁ := Heap.get?_push_of_some (exObj h.objs.size) (Heap.get?_push_of_some (tuObj rest) hC')
  have hget : ((h.push (tuObj rest)).push (exObj h.objs.size)).get? (h.objs.size + 1) = some (exObj h.objs.size) := by heap_get
  have hcC : (Value.ref 64 :: bm64).contains (.ref 64) = true := by simp
  have X₁ : (Kt P).In ((h.push (tuObj rest)).push (exObj h.objs.size)) := X.keeps fun b o e => Heap.get?_push_of_some _ (Heap.get?_push_of_some _ e)
  unfold isInstance
  repeat (first | with_reducible refine wpAny_loadPart_at hget ?_ | (with_reducible refine wpAny_isSubtype_exc hC₁ ?_; rw [hcC]) | wp_step)
  show wpAny _ _ (typeLookup (.ref 64) _) _ _ _
  refine (looks_findIn (K := Kt P) (h := (h.push (tuObj rest)).push (exObj h.objs.size)) X₁ (show findIn (Kt P) (.ref 64) "__init__" = some (some (.ref 36)) by kernel_rfl)) _ _ _ _ (fun _ _ e => e) (wpAny_holding (wpAny_bind ?_))
  refine (bind_fn X₁ _ (show typeIn (Kt P) (.ref 36) = some (.type "function") by kernel_rfl)) _ _ _ _ (fun _ _ e => e) ?_
  refine wpAny_bind (wpAny_mono hq (fun r s' hr => ?_) fun _ _ x => x)
  obtain ⟨rfl, hQ⟩ := hr
  wp_walk
  exact hQ
/-- LimitReached(y): a fresh exception, filled by __init__ -/
structure Mk64 (h h' : Heap) (e : Addr) (rest : List Value) : Prop where
  keep : ∀ b o, h.get? b = some o → h'.get? b = some o
  new : h.get? e = none
  there : ∃ o t, h'.get? e = some o ∧ o.cls = .ref 64 ∧ o.data = .fields #[.ref t, .none, .none, .none, .bool false, .none] ∧ h.get? t = none ∧ h'.get? t = some (tuObj rest)
theorem call64 {y : PySem.Str} {ty : Tok} {Q : Value → Shared → Prop} (X : (Kt P).In h) (nl : h.NoLimit) (hdp : A.depth < 999)
    (hq : ∀ h' e tk', Mk64 h h' e [.str y ty] → Q (.ref e) ⟨h', g, d, tk', os⟩) :
    wpAny (model prog w) A (call (.ref 64) [.str y ty]) Q E ⟨h, g, d, t, os⟩ := by
  have hC : h.get? 64 = some ob64 := X _ _ (by kernel_rfl)
  have hC' := hC
  rw [ob64_exc] at hC'
  have f1 := tc_lookup
  have f2 := tc_bind (.ref 64)
  have hT : (⟨h, g, d, t, os⟩ : Shared).TypeIs (.ref 64) "type" := ⟨_, hC, rfl⟩
  refine wpAny_call (codeAny_of_tree ?_)
  show wpAny _ _ (callAny (.ref 64) _) _ _ _
  repeat (any_goals (first | assumption | with_reducible refine wpAny_loadPart_at hC' ?_ | wp_step))
  refine ⟨rfl, ?_⟩
  have keep : ∀ b o, h.get? b = some o → ((h.push (tuObj [.str y ty])).push (exObj h.objs.size)).get? b = some o := fun b o e => Heap.get?_push_of_some _ (Heap.get?_push_of_some _ e)
  refine codeAny_call_builtin_at (Code.quiet_builtin _ (by decide +kernel)) entry_typeCall (wpAny_check_type_call_sub hC' (tcall64 X hC ?_ (by show [Value.str y ty].length ≤ sizeLine; rw [sizeLine_eq]; simp)))
  have hget : ((h.push (tuObj [.str y ty])).push (exObj h.objs.size)).get? (h.objs.size + 1) = some (exObj h.objs.size) := by heap_get
  have hnone : h.get? (h.objs.size + 1) = none := Heap.get?_none_of_le (Nat.le_succ _)
  refine exc_init (P := P) (s := ⟨(h.push (tuObj [.str y ty])).push (exObj h.objs.size), g, d, t, os⟩) (X.keeps keep) ?dp (nl.keeps keep) ?lk hget rfl rfl rfl fun h' tk' hx hk => ⟨rfl, ?_⟩
  case lk =>
    cases q : (Kt P).lookup (h.objs.size + 1) with
    | none => rfl
    | some ob => have := X _ _ q; rw [hnone] at this; cases this
  case dp =>
    show A.depth + 1 < 1000
    (first | lia | omega)
  obtain ⟨o, e1, e2, e3⟩ := hx
  refine hq h' _ tk' ⟨fun b ob e => hk b ob (fun z => by rw [z, hnone] at e; cases e) (keep b ob e), hnone, o, h.objs.size, e1, e2, e3, Heap.get?_none_of_le (Nat.le_refl _), hk _ _ (Nat.ne_of_lt (Nat.lt_succ_self _)) ?_⟩
  exact Heap.get?_push_of_some _ (Heap.get?_push_at rfl rfl)
end
end
end
section
variable {M : Model} {A : Around} {E : Value → Shared → Prop} {env : Env}
theorem raise_made {s : Shared} {x : Sem Value} {Q : Flow → Shared → Prop} (hh : A.handled = none)
    (h : wpAny M A x (fun v s₁ => ∃ (e : Addr) (o : Obj) (t : Addr), v = .ref e ∧ s₁.heap.get? 64 = some ob64 ∧ s₁.heap.get? e = some o ∧ o.cls = .ref 64 ∧ o.data = .fields #[.ref t, .none, .none, .none, .bool false, .none] ∧ E (.ref e) s₁) E s) :
    wpAny M A (raiseStmt env (some x) none) Q E s := by
  have hcB : (Value.ref 64 :: bm64).contains (.type "BaseException") = true := by decide +kernel
  unfold raiseStmt
  refine wpAny_bind (wpAny_mono h (fun v s₁ h₁ => ?_) fun _ _ x => x)
  obtain ⟨e, ⟨oc, od, odat, osl⟩, t, rfl, hC, he, hcls, hdat, hE⟩ := h₁
  dsimp only at hcls hdat
  subst hcls hdat
  rw [ob64_exc] at hC
  obtain ⟨hp, g, d, tk, os⟩ := s₁
  repeat (first | with_reducible refine wpAny_loadPart_at he ?_ | with_reducible refine wpAny_loadPart_at hC ?_ | (with_reducible refine wpAny_isSubtype_exc hC ?_; rw [hcB]) | wp_step)
  exact wpAny_raiseNew_none hh hE
end
section
variable {c : Cx} {m : Loc} {led : List As} {P : Params} {k : Nat}
/-- an exception just made, in the frame that raises it: what stood stands -/
noncomputable def Rz (c : Cx) (K : Loc → List As → Prop) (T : Tmp) (e : Value) (s' : Shared) : Prop :=
  ∃ (x : Addr) (h1 h' : Heap) (tk' : Nat) (m' : Loc) (led' : List As) (y : PySem.Str) (ty : Tok), e = .ref x ∧ s' = ⟨h', c.g, c.d, tk', c.os⟩ ∧ St c m' led' T h1 ∧ Mk64 h1 h' x [.str y ty] ∧ K m' led'
theorem s_raise64 {K : Loc → List As → Prop} {y : PySem.Str} {kk : Nat} {np cp cpos pos : Pos} {Q : Flow → Shared → Prop} (o : Ok c (Kt P) (k + 1)) (hx : c.env.kindOf (S "LimitReached") = some .globalImplicit) (h : K m led) {T : Tmp} {hp : Heap} {tk : Nat} (s : St c m led T hp) :
    wpAny c.M c.A (exec (.Raise (some (.Call (.Name (S "LimitReached") np) [.Constant (.str y) kk cp] [] cpos)) none pos) c.env) Q (Rz c K T) ⟨hp, c.g, c.d, tk, c.os⟩ := by
  rw [arm_exec_Raise]
  have hn := x_any (m := m) (led := led) o (pos := np) (K := fun v m1 led1 => v = .glob (.ref 64) ∧ m1 = m ∧ led1 = led) .nLimitReached hx ⟨rfl, rfl, rfl⟩ T hp tk s
  refine wpAny_bind (wpAny_standAt (raise_made o.hh ?_))
  refine wpAny_bind (wpAny_mono (wpAny_Call_ofName (wpAny_mono hn (fun f s₁ h₁ => ?_) fun _ _ x => x.elim)) (fun v s₃ h₃ => wpAny_bind (wpAny_standAt (wpAny_pure h₃))) fun _ _ x => x)
  obtain ⟨v1, h1, tk1, m1, led1, e, s1, r1, rfl, rfl, rfl⟩ := h₁
  subst e
  rw [r1.go]
  have o64 : keepIn (Kt P) (.ref 64) = true := by kernel_rfl
  refine callWith_K (K := Kt P) (h₀ := c.h₀) o.X o64 ?_
  have ha : SA c m1 led1 cpos [.Constant (.str y) kk cp] fun vs m2 led2 => vs = [.str y] ∧ m2 = m1 ∧ led2 = led1 := sa_cons (e_str (sa_nil ⟨rfl, rfl, rfl⟩))
  refine wpAny_mono (ha T h1 tk1 s1) (fun b s2 zz => Post.go zz fun v2 h2 tk2 m2 led2 e s2' r2 ⟨ev, em, el⟩ => ?_) fun _ _ x => x.elim
  subst e ev em el
  refine ⟨o.X.keeps s2'.base, ?_⟩
  obtain ⟨x, xs, rfl, rx, rxs⟩ := r2.inv
  obtain rfl := rxs.inv_nil
  obtain ⟨ty, rfl⟩ := rx.so
  refine call64 (P := P) (o.X.keeps s2'.base) (o.nl.keeps s2'.base) (by have := o.dp; (first | lia | omega)) fun h' e tk' mk => ?_
  obtain ⟨ob, t, e1, e2, e3, e4, e5⟩ := mk.there
  exact ⟨e, ob, _, rfl, mk.keep _ _ (s2'.base _ _ (o.X _ _ (by kernel_rfl))), e1, e2, e3, e, h2, h', tk', m2, led2, y, ty, rfl, rfl, s2', mk, h⟩

/-- two frames may have changed: this one's slots, and one that nobody has a hand in -/
theorem St.slots {T : Tmp} {h1 h : Heap} {C : Addr} {mv : PySem.Str → Option Value} (s : St c m led T h1) (f : Off c led T C) (hn : h1.Ns C mv) (hk : ∀ b o, b ≠ c.L → b ≠ C → h1.get? b = some o → h.get? b = some o) (u : h1.UpToSlots h) : St c m led T h := by
  obtain ⟨oC, hoC, hnoC⟩ := ns_notTup hn
  obtain ⟨mv₀, hn₀, hr⟩ := s.ns
  obtain ⟨oL, hoL, hnoL⟩ := ns_notTup hn₀
  have tk : TK h1 h := fun b ob i e => hk b ob (fun q => by rw [q, hoL] at e; cases e; exact hnoL i) (fun q => by rw [q, hoC] at e; cases e; exact hnoC i) e
  have nd := s.nd
  rw [List.nodup_cons] at nd
  refine ⟨⟨mv₀, u.ns hn₀, hr.mono tk⟩, s.keys, s.kinds, fun b o e => hk b o (fun q => ?_) (fun q => ?_) (s.base b o e), s.low, fun b o e1 e2 e3 => hk b o e1 (fun q => ?_) (s.ext b o e1 e2 e3), s.nd, fun x hx => ?_, s.own, s.tmp.mono tk⟩
  · subst q
    exact absurd (Heap.lt_size e) (Nat.not_lt.mpr s.low)
  · rw [q, f.h0] at e; cases e
  · subst q
    rcases f.hE with z | z
    · rw [z] at e3; cases e3
    · exact e2 z
  · refine (s.ok x hx).mono tk fun a ha o e => hk a o (fun q => ?_) (fun q => ?_) e
    · exact nd.1 (List.mem_flatMap.mpr ⟨x, hx, q ▸ ha⟩)
    · exact f.off (List.mem_flatMap.mpr ⟨x, hx, q ▸ ha⟩)
/-- an exception that flies through this frame: hp is the heap at the call -/
noncomputable def Fly (c : Cx) (K : Loc → List As → Prop) (T : Tmp) (hp : Heap) (e : Value) (s' : Shared) : Prop :=
  ∃ (x : Addr) (h1 h' B : Heap) (tk' : Nat) (m' : Loc) (led' : List As) (C : Addr) (mv : PySem.Str → Option Value) (a0 : Value), e = .ref x ∧ s' = ⟨h', c.g, c.d, tk', c.os⟩ ∧ St c m' led' T h1 ∧ hp.get? C = none ∧ C ∉ addrsOf led' ∧ h1.Ns C mv ∧
    (∀ b o, b ≠ c.L → b ≠ C → h1.get? b = some o → B.get? b = some o) ∧ Heap.FlyingW B [c.env] x (.ref 64) a0 h' ∧ h1.UpToSlots h' ∧ K m' led'
/-- a call that may raise -/
noncomputable def CallsE (c : Cx) (f : Value) (vs : List V) (led : List As) (K : V → List As → Prop) (KE : List As → Prop) : Prop :=
  ∀ m xs T h tk, St c m led T h → VRs h vs xs → codeAny c.M c.A (.call f ⟨xs, []⟩) (fun r s' => match r with
    | .ok (.ret a) => Post VR c T (fun v m' led' => m' = m ∧ K v led') a s'
    | .error e => Fly c (fun m' led' => m' = m ∧ KE led') T h e s'
    | _ => False) ⟨h, c.g, c.d, tk, c.os⟩
theorem ns_dict {h : Heap} {a : Addr} {mv : PySem.Str → Option Value} (n : h.Ns a mv) : ∃ o, h.get? a = some o ∧ ∀ vs, o.data ≠ .fields vs := by
  obtain ⟨o, es, ep, ho, hd, _⟩ := n
  exact ⟨o, ho, fun vs q => by rw [hd] at q; cases q⟩
theorem callsE_def {fa : Addr} {fd : FuncData} {ob : Obj} {body : List Stmt} {ps others : List PySem.Str} {vs : List V} {K : V → List As → Prop} {KE : List As → Prop} (o : Ok c (Kt P) (k + 1)) (hfr : c.A.frames = some [c.env]) (hcf : c.env.frame = some c.L)
    (hl : (Kt P).lookup fa = some ob) (hdata : ob.data = .func fd) (hcd : c.h₀.CodeRec fd.code fd.qualname) (hbody : fd.body = .stmts body)
    (hbind : ∀ xs : List Value, xs.length = ps.length → ∀ h : Heap, (∀ b o, c.h₀.get? b = some o → h.get? b = some o) → ∀ tk, BindsTo ⟨h, c.g, c.d, tk, c.os⟩ fd ⟨xs, []⟩ (ps.zip xs))
    (hcell : ∀ x ∈ fd.scope.names, x.2 ≠ .cell) (hn : ps.length = vs.length) (nd : (ps ++ others).Nodup) (hloc : ∀ x ∈ ps ++ others, fd.scope.names.lookup x = some .local)
    (hg : fd.globals = mainGlobals) (hbu : fd.builtins = builtinsNs) (hk : fd.scope.kind = .function) (hco : fd.scope.isCoroutine = false) (hgen : fd.scope.isGenerator = false)
    (hfrm : ∀ L, (callEnv fd L fa).frame = some L)
    (h : ∀ L T h tk, St (c.deep (callEnv fd L fa)) (bindLoc ps vs others) led T h → wpAny c.M (c.A.deeper (callEnv fd L fa)) (execs body (callEnv fd L fa)) (Post FR (c.deep (callEnv fd L fa)) T (Ret K)) (Rz (c.deep (callEnv fd L fa)) (fun _ led' => KE led') T) ⟨h, c.g, c.d, tk, c.os⟩) : CallsE c (.ref fa) vs led K KE := fun m xs T hp tk s r => by
  have hlen : xs.length = ps.length := by rw [hn, r.length]
  have ndp : ((ps.zip xs).map (·.1)).Nodup := by
    rw [List.map_fst_zip (by (first | lia | omega))]
    exact (List.nodup_append.mp nd).1
  refine (codeAny_call_def (binds := ps.zip xs) (show c.A.depth < 1000 by have := o.dp; (first | lia | omega)) (s.base _ _ (o.X _ _ hl)) hdata (o.nl.keeps s.base) (hcd.keeps s.base) hbody (hbind xs hlen hp s.base tk) hcell (fun x hx => hloc _ ?_) ?_ hco hgen hk)
  · exact List.mem_append_left _ (List.mem_map.mpr ⟨x, hx, rfl⟩ |> fun z => by rw [List.map_fst_zip (by (first | lia | omega))] at z; exact z)
  · intro h₁ hns keep
    have s1 := s.keep keep
    have hLn : hp.get? hp.objs.size = none := get_none_of_ge (Nat.le_refl _)
    have off := s.off_at hLn
    have e : (fun y => (ps.zip xs).reverse.lookup y) = fun y => (ps.zip xs).lookup y := funext fun y => reverse_lookup ndp y
    rw [e] at hns
    have tkp := TK.of_keep keep
    have s2 : St (c.deep (callEnv fd hp.objs.size fa)) (bindLoc ps vs others) led ⟨h₁, addrsOf led, T.t⟩ h₁ :=
      s1.into (c' := c.deep (callEnv fd hp.objs.size fa)) hns (fun y => bindLoc_ok hn nd (r.mono tkp) y) (by rw [bindLoc_keys hn]; exact nd)
        (fun x hx => by rw [bindLoc_keys hn] at hx; exact hloc x hx) off.off rfl (Nat.le_trans s.low (Nat.le_of_lt s.Llt))
    have run := h hp.objs.size _ h₁ (tk + (ps.zip xs).length) s2
    refine wpAny_mono run (fun f s' zz => Post.go zz fun fl h' tk' m' led' e s3 rf kk => ?_) fun e s' ⟨x, h1, h', tk', m', led', y, ty, ee, es, s3, mk, ke⟩ => ?_
    · subst e
      have s4 := s1.outof s3 hns off.ne off.off rfl off.hE
      cases fl with
      | next => obtain ⟨led2, sp, kk⟩ := kk; rw [show f = Flow.next from rf]; exact ⟨.none, h', tk', m, led2, rfl, s4.subp sp, VR.n, rfl, kk⟩
      | ret v => obtain ⟨led2, sp, kk⟩ := kk; obtain ⟨y, rfl, hy⟩ := rf; exact ⟨v, h', tk', m, led2, rfl, s4.subp sp, hy, rfl, kk⟩
      | brk => exact kk.elim
      | cont => exact kk.elim
    · subst ee es
      have s4 := s1.outof s3 hns off.ne off.off rfl off.hE
      have hLC : (c.deep (callEnv fd hp.objs.size fa)).L = hp.objs.size := rfl
      obtain ⟨mv3, hn3, _⟩ := s3.ns
      rw [hLC] at hn3
      obtain ⟨mv4, hn4, _⟩ := s4.ns
      obtain ⟨oC, hoC, hfC⟩ := ns_dict hn3
      obtain ⟨oL, hoL, hfL⟩ := ns_dict hn4
      obtain ⟨ox, t, hx, hcls, hdat, ht0, ht⟩ := mk.there
      have nd3 := s3.nd
      rw [List.nodup_cons] at nd3
      have hB : ∀ b ∈ [hp.objs.size, c.L], (hideAll h1 [hp.objs.size, c.L]).get? b = none := fun b hb => hideAll_none _ hb
      have fun2 : h'.FunFrames (hideAll h1 [hp.objs.size, c.L]) [callEnv fd hp.objs.size fa, c.env] :=
        ⟨by rw [show (callEnv fd hp.objs.size fa).scope = fd.scope from rfl, hk]; decide, ⟨_, oC, hfrm _, hB _ (.head _), mk.keep _ _ hoC, hfC⟩, by rw [o.kf]; decide, ⟨_, oL, hcf, hB _ (.tail _ (.head _)), mk.keep _ _ hoL, hfL⟩, trivial⟩
      have hen : (hideAll h1 [hp.objs.size, c.L]).get? x = none := by
        cases q : (hideAll h1 [hp.objs.size, c.L]).get? x with
        | none => rfl
        | some oo => have := of_hideAll _ q; rw [mk.new] at this; cases this
      refine wpAny_leaving_firstW (s := ⟨h', c.g, c.d, tk', c.os⟩) (base := hideAll h1 [hp.objs.size, c.L]) (outer := [c.env]) (L := hp.objs.size) (a0 := .ref t) (Around.frames_deeper hfr) fun2 (hfrm _) hx (fun b oo e => mk.keep _ _ (of_hideAll _ e)) hen hdat rfl rfl fun h'' hL => ?_
      obtain ⟨k1, ⟨_, _, k2⟩, k3, k4⟩ := hL
      rw [hcls] at k3
      exact ⟨x, h1, h'', _, tk', m, led', hp.objs.size, mv3, _, rfl, rfl, s4, hLn, fun q => nd3.1 q, hn3, fun b oo e1 e2 e3 => hideAll_get _ e3 (by simp only [List.mem_cons, List.not_mem_nil, or_false, not_or]; exact ⟨e2, e1⟩), ⟨k1, hen, k2, k3⟩, (Heap.UpToSlots.of_keeps mk.keep).trans k4, rfl, ke⟩
/-- what the call needs not see -/
theorem CallsE.use {f : Value} {vs : List V} {K : V → List As → Prop} {KE : List As → Prop} {rest pre : List As} (h : CallsE c f vs pre K KE) (p : led.Perm (rest ++ pre)) : CallsE c f vs led (fun v led2 => ∃ led', led2 = rest ++ led' ∧ K v led') (fun led2 => ∃ led', led2 = rest ++ led' ∧ KE led') := fun m xs T hp tk s r => by
  have s1 := s.perm p
  refine codeAny_mono (h m xs _ hp tk ((s1.sub (List.sublist_append_right _ _)).rebase (addrsOf pre) fun _ q => q) r) fun rr s' z => ?_
  rcases rr with e | f
  · obtain ⟨x, h1, h', B, tk', m', led', C, mv, a0, ee, es, sx, hC, hCl, hn, hB, hfly, hup, em, ke⟩ := z
    subst em
    refine ⟨x, h1, h', B, tk', m', rest ++ led', C, mv, a0, ee, es, s1.unsels sx, hC, ?_, hn, hB, hfly, hup, rfl, led', rfl, ke⟩
    intro q
    obtain ⟨y, hy, hay⟩ := List.mem_flatMap.mp q
    rcases List.mem_append.mp hy with hy | hy
    · obtain ⟨o, ho, _⟩ := (s1.ok y (List.mem_append_left _ hy)).get C hay
      rw [hC] at ho; cases ho
    · exact hCl (List.mem_flatMap.mpr ⟨y, hy, hay⟩)
  · cases f with
    | ret v =>
      obtain ⟨b, h', tk', m', led', e, s2, r2, em, kk⟩ := z
      subst em
      exact ⟨b, h', tk', m', rest ++ led', e, s1.unsels s2, r2, rfl, led', rfl, kk⟩
    | _ => exact z.elim
noncomputable abbrev Cx.held (c : Cx) (x : Addr) : Cx := { c with A := c.A.mark (some (.ref x)) }
theorem St.held {T : Tmp} {h : Heap} {x : Addr} (s : St c m led T h) : St (c.held x) m led T h := ⟨s.ns, s.keys, s.kinds, s.base, s.low, s.ext, s.nd, s.ok, s.own, s.tmp⟩
theorem St.unheld {T : Tmp} {h : Heap} {x : Addr} (s : St (c.held x) m led T h) : St c m led T h := ⟨s.ns, s.keys, s.kinds, s.base, s.low, s.ext, s.nd, s.ok, s.own, s.tmp⟩
/-- try: a method is called; except LimitReached -/
theorem s_try64 {w name : PySem.Str} {np apos cpos epos npos hpos pos : Pos} {arg : Expr} {b₀ : Stmt} {suite : List Stmt} {W : V} {u : V} {f : Addr} {pl : Sem Bool} {K : F → Loc → List As → Prop} {KN : V → List As → Prop} {KE : List As → Prop} (o : Ok c (Kt P) (k + 1)) (hfr : c.A.frames = some [c.env]) (hcf : c.env.frame = some c.L)
    (hkf : keepIn (Kt P) (.ref f) = true)
    (hE : SE c m led (.Name w np) fun v m1 led1 => v = W ∧ m1 = m ∧ led1 = led) (hG : GM c m led name pl W fun f' first => f' = .ref f ∧ first = [W]) (hA : SE c m led arg fun v m1 led1 => v = u ∧ m1 = m ∧ led1 = led)
    (hC : CallsE c (.ref f) [W, u] led KN KE) (kN : ∀ v led', KN v led' → K .next m led') (kE : ∀ led' x, KE led' → SX (c.held x) m led' (b₀ :: suite) K)
    (hx : c.env.kindOf (S "LimitReached") = some .globalImplicit)
    (hi : interactive c.env = false := by rfl) (hs : swapsWith (.Call (.Attribute (.Name w np) name apos) [arg] [] cpos) none epos.line c.env = pure false := by rfl)
    (he : eval (.Call (.Attribute (.Name w np) name apos) [arg] [] cpos) c.env = (do
      let ov ← eval (.Name w np) c.env
      standAt apos.atName
      let (f, first) ← holding [ov] (getMethod ov name pl)
      callWith cpos f first (backTo cpos (starEach [arg] c.env)) []) := by rfl)
    (he2 : starEach [arg] c.env = (false, eval arg c.env) :: starEach [] c.env := by rfl) :
    SS c m led (.Try [.Expr (.Call (.Attribute (.Name w np) name apos) [arg] [] cpos) epos] [.ExceptHandler (some (.Name (S "LimitReached") npos)) none (b₀ :: suite) hpos] [] [] pos) K := fun T hp tk s => by
  refine wpAny_Try_except (wpAny_execs_cons (wpAny_Expr_any (MethodCall_ ?_ he) hi hs))
  refine wpAny_mono (hE T hp tk s) (fun a s1 zz => Post.go zz fun v1 h1 tk1 m1 led1 e s1' r1 ⟨ev, em, el⟩ => ?_) fun _ _ x => x.elim
  subst e ev em el
  refine wpAny_mono (hG a T h1 tk1 s1' r1) (fun fx s2 ⟨tk', first, e, rf, ef, efi⟩ => ?_) fun _ _ x => x.elim
  subst e efi
  rw [ef]
  refine callWith_K (K := Kt P) (h₀ := c.h₀) o.X hkf ?_ he2
  have ha : SA c m1 led1 cpos [arg] fun vs m2 led2 => vs = [u] ∧ m2 = m1 ∧ led2 = led1 := sa_cons (hA.mono fun v m2 led2 ⟨e1, e2, e3⟩ => by subst e1 e2 e3; exact sa_nil ⟨rfl, rfl, rfl⟩) he2
  obtain ⟨xa, xs0, efst, rxa, rx0⟩ := rf.inv
  obtain rfl := rx0.inv_nil
  rw [efst]
  refine wpAny_mono (ha (T.cons v1 xa) h1 tk' (s1'.cons rxa)) (fun b s2 zz => Post.go zz fun v2 h2 tk2 m2 led2 e s2' r2 ⟨ev, em, el⟩ => ?_) fun _ _ x => x.elim
  subst e ev em el
  refine ⟨o.X.keeps s2'.base, wpAny_call (codeAny_mono (hC m2 _ T h2 tk2 s2'.tail (.cons s2'.head r2)) fun rr s' z => ?_)⟩
  rcases rr with e | f
  · obtain ⟨x, g1, g', B, tk', m', led', C, mv, a0, ee, es, sx, hC, hCl, hn, hB, hfly, hup, em, ke⟩ := z
    subst em ee es
    have off0 := s2'.tail.off_at hC
    have off : Off c led' T C := ⟨off0.ne, hCl, off0.h0, off0.hE⟩
    have stAt : ∀ {g'' : Heap}, B.StaysIn g'' → g1.UpToSlots g'' → St c m' led' T g'' := fun {g''} st u => sx.slots off hn (fun b oo e1 e2 e3 => st _ _ (hB b oo e1 e2 e3)) u
    refine wpAny_looks_onW (s := ⟨g', c.g, c.d, tk', c.os⟩) (E := NoE) hfr hcf hfly fun h₄ hheld₄ hsm₄ => ?_
    refine wpAny_landsW (s := ⟨h₄, c.g, c.d, tk', c.os⟩) hheld₄ fun h₅ hheld hsm₅' => ?_
    have u5 := (hup.trans hsm₄).trans hsm₅'
    have st5 := stAt hheld.1 u5
    have X₅ : (Kt P).In h₅ := o.X.keeps st5.base
    have hC₅ : h₅.get? 64 = some ob64 := X₅ _ _ (by kernel_rfl)
    obtain ⟨obx, hob, hobc⟩ := hheld.there
    refine wpAny_handleBy_cons (codeAny_handlers_test ?_) (by intro q; cases q)
    refine Calls.Name_function_global o.kf hx ?_
    unfold loadGlobal
    rw [o.gl]
    refine wpAny_bind ((looks_nsIn (M := c.M) X₅ (show nsIn (Kt P) mainGlobals (S "LimitReached") = some (some (.ref 64)) by kernel_rfl)).here ?_)
    refine wpAny_pure ?_
    rw [ob64_exc] at hC₅
    refine wpAny_excMatches_sub_self hC₅ hob hobc (by decide +kernel) (codeAny_handlers_suite ?_)
    refine lands_againW (s := ⟨h₅, c.g, c.d, tk', c.os⟩) hheld fun h₆ hfl₆ hsm₆ => ?_
    have st6 := stAt hfl₆.1 (u5.trans hsm₆)
    refine wpAny_passesOwnAt PassesOwnAt.never ?_
    refine wpAny_mono (kE led' x ke T h₆ tk' st6.held) (fun a s' zz => Post.go zz fun b h' tk' m' led' e s' r kk => ⟨b, h', tk', m', led', e, s'.unheld, r, kk⟩) fun _ _ x => x.elim
  · cases f with
    | ret v =>
      obtain ⟨b, h', tk', m', led', e, s2, r2, em, kk⟩ := z
      subst em e
      exact wpAny_execs_nil (wpAny_execs_nil (post_here s2 FR.next (kN _ _ kk)))
    | _ => exact z.elim
end
section
variable {c : Cx} {m : Loc} {led : List As} {P : Params} {k : Nat}
noncomputable abbrev simL (c : Cx) (W dW N dN I O Cl Od Sd Vd Ld : Addr) (nm : V) (n : Nat) (cells : List Row) (order sidx : List Nat) (B : Int → Int) (nl : Nat) (g : Int → Option V) : List As :=
  [.ins W dW 292 (simF N Od Sd Vd Ld), .ins N dN 160 (netF nm n I O Cl), .lst Cl (cells.map Row.v), .lst Od (order.map fun (i : Nat) => .int i), .lst Sd (sidx.map fun (i : Nat) => .int i), .lst Vd (tab n B), .dic c.prog c.w Ld nl g]
theorem xx_cons {st : Stmt} {rest : List Stmt} {K : F → Loc → List As → Prop} {KX : Loc → List As → Prop} {E : Tmp → Value → Shared → Prop} (h : SS c m led st fun f m1 led1 => match f with | .next => KX m1 led1 | f => K f m1 led1)
    (hr : ∀ m1 led1, KX m1 led1 → ∀ T h tk, St c m1 led1 T h → wpAny c.M c.A (execs rest c.env) (Post FR c T K) (E T) ⟨h, c.g, c.d, tk, c.os⟩) : ∀ T h tk, St c m led T h → wpAny c.M c.A (execs (st :: rest) c.env) (Post FR c T K) (E T) ⟨h, c.g, c.d, tk, c.os⟩ := fun T hp tk s =>
  wpAny_execs_cons (wpAny_mono (h T hp tk s) (fun f s1 zz => Post.go zz fun v1 h1 tk1 m1 led1 e s1' r1 k1 => by
    subst e
    cases v1 with
    | next => rw [show f = Flow.next from r1]; exact hr _ _ k1 T h1 tk1 s1'
    | brk => rw [show f = Flow.brk from r1]; exact post_here s1' (b := F.brk) rfl k1
    | cont => rw [show f = Flow.cont from r1]; exact post_here s1' (b := F.cont) rfl k1
    | ret v => obtain ⟨x, rfl, hx⟩ := r1; exact post_here s1' (FR.ret hx) k1) fun _ _ x => x.elim)
/-- settle: done after i + 1 turns, or never within most -/
noncomputable def SetN (gs : List Row) (sts : List StC) (sidx : List Nat) (p0 : Sta) (most : Nat) (L : (Int → Int) → Nat → (Int → Option V) → List As) (v : V) (led' : List As) : Prop :=
  v = .none ∧ ∃ (i : Nat) (g' : Int → Option V) (nl' : Nat) (lo' : Nat → Option Int), i < most ∧ (∀ j, j < i → sr gs sts (it gs sts j p0) = true) ∧ sr gs sts (it gs sts i p0) = false ∧ nl' < 50000 ∧ LastR sidx g' lo' ∧ Lk sts lo' (it gs sts (i + 1) p0).2 ∧ led' = L (it gs sts (i + 1) p0).1 nl' g'
theorem settle_ok (o : Ok c (Kt P) (k + 1 + 1 + 1 + 1 + 1)) (hfr : c.A.frames = some [c.env]) (hcf : c.env.frame = some c.L) {W dW N dN I O Cl Od Sd Vd Ld : Addr} {nm : V} {n nl : Nat} {cells : List Row} {sts : List StC} {sidx order : List Nat} {rows gs : List Row} {p0 : Sta} {g : Int → Option V} {lo : Nat → Option Int} {most : Nat} (hn : n < 1000) (hc : cells.length < 1000) (hl : sts.length < 1000) (hnl : nl < 50000)
    (ha : AtS sts sidx cells) (hs : ∀ s ∈ sts, s.ok n) (hg : LastR sidx g lo) (hlk : Lk sts lo p0.2) (hB : Bits p0.1) (hnd : (sts.map (·.out)).Nodup)
    (hlen : order.length = rows.length) (hl2 : rows.length < 1000) (hord : ∀ (j : Nat) (r : Row), rows[j]? = some r → ∃ i : Nat, order[j]? = some i ∧ cells[i]? = some r) (hgr : ∀ r ∈ rows, r.gate n)
    (hev : ∀ B, evalRows B rows = evalRows B gs) (hm : most ≤ 100) :
    CallsE c (.ref 268) [.ref W, .int most] (simL c W dW N dN I O Cl Od Sd Vd Ld nm n cells order sidx p0.1 nl g) (SetN gs sts sidx p0 most (simL c W dW N dN I O Cl Od Sd Vd Ld nm n cells order sidx)) fun _ => ∀ j, j < most → sr gs sts (it gs sts j p0) = true := by
  refine callsE_def (fd := fd268) (ob := ob268) (body := bodyOf (nth (inCls (nth top 22)) 4)) (ps := [S "self", S "most"]) (others := [S "count"]) o hfr hcf (by kernel_rfl) rfl (codeRec_of o.X (by kernel_rfl)) rfl (fun xs hx hh hk tk => ?_) ?_ rfl (by decide +kernel) ?_ rfl rfl (by kernel_rfl) (by kernel_rfl) (by kernel_rfl) (fun L => rfl) fun L => ?_
  · obtain ⟨a0, a1, rfl⟩ := len2 hx
    exact binds_K (o.X.keeps hk) rfl (show (Kt P).lookup 261 = some ob261 by kernel_rfl) rfl (by with_unfolding_all rfl) (by with_unfolding_all rfl)
  · have q : (fd268.scope.names.all fun x => decide (x.2 ≠ .cell)) = true := by decide +kernel
    exact fun z hz => by have := List.all_eq_true.mp q z hz; simpa using this
  · have q : ([S "self", S "most", S "count"].all fun x => decide (fd268.scope.names.lookup x = some .local)) = true := by decide +kernel
    exact fun z hz => by have := List.all_eq_true.mp q z hz; simpa using this
  have o' : Ok (c.deep (callEnv fd268 L 268)) (Kt P) (k + 1 + 1 + 1 + 1) := o.deep rfl rfl (by kernel_rfl)
  refine xx_cons (c := c.deep (callEnv fd268 L 268)) (KX := fun m1 led1 => ∀ j, j < most → sr gs sts (it gs sts j p0) = true) ?_ ?_
  · show SS _ [(S "self", some (.ref W)), (S "most", some (.int most)), (S "count", none)] (simL c W dW N dN I O Cl Od Sd Vd Ld nm n cells order sidx p0.1 nl g) _ _
    repeat tb_rel
    refine' ⟨_, _, _, .rng (by (first | lia | omega)) (by simp; (first | lia | omega)), fun j m led => Cj3 (j ≤ most) ((∀ i, i < j → sr gs sts (it gs sts i p0) = true)) (∃ u1 g' nl' lo', Cj5 (m = [(S "self", some (.ref W)), (S "most", some (.int most)), (S "count", u1)]) (nl' < 50000) (LastR sidx g' lo') (Lk sts lo' (it gs sts j p0).2) (led = simL c W dW N dN I O Cl Od Sd Vd Ld nm n cells order sidx (it gs sts j p0).1 nl' g')), ?_, ?_, ?_⟩
    · exact ⟨_, SubP.refl _, Nat.zero_le _, fun i h => absurd h (Nat.not_lt_zero _), _, _, _, _, rfl, hnl, hg, hlk, rfl⟩
    · rintro j v m led hv KX1 KX2 hX1 hX2 ⟨hj, hall, u1, g', nl', lo', rfl, hnl', hg', hlk', rfl⟩
      repeat tb_rel
      have hBj := it_bits (gs := gs) (sts := sts) hB j
      have hso : ∀ s ∈ sts, s.edge = 0 ∨ s.edge = 1 := fun s h => (hs s h).he
      refine Calls.go (turn_ok (k := k) (P := P) o' hn hc hl hnl' ha hs hg' hBj hnd hlen hl2 hord hgr) (.cons (by tb_start) (.cons (by tb_start) (.cons (by tb_start) (.cons (by tb_start) (.cons (by tb_start) (.cons (by tb_start) (.cons (by tb_start) .nil))))))) ?_
      rintro v led' ⟨rfl, g'', nl'', hg'', hle, hnleq, rfl⟩
      refine ⟨_, .cons (.cons (.cons (.cons (.cons (.cons (.cons .nil)))))), ?_⟩
      have hnl2 : nl'' < 50000 := by
        rw [hnleq fun j s hj hf => by rw [(hlk' j s hj).2 hf]; rfl]
        exact hnl'
      clear hle hnleq
      have hjm : j < most := by
        have := (List.getElem?_eq_some_iff.mp hv).1
        unfold rngV at this
        simpa using this
      have e1 : evalRows (it gs sts j p0).1 rows = evalRows (it gs sts j p0).1 gs := hev _
      rw [e1] at hg'' ⊢
      have hBe := hBj.rows gs
      have est := stir_same hBe hso hlk'
      have efo := found_same hBe hso hlk'
      rw [est, efo]
      have hlk2 : Lk sts (noteL sts lo' (evalRows (it gs sts j p0).1 gs) sts.length) (it gs sts (j + 1) p0).2 := lk_next hBe hnd
      have eb : setOuts (evalRows (it gs sts j p0).1 gs) (lawF sts (it gs sts j p0).2 (evalRows (it gs sts j p0).1 gs)) = (it gs sts (j + 1) p0).1 := rfl
      rw [eb]
      have es : lawS sts (it gs sts j p0).2 (evalRows (it gs sts j p0).1 gs) = sr gs sts (it gs sts j p0) := rfl
      rw [es]
      repeat tb_rel
      refine ite_both (fun e => ?_) (fun e => ?_)
      · repeat tb_rel
        exact ⟨_, SubP.refl _, rfl, j, g'', nl'', _, hjm, hall, by simpa using e, hnl2, hg'', hlk2, rfl⟩
      · have e : sr gs sts (it gs sts j p0) = true := by simpa using e
        repeat tb_rel
        refine ⟨_, SubP.refl _, by (first | lia | omega), fun i hi => ?_, _, g'', nl'', _, rfl, hnl2, hg'', hlk2, rfl⟩
        rcases Nat.lt_or_ge i j with z | z
        · exact hall i z
        · rw [show i = j by (first | lia | omega)]; exact e
    · rintro m led ⟨hj, hall, u1, g', nl', lo', rfl, hnl', hg', hlk', rfl⟩
      rw [show (rngV (most : Int)).length = most by unfold rngV; simp] at hall
      exact hall
  · rintro m1 led1 hall T h tk s
    refine wpAny_execs_cons (s_raise64 o' (by kernel_rfl) (K := fun _ _ => _) hall s)
end
section
variable {c : Cx} {m : Loc} {led : List As} {P : Params} {k : Nat}
/-- the law's own frame -/
noncomputable abbrev lawEnv (L fa : Addr) (cd : Value) : Env := envOfC (S "law") (scopeOf (nth top 28)) L fa cd
noncomputable def lawSeg (i n : Nat) : List Stmt := ((bodyOf (nth top 28)).drop i).take n
structure LL (L : Addr) : Prop where
  t : True
variable {L : Addr} {v : V} {pos : Pos} {K : V → Loc → List As → Prop}
theorem e_hand (lw : LL L) (o : Ok c (Kt P) k) (g : MemA (.cel (L + 1) (some v)) led) (hc : c.env.cells.lookup (S "hand") = some (L + 1)) (hx : c.env.kindOf (S "hand") = some .cell) (h : K v m led) : SE c m led (.Name (S "hand") pos) K := e_cell o g hc hx h
theorem e_pool (lw : LL L) (o : Ok c (Kt P) k) (g : MemA (.cel (L + 2) (some v)) led) (hc : c.env.cells.lookup (S "pool") = some (L + 2)) (hx : c.env.kindOf (S "pool") = some .cell) (h : K v m led) : SE c m led (.Name (S "pool") pos) K := e_cell o g hc hx h
theorem e_bits (lw : LL L) (o : Ok c (Kt P) k) (g : MemA (.cel (L + 3) (some v)) led) (hc : c.env.cells.lookup (S "bits") = some (L + 3)) (hx : c.env.kindOf (S "bits") = some .cell) (h : K v m led) : SE c m led (.Name (S "bits") pos) K := e_cell o g hc hx h
theorem e_world (lw : LL L) (o : Ok c (Kt P) k) (g : MemA (.cel (L + 4) (some v)) led) (hc : c.env.cells.lookup (S "world") = some (L + 4)) (hx : c.env.kindOf (S "world") = some .cell) (h : K v m led) : SE c m led (.Name (S "world") pos) K := e_cell o g hc hx h
theorem vrs_ints {h : Heap} {ns : List Int} {xs : List Value} (g : IntsAre xs ns) : VRs h (ns.map .int) xs := by
  induction g with
  | nil => exact VRs.nil
  | cons n t _ ih => exact VRs.cons ⟨t, rfl⟩ ih
/-- script[:63], script of the base -/
theorem e_slice_base {value hi : Expr} {p pos : Pos} {l : Addr} {items : Array Value} {ns : List Int} (hb : c.h₀.IsList l items) (hi0 : IntsAre items.toList ns) (hz : ns.length ≤ 10000) (h : SE c m led value fun v m1 led1 => SE c m1 led1 hi fun u m2 led2 => ∃ i, v = .ref l ∧ u = .int i ∧ 0 ≤ i ∧ ∀ D, K (.ref D) m2 (.lst D ((ns.take i.toNat).map .int) :: led2))
    (ht : ∀ o r, letTemporaryGo value o r = pure () := by intro _ _; rfl) : SE c m led (.Subscript value (.Slice none (some hi) none p) pos) K := fun T hp tk s =>
  wpAny_Subscript_list_slice (wpAny_mono (h T hp tk s) (fun a s1 zz => Post.go zz fun v1 h1 tk1 m1 led1 e s1' r1 k1 => by
    subst e
    refine wpAny_evalPart_none (wpAny_mono (k1 (T.cons v1 a) h1 tk1 (s1'.cons r1)) (fun b s2 zz => Post.go zz fun v2 h2 tk2 m2 led2 e s2' r2 ⟨i, e1, e2, h0, kk⟩ => ?_) fun _ _ x => x)
    subst e e1 e2
    rw [s2'.head.ro]
    obtain ⟨t, rfl⟩ := r2.io
    have hl : h2.IsList l items := (let ⟨o, e, r⟩ := hb; ⟨o, s2'.base _ _ e, r⟩)
    have hvr : VRs h2 (ns.map .int) items.toList := vrs_ints hi0
    have hsz : items.size = ns.length := by have := hvr.length; rw [List.length_map] at this; rw [this]; simp
    refine ⟨l, items, none, some i, rfl, hl, by rw [hsz, sizeLine_eq]; (first | lia | omega), .none, .int _ _, ?_⟩
    have s3 := s2'.tail.keep (keepPush { cls := .type "slice", data := .fields #[.none, .int i t, .none] })
    have := new_lst s3 (keepPush _) (items := slicePick items none (some i) none) (n := 0) (Heap.get?_push_size _ rfl) (vs := (ns.take i.toNat).map .int) (by rw [pick_upto _ h0, List.map_take]; exact (hvr.take _).mono (TK.of_keep (keepPush _)))
    rw [Heap.size_push] at this
    exact post_here this VR.r (kk _)) fun _ _ x => x) ht
end
local macro_rules | `(tactic| top_name) => `(tactic| first
  | (ktf_call (e_hand ?_ ?_ ?_ ?_ ?_ ?_); rotate_left 4; lcg_sub; lcg_sub; tb_start; kernel_rfl; kernel_rfl)
  | (ktf_call (e_pool ?_ ?_ ?_ ?_ ?_ ?_); rotate_left 4; lcg_sub; lcg_sub; tb_start; kernel_rfl; kernel_rfl)
  | (ktf_call (e_bits ?_ ?_ ?_ ?_ ?_ ?_); rotate_left 4; lcg_sub; lcg_sub; tb_start; kernel_rfl; kernel_rfl)
  | (ktf_call (e_world ?_ ?_ ?_ ?_ ?_ ?_); rotate_left 4; lcg_sub; lcg_sub; tb_start; kernel_rfl; kernel_rfl))
section
variable {c : Cx} {m : Loc} {led : List As} {P : Params} {k : Nat}
noncomputable abbrev lawM0 (Sp : Addr) : Loc := [(S "script", some (.ref Sp)), (S "cells", none), (S "net", none), (S "given", none), (S "outs", none), (S "rows", none), (S "states", none), (S "early", none), (S "kinds", none), (S "gates", none), (S "spot", none), (S "kind", none), (S "wide", none), (S "param", none), (S "ins", none), (S "out", none), (S "first", none), (S "init", none), (S "seen", none), (S "one", none), (S "clocks", none), (S "_", none), (S "which", none), (S "name", none), (S "entire", none), (S "port", none), (S "nets", none), (S "step", none), (S "most", none), (S "rounds", none)]
theorem Calls.fr {f : Value} {vs : List V} {K K' : V → List As → Prop} {pre rest : List As} (h : Calls c f vs pre K) (s : Sels pre led rest) (k : ∀ v led', K v led' → Ap led' rest (K' v)) : Calls c f vs led K' := fun m xs T hp tk st r => by
  have p : led.Perm (rest ++ pre) := s.perm.trans List.perm_append_comm
  have s1 := st.perm p
  refine codeAny_mono (h m xs _ hp tk ((s1.sub (List.sublist_append_right _ _)).rebase (addrsOf pre) fun _ q => q) r) fun rr s' z => ?_
  rcases rr with e | f
  · exact z.elim
  · cases f with
    | ret v =>
      obtain ⟨b, h', tk', m', led', e, s2, r2, em, kk⟩ := z
      subst em
      obtain ⟨led2, ap, kk⟩ := k _ _ kk
      refine ⟨b, h', tk', m', led2, e, ?_, r2, rfl, kk⟩
      rw [ap.eq]
      exact (s1.unsels s2).perm List.perm_append_comm
    | _ => exact z.elim
theorem sx_hand {H C : Addr} {ns : List Int} {i r q : Int} {t : List Stmt} {K : F → Loc → List As → Prop} (a1 : 0 ≤ i) (a2 : i ≤ ns.length) (a3 : ns.length ≤ 63) (a4 : 0 ≤ r) (a5 : 0 ≤ q) (a6 : q < 2 ^ 31) (h : SX c m (.hnd H C ns :: led) t K) :
    SX c m (.lst H [.ref C, .int i, .int r, .int q] :: .lst C (ns.map .int) :: led) t K := fun T hp tk s => h T hp tk (hnd_close a1 a2 a3 a4 a5 a6 s)
theorem runFrom_len (n : Int) (w : Nat) : (runFrom n w).length = w := by simp [runFrom]
/-- the nets that the law gives out first -/
structure Base0 (na nb outs : List Int) (n : Nat) : Prop where
  la : 1 ≤ na.length ∧ na.length ≤ 2
  lb : 1 ≤ nb.length ∧ nb.length ≤ 2
  lo : outs.length ≤ 3
  nd : (([0, 1] : List Int) ++ na ++ nb ++ outs).Nodup
  rg : ∀ x ∈ na ++ nb ++ outs, 2 ≤ x ∧ x < n
  n0 : 4 ≤ n ∧ n ≤ 9
  cov : ∀ i : Nat, i < n → 2 ≤ i → (i : Int) ∈ na ++ nb ++ outs
theorem base0_mk {wa wb q : Int} {n : Nat} (a0 : 0 ≤ wa) (a1 : wa < 2) (b0 : 0 ≤ wb) (b1 : wb < 2) (q0 : 0 ≤ q) (q1 : q < 4) (hn : 2 + (1 + wa) + (1 + wb) + q = (n : Int)) :
    Base0 (runFrom 2 (1 + wa).toNat) (runFrom (2 + (1 + wa)) (1 + wb).toNat) (runFrom (2 + (1 + wa) + (1 + wb)) q.toNat) n := by
  have ha : wa = 0 ∨ wa = 1 := by (first | lia | omega)
  have hb : wb = 0 ∨ wb = 1 := by (first | lia | omega)
  have hq : q = 0 ∨ q = 1 ∨ q = 2 ∨ q = 3 := by (first | lia | omega)
  rcases ha with rfl | rfl <;> rcases hb with rfl | rfl <;> rcases hq with rfl | rfl | rfl | rfl
  all_goals
    obtain rfl : n = _ := Int.ofNat.inj hn.symm
    exact ⟨by decide, by decide, by decide, by decide, by decide, by decide, by decide⟩
noncomputable def kindV (b : Bool) : V := .str (if b then S "flop" else S "latch")
structure LA where
  H : Addr
  Pl : Addr
  C : Addr
  N : Addr
  dN : Addr
  I : Addr
  O : Addr
  Cl : Addr
  Ia : Addr
  Ib : Addr
  Gd : Addr
  Ou : Addr
  Rw : Addr
  St : Addr
  Kn : Addr
noncomputable abbrev lawM1 (Sp : Addr) (a : LA) (early : Bool) (gates : Int) : Loc := [(S "script", some (.ref Sp)), (S "cells", some (.ref a.C)), (S "net", some (.ref a.N)), (S "given", some (.ref a.Gd)), (S "outs", some (.ref a.Ou)), (S "rows", some (.ref a.Rw)), (S "states", some (.ref a.St)), (S "early", some (.bool early)), (S "kinds", some (.ref a.Kn)), (S "gates", some (.int gates)), (S "spot", none), (S "kind", none), (S "wide", none), (S "param", none), (S "ins", none), (S "out", none), (S "first", none), (S "init", none), (S "seen", none), (S "one", none), (S "clocks", none), (S "_", none), (S "which", none), (S "name", none), (S "entire", none), (S "port", none), (S "nets", none), (S "step", none), (S "most", none), (S "rounds", none)]
noncomputable abbrev lawL (L : Addr) (a : LA) (cs : List Int) (n : Int) (na nb outs : List Int) (ks : List Bool) (pool : List Int) (cells rows sts : List V) : List As := [.hnd a.H a.C cs, .cel (L + 1) (some (.ref a.H)), .cel (L + 2) (some (.ref a.Pl)), .cel (L + 3) none, .cel (L + 4) none, .ins a.N a.dN 160 (netF (.str (S "m")) n a.I a.O a.Cl), .lst a.I (inV a.Ia a.Ib), .lst a.Ia (na.map .int), .lst a.Ib (nb.map .int), .lst a.O [], .lst a.Cl cells, .lst a.Gd ((na ++ nb).map .int), .lst a.Ou (outs.map .int), .lst a.Pl (pool.map .int), .lst a.Rw rows, .lst a.St sts, .lst a.Kn (ks.map kindV)]
theorem segA {fa L : Addr} {cd : Value} (lw : LL L) (o : Ok (c.deep (lawEnv L fa cd)) (Kt P) (k + 1 + 1 + 1 + 1 + 1)) {Sp : Addr} {items : Array Value} {ns : List Int} (hb : c.h₀.IsList Sp items) (hi0 : IntsAre items.toList ns) (hz : ns.length ≤ 10000) {K : F → Loc → List As → Prop} {rest : List Stmt}
    (hK : ∀ (a : LA) cs n na nb outs ks early (gates : Nat), Base0 na nb outs n → ks.length = outs.length → gates ≤ 6 → SX (c.deep (lawEnv L fa cd)) (lawM1 Sp a early gates) (lawL L a cs n na nb outs ks (na ++ nb ++ outs ++ [0, 1]) [] [] []) rest K) :
    SX (c.deep (lawEnv L fa cd)) (lawM0 Sp) [.cel (L + 1) none, .cel (L + 2) none, .cel (L + 3) none, .cel (L + 4) none] (lawSeg 0 11 ++ rest) K := by
  refine s_cons ?_
  refine' s_assign ?hk ?qs ?_; (case hk => rfl); (case qs => rfl)
  refine e_slice_base (ns := ns) hb hi0 hz ?_
  repeat tb_rel
  refine ⟨63, rfl, rfl, by decide, fun C => ?_⟩
  repeat tb_rel
  refine s_cons ?_
  refine' s_assign_cell (a := L + 1) ?hk ?hx ?hc ?qs ?_; (case hk => rfl); (case hx => kernel_rfl); (case hc => kernel_rfl); (case qs => rfl)
  repeat tb_rel
  have hcl : (ns.take (Int.toNat 63)).length ≤ 63 := by rw [List.length_take]; exact Nat.min_le_left _ _
  generalize ns.take (Int.toNat 63) = cs at *
  refine n_sum o.hh (by tb_start) ?_
  have hs0 : 0 ≤ cs.sum.fmod 100003 := Int.fmod_nonneg_of_pos _ (by decide)
  have hs1 : cs.sum.fmod 100003 < 100003 := Int.fmod_lt_of_pos _ (by decide)
  repeat tb_rel
  refine p_mul (mul_ok (by have : (100003 : Int).natAbs = 100003 := rfl; (first | lia | omega))) ?_
  repeat tb_rel
  intro H
  refine ⟨none, _, by tb_start, ?_⟩
  refine then_next ?_
  refine sx_hand (by decide) (by (first | lia | omega)) hcl (by decide) (by (first | lia | omega)) (by (first | lia | omega)) ?_
  refine s_cons ?_
  repeat tb_rel
  refine n_make (fI := 101) o (by kernel_rfl) (by kernel_rfl) (by kernel_rfl) fun N dN A oA => ?_
  refine Calls.fr (ninit_ok (P := P) (k := k + 1 + 1 + 1) oA (N := N) (d := dN) (nm := .str (S "m")) (fun g e => by cases e) (K := fun v led' => v = .none ∧ X3 fun I O Cl => led' = [.ins N dN 160 (netF (.str (S "m")) 2 I O Cl), .lst I [], .lst O [], .lst Cl []]) fun I O Cl => ⟨rfl, I, O, Cl, rfl⟩) (.cons .head .nil) ?_
  rintro v led' ⟨rfl, I, O, Cl, rfl⟩
  refine ⟨_, .cons (.cons (.cons (.cons .nil))), rfl, ?_⟩
  repeat tb_rel
  refine s_cons ?_
  repeat tb_rel
  refine Calls.same (pick_ok (P := P) (k := k + 1 + 1 + 1 + 1) o (by decide) (by decide)) (.cons (by tb_start) .nil) ?_
  rintro v ⟨wa, rfl, wa0, wa1⟩
  repeat tb_rel
  refine Calls.go (addin_ok (k := k + 1 + 1) (P := P) (is := []) o (by (first | lia | omega)) (by (first | lia | omega)) (by decide)) (.cons (by tb_start) (.cons (by tb_start) .nil)) ?_
  rintro v led' ⟨Ra, Ia, rfl, rfl⟩
  refine ⟨_, .cons (.cons (.cons (.cons .nil))), ?_⟩
  repeat tb_rel
  refine Calls.same (pick_ok (P := P) (k := k + 1 + 1 + 1 + 1) o (by decide) (by decide)) (.cons (by tb_start) .nil) ?_
  rintro v ⟨wb, rfl, wb0, wb1⟩
  repeat tb_rel
  refine Calls.go (addin_ok (k := k + 1 + 1) (P := P) (is := [] ++ [.tup [.str (S "a"), .ref Ia]]) o (by (first | lia | omega)) (by (first | lia | omega)) (by simp)) (.cons (by tb_start) (.cons (by tb_start) .nil)) ?_
  rintro v led' ⟨Rb, Ib, rfl, rfl⟩
  refine ⟨_, .cons (.cons (.cons (.cons .nil))), ?_⟩
  repeat tb_rel
  refine p_addL (by tb_start) (by tb_start) ?_ fun Gd => ?_
  · simp only [List.length_map, runFrom_len]; (first | lia | omega)
  repeat tb_rel
  refine s_cons ?_
  repeat tb_rel
  refine Calls.same (pick_ok (P := P) (k := k + 1 + 1 + 1 + 1) o (by decide) (by decide)) (.cons (by tb_start) .nil) ?_
  rintro v ⟨q, rfl, q0, q1⟩
  repeat tb_rel
  refine Calls.go (newnets_ok (k := k + 1 + 1 + 1) (P := P) o (by (first | lia | omega)) (by (first | lia | omega))) (.cons (by tb_start) .nil) ?_
  rintro v led' ⟨Ou, rfl, rfl⟩
  refine ⟨_, .cons (.cons .nil), ?_⟩
  repeat tb_rel
  refine s_cons ?_
  refine' s_assign_cell (a := L + 2) ?hk ?hx ?hc ?qs ?_; (case hk => rfl); (case hx => kernel_rfl); (case hc => kernel_rfl); (case qs => rfl)
  repeat tb_rel
  refine p_addL (by tb_start) (by tb_start) ?_ fun Pa => ?_
  · simp only [List.length_append, List.length_map, runFrom_len]; (first | lia | omega)
  repeat tb_rel
  intro Pb
  refine p_addL (by tb_start) (by tb_start) ?_ fun Pl => ?_
  · simp only [List.length_append, List.length_map, runFrom_len, List.length_cons, List.length_nil]; (first | lia | omega)
  refine ⟨none, _, by tb_start, ?_⟩
  refine then_next ?_
  obtain ⟨n, hn⟩ : ∃ n : Nat, 2 + (1 + wa) + (1 + wb) + q = (n : Int) := ⟨(2 + (1 + wa) + (1 + wb) + q).toNat, by (first | lia | omega)⟩
  have hb0 := base0_mk wa0 wa1 wb0 wb1 q0 q1 hn
  rw [show ([] ++ [V.tup [.str (S "a"), .ref Ia]] ++ [V.tup [.str (S "b"), .ref Ib]] : List V) = inV Ia Ib from rfl]
  rw [hn, show [V.int 0, V.int 1] = ([0, 1] : List Int).map V.int from rfl]
  simp only [← List.map_append]
  generalize runFrom 2 (1 + wa).toNat = na at *
  generalize runFrom (2 + (1 + wa)) (1 + wb).toNat = nb at *
  generalize runFrom (2 + (1 + wa) + (1 + wb)) q.toNat = outs at *
  refine SP.sub (led' := [.cel (L + 1) (some (.ref H)), .cel (L + 2) (some (.ref Pl)), .cel (L + 3) none, .cel (L + 4) none, .hnd H C cs, .ins N dN 160 (netF (.str (S "m")) n I O Cl), .lst I (inV Ia Ib), .lst Ia (na.map .int), .lst Ib (nb.map .int), .lst O [], .lst Cl [], .lst Gd ((na ++ nb).map .int), .lst Ou (outs.map .int), .lst Pl ((na ++ nb ++ outs ++ [0, 1]).map .int)]) ?_ ?_
  · exact .cons (by tb_start) (.cons (by tb_start) (.cons (by tb_start) (.cons (by tb_start) (.cons (by tb_start) (.cons (by tb_start) (.cons (by tb_start) (.cons (by tb_start) (.cons (by tb_start) (.cons (by tb_start) (.cons (by tb_start) (.cons (by tb_start) (.cons (by tb_start) (.cons (by tb_start) (.nil _))))))))))))))
  clear hs0 hs1
  refine s_cons ?_
  repeat tb_rel
  intro Rw
  repeat tb_rel
  refine s_cons ?_
  repeat tb_rel
  intro St
  repeat tb_rel
  refine s_cons ?_
  repeat tb_rel
  refine Calls.same (pick_ok (P := P) (k := k + 1 + 1 + 1 + 1) o (by decide) (by decide)) (.cons (by tb_start) .nil) ?_
  rintro v ⟨ey, rfl, ey0, ey1⟩
  repeat tb_rel
  refine s_cons ?_
  repeat tb_rel
  have hlo := hb0.lo
  refine' ⟨_, _, _, .lst ?qs, ?ql, fun i us led => ∃ ks : List Bool, Cj3 (ks.length = i) (us = ks.map kindV) (led = [.hnd H C cs, .cel (L + 1) (some (.ref H)), .cel (L + 2) (some (.ref Pl)), .cel (L + 3) none, .cel (L + 4) none, .ins N dN 160 (netF (.str (S "m")) n I O Cl), .lst I (inV Ia Ib), .lst Ia (na.map .int), .lst Ib (nb.map .int), .lst O [], .lst Cl [], .lst Gd ((na ++ nb).map .int), .lst Pl ((na ++ nb ++ outs ++ [0, 1]).map .int), .lst Rw [], .lst St []]), ?_, ?_, ?_⟩
  case qs => tb_start
  case ql => rw [List.length_map]; (first | lia | omega)
  · exact ⟨_, .cons (by tb_start) (.cons (by tb_start) (.cons (by tb_start) (.cons (by tb_start) (.cons (by tb_start) (.cons (by tb_start) (.cons (by tb_start) (.cons (by tb_start) (.cons (by tb_start) (.cons (by tb_start) (.cons (by tb_start) (.cons (by tb_start) (.cons (by tb_start) (.cons (by tb_start) (.cons (by tb_start) (.nil _))))))))))))))), [], rfl, rfl, rfl⟩
  · rintro i v us led Cf hv KE hKE ⟨ks, rfl, rfl, rfl⟩
    refine comp_in o (by kernel_rfl) fun oc => ?_
    repeat tb_rel
    refine Calls.same (pick_ok (P := P) (k := k + 1 + 1 + 1 + 1) oc (by decide) (by decide)) (.cons (by tb_start) .nil) ?_
    rintro v ⟨d, rfl, d0, d1⟩
    repeat tb_rel
    have hd : d.fdiv 3 = 0 ∨ d.fdiv 3 = 1 := by rw [Int.fdiv_eq_ediv_of_nonneg _ (by decide)]; (first | lia | omega)
    rcases hd with e | e
    · rw [e]
      repeat tb_rel
      exact ⟨⟨_, rfl⟩, _, SubP.refl _, ks ++ [true], by simp, by rw [List.map_append]; rfl, rfl⟩
    · rw [e]
      repeat tb_rel
      exact ⟨⟨_, rfl⟩, _, SubP.refl _, ks ++ [false], by simp, by rw [List.map_append]; rfl, rfl⟩
  · rintro us led ⟨ks, hks, rfl, rfl⟩ Kn
    rw [List.length_map] at hks
    repeat tb_rel
    refine s_cons ?_
    repeat tb_rel
    refine Calls.same (pick_ok (P := P) (k := k + 1 + 1 + 1 + 1) o (by decide) (by decide)) (.cons (by tb_start) .nil) ?_
    rintro v ⟨ga, rfl, ga0, ga1⟩
    obtain ⟨gt, rfl⟩ : ∃ gt : Nat, ga = gt := ⟨ga.toNat, by (first | lia | omega)⟩
    repeat tb_rel
    refine SP.sub ?_ (hK ⟨H, Pl, C, N, dN, I, O, Cl, Ia, Ib, Gd, Ou, Rw, St, Kn⟩ cs n na nb outs ks _ gt hb0 hks (by (first | lia | omega)))
    exact .cons (by tb_start) (.cons (by tb_start) (.cons (by tb_start) (.cons (by tb_start) (.cons (by tb_start) (.cons (by tb_start) (.cons (by tb_start) (.cons (by tb_start) (.cons (by tb_start) (.cons (by tb_start) (.cons (by tb_start) (.cons (by tb_start) (.cons (by tb_start) (.cons (by tb_start) (.cons (by tb_start) (.cons (by tb_start) (.cons (by tb_start) (.nil _)))))))))))))))))
end
section
variable {c : Cx} {m : Loc} {led : List As} {P : Params} {k : Nat}
structure LU where
  spot : Option V
  kind : Option V
  wide : Option V
  param : Option V
  ins : Option V
  out : Option V
  first : Option V
  init : Option V
  seen : Option V
  one : Option V
  clocks : Option V
  us : Option V
  which : Option V
  name : Option V
  entire : Option V
  port : Option V
  nets : Option V
  step : Option V
  most : Option V
  rounds : Option V
noncomputable abbrev lawM (Sp : Addr) (a : LA) (early : Bool) (gates : Int) (u : LU) : Loc := [(S "script", some (.ref Sp)), (S "cells", some (.ref a.C)), (S "net", some (.ref a.N)), (S "given", some (.ref a.Gd)), (S "outs", some (.ref a.Ou)), (S "rows", some (.ref a.Rw)), (S "states", some (.ref a.St)), (S "early", some (.bool early)), (S "kinds", some (.ref a.Kn)), (S "gates", some (.int gates)), (S "spot", u.spot), (S "kind", u.kind), (S "wide", u.wide), (S "param", u.param), (S "ins", u.ins), (S "out", u.out), (S "first", u.first), (S "init", u.init), (S "seen", u.seen), (S "one", u.one), (S "clocks", u.clocks), (S "_", u.us), (S "which", u.which), (S "name", u.name), (S "entire", u.entire), (S "port", u.port), (S "nets", u.nets), (S "step", u.step), (S "most", u.most), (S "rounds", u.rounds)]
noncomputable def GOk (n : Int) (gs : List Row) : Prop := ∀ (i : Nat) (r : Row), gs[i]? = some r → r.kind ∈ kinds11 ∧ r.ins.length = wideOf r.kind ∧ r.prm = prmOf r.kind ∧ r.out = n + i ∧ ∀ x ∈ r.ins, 0 ≤ x ∧ x < n + i
structure PoolOk (pool : List Int) (n : Int) : Prop where
  l1 : 1 ≤ pool.length
  l2 : pool.length ≤ 30
  rg : ∀ x ∈ pool, 0 ≤ x ∧ x < n
theorem kind_at {d : Int} (d0 : 0 ≤ d) (d1 : d < 11) : ∃ kd, ([.str (S "and"), .str (S "not"), .str (S "xor"), .str (S "mux"), .str (S "buf"), .str (S "nor"), .str (S "lut"), .str (S "or"), .str (S "nand"), .str (S "cell"), .str (S "xnor")] : List V)[d.toNat]? = some (.str kd) ∧ kd ∈ kinds11 := by
  have hl : d.toNat < kinds11.length := by show d.toNat < 11; (first | lia | omega)
  refine ⟨kinds11[d.toNat], ?_, List.getElem_mem hl⟩
  show (kinds11.map V.str)[d.toNat]? = _
  rw [List.getElem?_map, List.getElem?_eq_getElem hl]; rfl
noncomputable def wideP : List (PySem.Str × V) := [(S "not", .int 1), (S "buf", .int 1), (S "mux", .int 3)]
noncomputable def prmP : List (PySem.Str × V) := [(S "lut", .int 6), (S "cell", .tup [.str (S "C"), .int 13])]
theorem wideP_get (kd : PySem.Str) : (List.lookup kd wideP).getD (.int 2) = .int (wideOf kd) := by
  unfold wideP wideOf
  by_cases h1 : kd = S "not"
  · subst h1; simp
  · by_cases h2 : kd = S "buf"
    · subst h2; rw [List.lookup_cons, beq_eq_false_iff_ne.mpr h1]; simp [h1]
    · by_cases h3 : kd = S "mux"
      · subst h3; rw [List.lookup_cons, beq_eq_false_iff_ne.mpr h1, List.lookup_cons, beq_eq_false_iff_ne.mpr h2]; simp [h1, h2]
      · rw [List.lookup_cons, beq_eq_false_iff_ne.mpr h1, List.lookup_cons, beq_eq_false_iff_ne.mpr h2, List.lookup_cons, beq_eq_false_iff_ne.mpr h3]; simp [h1, h2, h3]
theorem prmP_get (kd : PySem.Str) : (List.lookup kd prmP).getD .none = prmOf kd := by
  unfold prmP prmOf
  by_cases h1 : kd = S "lut"
  · subst h1; simp
  · by_cases h2 : kd = S "cell"
    · subst h2; rw [List.lookup_cons, beq_eq_false_iff_ne.mpr h1]; simp [h1]
    · rw [List.lookup_cons, beq_eq_false_iff_ne.mpr h1, List.lookup_cons, beq_eq_false_iff_ne.mpr h2]; simp [h1, h2]
theorem wide_le (kd : PySem.Str) : wideOf kd ≤ 3 := by
  unfold wideOf
  split
  · decide
  · split
    · decide
    · split <;> decide
theorem pool_at {pool : List Int} {d : Int} (d0 : 0 ≤ d) (d1 : d < ((pool.map V.int).length : Nat)) : ∃ x, (pool.map V.int)[d.toNat]? = some (.int x) ∧ x ∈ pool := by
  have hl : d.toNat < pool.length := by rw [List.length_map] at d1; (first | lia | omega)
  exact ⟨pool[d.toNat], by rw [List.getElem?_map, List.getElem?_eq_getElem hl]; rfl, List.getElem_mem hl⟩
theorem segB {fa L : Addr} {cd : Value} (lw : LL L) (o : Ok (c.deep (lawEnv L fa cd)) (Kt P) (k + 1 + 1 + 1 + 1 + 1)) {Sp : Addr} {a : LA} {cs : List Int} {n : Nat} {na nb outs : List Int} {ks : List Bool} {early : Bool} {gates : Nat} {u : LU} (hb0 : Base0 na nb outs n) (hgt : gates ≤ 6) {K : F → Loc → List As → Prop} {rest : List Stmt}
    (hK : ∀ (gs : List Row) pool u, gs.length = gates → GOk n gs → PoolOk pool ((n + gates : Nat) : Int) → SX (c.deep (lawEnv L fa cd)) (lawM Sp a early gates u) (lawL L a cs ((n + gates : Nat) : Int) na nb outs ks pool (gs.map Row.v) (gs.map Row.v) []) rest K) :
    SX (c.deep (lawEnv L fa cd)) (lawM Sp a early gates u) (lawL L a cs n na nb outs ks (na ++ nb ++ outs ++ [0, 1]) [] [] []) (lawSeg 11 1 ++ rest) K := by
  refine s_cons ?_
  repeat tb_rel
  refine' ⟨_, _, _, .rng (by (first | lia | omega)) (by (first | lia | omega)), fun j m led => X3 fun (gs : List Row) (pool : List Int) (u : LU) => Cj6 (gs.length = j) (GOk n gs) (PoolOk pool ((n + j : Nat) : Int)) (pool.length ≤ 10 + j) (m = lawM Sp a early gates u) (led = lawL L a cs ((n + j : Nat) : Int) na nb outs ks pool (gs.map Row.v) (gs.map Row.v) []), ?_, ?_, ?_⟩
  · refine ⟨_, SubP.refl _, [], _, u, rfl, fun i r h => by simp at h, ⟨?_, ?_, ?_⟩, ?_, rfl, rfl⟩
    · simp; (first | lia | omega)
    · have := hb0.la.2; have := hb0.lb.2; have := hb0.lo; simp; (first | lia | omega)
    · intro x hx
      rcases List.mem_append.mp hx with hx | hx
      · have := hb0.rg x hx; (first | lia | omega)
      · have := hb0.n0.1
        rcases List.mem_cons.mp hx with rfl | hx
        · (first | lia | omega)
        · rw [List.mem_singleton.mp hx]; (first | lia | omega)
    · have := hb0.la.2; have := hb0.lb.2; have := hb0.lo; simp; (first | lia | omega)
  · rintro j v m led hv KX1 KX2 hX1 hX2 ⟨gs, pool, u, rfl, hgs, hpool, hp10, rfl, rfl⟩
    repeat tb_rel
    intro Kl
    repeat tb_rel
    refine Calls.same (pick_ok (P := P) (k := k + 1 + 1 + 1 + 1) o (by decide) (by decide)) (.cons (by tb_start) .nil) ?_
    rintro v' ⟨d, rfl, d0, d1⟩
    obtain ⟨kd, hkd, hmem⟩ : ∃ kd, ([.str (S "and"), .str (S "not"), .str (S "xor"), .str (S "mux"), .str (S "buf"), .str (S "nor"), .str (S "lut"), .str (S "or"), .str (S "nand"), .str (S "cell"), .str (S "xnor")] : List V)[d.toNat]? = some (.str kd) ∧ kd ∈ kinds11 := kind_at d0 d1
    repeat tb_rel
    have hw := wideP_get kd
    have hq := prmP_get kd
    with_reducible refine' e_dictS o wideP ?a ?b ?c ?d ?e ?f ?g
    case a => kernel_rfl
    case b => kernel_rfl
    case c => exact List.cons_ne_nil _ _
    case d => exact Nat.le_of_ble_eq_true rfl
    case e => decide +kernel
    case f =>
      repeat tb_rel
      exact ⟨rfl, rfl, rfl⟩
    intro Wd
    repeat tb_rel
    with_reducible refine' e_dictS o prmP ?a2 ?b2 ?c2 ?d2 ?e2 ?f2 ?g2
    case a2 => kernel_rfl
    case b2 => kernel_rfl
    case c2 => exact List.cons_ne_nil _ _
    case d2 => exact Nat.le_of_ble_eq_true rfl
    case e2 => decide +kernel
    case f2 =>
      repeat tb_rel
      exact ⟨rfl, rfl, rfl⟩
    intro Pd
    repeat tb_rel
    have hwl : wideOf kd ≤ 3 := wide_le kd
    refine' ⟨_, _, _, .rng (by (first | lia | omega)) (by (first | lia | omega)), ?ql, fun i us led => ∃ xs : List Int, Cj4 (xs.length = i) (us = xs.map V.int) ((∀ x ∈ xs, x ∈ pool)) (led = lawL L a cs ((n + gs.length : Nat) : Int) na nb outs ks pool (gs.map Row.v) (gs.map Row.v) []), ?_, ?_, ?_⟩
    case ql => unfold rngV; simp; (first | lia | omega)
    · refine ⟨_, ⟨_, List.perm_append_comm (l₁ := [_, _, _])⟩, [], rfl, rfl, (fun x h => nomatch h), rfl⟩
    · rintro i v us led Cf hv KE hKE ⟨xs, rfl, rfl, hxs, rfl⟩
      refine comp_in o (by kernel_rfl) fun oc => ?_
      have hpl : (pool.map V.int).length < 2 ^ 40 := by rw [List.length_map]; have := hpool.l2; (first | lia | omega)
      repeat tb_rel
      refine Calls.same (pick_ok (P := P) (k := k + 1 + 1 + 1 + 1) oc (by rw [List.length_map]; have := hpool.l1; (first | lia | omega)) (by rw [List.length_map]; have := hpool.l2; (first | lia | omega))) (.cons (by tb_start) .nil) ?_
      rintro v' ⟨d', rfl, e0, e1⟩
      obtain ⟨x, hx, hxp⟩ := pool_at e0 e1
      repeat tb_rel
      exact ⟨⟨_, rfl⟩, _, SubP.refl _, xs ++ [x], by simp, by rw [List.map_append]; rfl, fun y hy => by
        rcases List.mem_append.mp hy with hy | hy
        · exact hxs y hy
        · rw [List.mem_singleton.mp hy]; exact hxp, rfl⟩
    · rintro us led ⟨xs, hxl, rfl, hxs, rfl⟩ Xs
      have hxl : xs.length = wideOf kd := by rw [hxl]; unfold rngV; simp
      repeat tb_rel
      refine n_tupleL (by tb_start) (by rw [List.length_map]; (first | lia | omega)) ?_
      repeat tb_rel
      have hgl : gs.length < gates := by
        have := (List.getElem?_eq_some_iff.mp hv).1
        unfold rngV at this
        simpa using this
      have hb1 : (pool.map V.int).length ≤ 100000 := by rw [List.length_map]; (first | lia | omega)
      have hb2 : (gs.map Row.v).length ≤ 100000 := by rw [List.length_map]; (first | lia | omega)
      refine Calls.go (addcell_ok (k := k + 1 + 1 + 1) (P := P) (cs := gs.map Row.v) o (by rw [List.length_map]; (first | lia | omega))) (.cons (by tb_start) (.cons (by tb_start) .nil)) ?_
      rintro v' led' ⟨rfl, rfl⟩
      refine ⟨_, .cons (.cons .nil), ?_⟩
      repeat tb_rel
      have e1 : ((n + gs.length : Nat) : Int) + 1 = ((n + (gs.length + 1) : Nat) : Int) := by (first | lia | omega)
      have e2 : gs.map Row.v ++ [.tup [.str kd, .int ((n + gs.length : Nat) : Int), .tup (xs.map V.int), prmOf kd]] = (gs ++ [Row.mk kd ((n + gs.length : Nat) : Int) xs (prmOf kd)]).map Row.v := by rw [List.map_append]; rfl
      have e3 : pool.map V.int ++ [.int ((n + gs.length : Nat) : Int)] = (pool ++ [((n + gs.length : Nat) : Int)]).map V.int := by rw [List.map_append]; rfl
      rw [e1, e2, e3]
      refine ⟨lawL L a cs ((n + (gs.length + 1) : Nat) : Int) na nb outs ks _ _ _ [], ?_, gs ++ [Row.mk kd ((n + gs.length : Nat) : Int) xs (prmOf kd)], pool ++ [((n + gs.length : Nat) : Int)], ⟨_, _, _, _, _, _, _, _, _, _, _, _, _, _, _, _, _, _, _, _⟩, by simp, ?_, ?_, by simp; (first | lia | omega), rfl, rfl⟩
      · exact .cons (by tb_start) (.cons (by tb_start) (.cons (by tb_start) (.cons (by tb_start) (.cons (by tb_start) (.cons (by tb_start) (.cons (by tb_start) (.cons (by tb_start) (.cons (by tb_start) (.cons (by tb_start) (.cons (by tb_start) (.cons (by tb_start) (.cons (by tb_start) (.cons (by tb_start) (.cons (by tb_start) (.cons (by tb_start) (.cons (by tb_start) (.nil _)))))))))))))))))
      · intro i r hr
        rcases Nat.lt_or_ge i gs.length with z | z
        · rw [List.getElem?_append_left z] at hr
          exact hgs i r hr
        · rw [List.getElem?_append_right z] at hr
          have hi : i = gs.length := by
            have := (List.getElem?_eq_some_iff.mp hr).1
            simp at this; (first | lia | omega)
          subst hi
          rw [Nat.sub_self] at hr
          cases hr
          refine ⟨hmem, hxl, rfl, by show ((n + gs.length : Nat) : Int) = _; (first | lia | omega), fun x hx => ?_⟩
          have := hpool.rg x (hxs x hx)
          (first | lia | omega)
      · refine ⟨by simp, by simp; (first | lia | omega), fun x hx => ?_⟩
        rcases List.mem_append.mp hx with hx | hx
        · have := hpool.rg x hx; (first | lia | omega)
        · rw [List.mem_singleton.mp hx]; (first | lia | omega)
  · rintro m led ⟨gs, pool, u, hl, hgs, hpool, hp10, rfl, rfl⟩
    have hl : gs.length = gates := by rw [hl]; unfold rngV; simp
    have e : (rngV (gates : Int)).length = gates := by unfold rngV; simp
    rw [e] at hpool ⊢
    repeat tb_rel
    exact hK gs pool u hl hgs hpool
end
section
variable {c : Cx} {m : Loc} {led : List As} {P : Params} {k : Nat}
noncomputable def qn (i : Nat) : PySem.Str := S "q" ++ PySem.Str.ofString (toString (i : Int))
noncomputable def SOk (n : Nat) (outs : List Int) (ks : List Bool) (sts : List StC) : Prop := ∀ (i : Nat) (s : StC), sts[i]? = some s → s.ok n ∧ outs[i]? = some s.out ∧ ks[i]? = some s.flop ∧ s.name = qn i
theorem qn_len {i : Nat} (h : i < 3) : (S "q").length + (PySem.Str.ofString (toString (i : Int))).length ≤ 10000 := by
  have : i = 0 ∨ i = 1 ∨ i = 2 := by (first | lia | omega)
  rcases this with rfl | rfl | rfl <;> decide +kernel
theorem SOk.snoc {n : Nat} {outs : List Int} {ks : List Bool} {sts : List StC} {s : StC} (h : SOk n outs ks sts) (hs : s.ok n) (ho : outs[sts.length]? = some s.out) (hk : ks[sts.length]? = some s.flop) (hn : s.name = qn sts.length) : SOk n outs ks (sts ++ [s]) := fun i r hr => by
  rcases Nat.lt_or_ge i sts.length with z | z
  · rw [List.getElem?_append_left z] at hr
    exact h i r hr
  · rw [List.getElem?_append_right z] at hr
    have hi : i = sts.length := by
      have := (List.getElem?_eq_some_iff.mp hr).1
      simp at this; (first | lia | omega)
    subst hi
    rw [Nat.sub_self] at hr
    cases hr
    exact ⟨hs, ho, hk, hn⟩
theorem segC {fa L : Addr} {cd : Value} (lw : LL L) (o : Ok (c.deep (lawEnv L fa cd)) (Kt P) (k + 1 + 1 + 1 + 1 + 1)) {Sp : Addr} {a : LA} {cs : List Int} {n0 n : Nat} {na nb outs : List Int} {ks : List Bool} {early : Bool} {gates : Nat} {u : LU} {gs : List Row} {pool : List Int} (hb0 : Base0 na nb outs n0) (hn : n0 ≤ n) (hks : ks.length = outs.length) (hgt : gs.length ≤ 6) (hpool : PoolOk pool n) {K : F → Loc → List As → Prop} {rest : List Stmt}
    (hK : ∀ (sts : List StC) u, sts.length = outs.length → SOk n outs ks sts → SX (c.deep (lawEnv L fa cd)) (lawM Sp a early gates u) (lawL L a cs n na nb outs ks pool (gs.map Row.v ++ sts.map fun s => s.row.v) (gs.map Row.v) (sts.map fun s => s.row.v)) rest K) :
    SX (c.deep (lawEnv L fa cd)) (lawM Sp a early gates u) (lawL L a cs n na nb outs ks pool (gs.map Row.v) (gs.map Row.v) []) (lawSeg 12 1 ++ rest) K := by
  have hlo := hb0.lo
  have hou : (outs.map V.int).length < 2 ^ 40 := by rw [List.length_map]; (first | lia | omega)
  have hpl : (pool.map V.int).length < 2 ^ 40 := by rw [List.length_map]; have := hpool.l2; (first | lia | omega)
  have hla := hb0.la.1
  refine s_cons ?_
  repeat tb_rel
  refine' ⟨_, _, _, .rng (by (first | lia | omega)) (by (first | lia | omega)), fun j m led => X2 fun (sts : List StC) (u : LU) => Cj4 (sts.length = j) (SOk n outs ks sts) (m = lawM Sp a early gates u) (led = lawL L a cs n na nb outs ks pool (gs.map Row.v ++ sts.map fun s => s.row.v) (gs.map Row.v) (sts.map fun s => s.row.v)), ?_, ?_, ?_⟩
  · exact ⟨_, SubP.refl _, [], u, rfl, fun i r h => by simp at h, rfl, by rw [List.map_nil, List.append_nil]⟩
  · rintro j v m led hv KX1 KX2 hX1 hX2 ⟨sts, u, rfl, hso, rfl, rfl⟩
    have hjl : sts.length < outs.length := by
      have := (List.getElem?_eq_some_iff.mp hv).1
      unfold rngV at this
      simpa using this
    obtain rfl : v = .int (sts.length : Nat) := by
      unfold rngV at hv
      rw [List.getElem?_map, List.getElem?_range (by simpa using hjl)] at hv
      cases hv; rfl
    obtain ⟨g0, hg0⟩ : ∃ g0, (na ++ nb)[0]? = some g0 := ⟨_, List.getElem?_eq_getElem (by rw [List.length_append]; (first | lia | omega))⟩
    have hg0' : ((na ++ nb).map V.int)[Int.toNat 0]? = some (.int g0) := by rw [List.getElem?_map]; show Option.map _ (na ++ nb)[0]? = _; rw [hg0]; rfl
    have hgr : 0 ≤ g0 ∧ g0 < n := by
      have := hb0.rg g0 (by rw [List.append_assoc]; rw [← List.append_assoc]; exact List.mem_append_left _ (List.mem_of_getElem? hg0))
      (first | lia | omega)
    have hgl : (0 : Int) < (((na ++ nb).map V.int).length : Nat) := by rw [List.length_map, List.length_append]; (first | lia | omega)
    repeat tb_rel
    have hq1 : (0 : Int) < ((pool.map V.int).length : Nat) := by rw [List.length_map]; have := hpool.l1; (first | lia | omega)
    have hq2 : ((pool.map V.int).length : Int) < 1000 := by rw [List.length_map]; have := hpool.l2; (first | lia | omega)
    refine Calls.same (pick_ok (P := P) (k := k + 1 + 1 + 1 + 1) o hq1 hq2) (.cons (by tb_start) .nil) ?_
    rintro v' ⟨d1, rfl, d10, d11⟩
    obtain ⟨x1, hx1, hp1⟩ := pool_at d10 d11
    have hr1 := hpool.rg _ hp1
    repeat tb_rel
    intro Fl
    repeat tb_rel
    refine Calls.same (pick_ok (P := P) (k := k + 1 + 1 + 1 + 1) o (by decide) (by decide)) (.cons (by tb_start) .nil) ?_
    rintro v' ⟨d2, rfl, d20, d21⟩
    obtain ⟨x2, hx2, hr2⟩ : ∃ x2, ([.int g0, .int x1] : List V)[d2.toNat]? = some (.int x2) ∧ 0 ≤ x2 ∧ x2 < n := by
      have := b01 d20 d21
      rcases this with rfl | rfl
      · exact ⟨g0, rfl, hgr⟩
      · exact ⟨x1, rfl, hr1⟩
    repeat tb_rel
    refine Calls.same (pick_ok (P := P) (k := k + 1 + 1 + 1 + 1) o hq1 hq2) (.cons (by tb_start) .nil) ?_
    rintro v' ⟨d3, rfl, d30, d31⟩
    obtain ⟨x3, hx3, hp3⟩ := pool_at d30 d31
    have hr3 := hpool.rg _ hp3
    repeat tb_rel
    refine' ⟨_, _, _, .rng (by decide) (by decide), ?ql, fun i us led => ∃ xs : List Int, Cj4 (xs.length = i) (us = xs.map V.int) ((∀ x ∈ xs, 0 ≤ x ∧ x < n)) (led = lawL L a cs n na nb outs ks pool (gs.map Row.v ++ sts.map fun s => s.row.v) (gs.map Row.v) (sts.map fun s => s.row.v)), ?_, ?_, ?_⟩
    case ql => decide
    · refine ⟨_, ⟨_, List.perm_append_comm (l₁ := [_])⟩, [], rfl, rfl, (fun x h => nomatch h), rfl⟩
    · rintro i v us led Cf hv KE hKE ⟨xs, rfl, rfl, hxs, rfl⟩
      refine comp_in o (by kernel_rfl) fun oc => ?_
      repeat tb_rel
      refine Calls.same (pick_ok (P := P) (k := k + 1 + 1 + 1 + 1) oc (by decide) (by decide)) (.cons (by tb_start) .nil) ?_
      rintro v' ⟨d4, rfl, d40, d41⟩
      repeat tb_rel
      refine ite_both (fun e => ?_) (fun e => ?_)
      · repeat tb_rel
        refine Calls.same (pick_ok (P := P) (k := k + 1 + 1 + 1 + 1) oc hq1 hq2) (.cons (by tb_start) .nil) ?_
        rintro v' ⟨d5, rfl, d50, d51⟩
        obtain ⟨x5, hx5, hp5⟩ := pool_at d50 d51
        have hr5 := hpool.rg _ hp5
        repeat tb_rel
        exact ⟨⟨_, rfl⟩, _, SubP.refl _, xs ++ [x5], by simp, by rw [List.map_append]; rfl, (fun y hy => by
          rcases List.mem_append.mp hy with hy | hy
          · exact hxs y hy
          · rw [List.mem_singleton.mp hy]; exact hr5), rfl⟩
      · repeat tb_rel
        exact ⟨⟨_, rfl⟩, _, SubP.refl _, xs ++ [0], by simp, by rw [List.map_append]; rfl, (fun y hy => by
          rcases List.mem_append.mp hy with hy | hy
          · exact hxs y hy
          · rw [List.mem_singleton.mp hy]; (first | lia | omega)), rfl⟩
    · rintro us led ⟨xs, hxl, rfl, hxs, rfl⟩ Xs
      have hxl : xs.length = 2 := hxl
      obtain ⟨y1, y2, rfl⟩ : ∃ y1 y2, xs = [y1, y2] := by
        match xs, hxl with
        | [y1, y2], _ => exact ⟨y1, y2, rfl⟩
      have hy1 := hxs y1 (.head _)
      have hy2 := hxs y2 (.tail _ (.head _))
      repeat tb_rel
      refine n_tupleL (by tb_start) (by rw [List.length_map]; exact Nat.lt_of_le_of_lt (Nat.le_of_eq hxl) (by decide)) ?_
      refine p_addT (List.cons_ne_nil _ _) (List.cons_ne_nil _ _) (by simp) ?_
      rw [show [V.int x2, V.int x3] ++ ([y1, y2] : List Int).map V.int = ([x2, x3, y1, y2] : List Int).map V.int from rfl]
      repeat tb_rel
      refine Calls.same (pick_ok (P := P) (k := k + 1 + 1 + 1 + 1) o (by decide) (by decide)) (.cons (by tb_start) .nil) ?_
      rintro v' ⟨d6, rfl, d60, d61⟩
      have hkl : ((sts.length : Nat) : Int) < ((ks.map kindV).length : Nat) := by rw [List.length_map]; (first | lia | omega)
      have hk0 : (ks.map kindV)[((sts.length : Nat) : Int).toNat]? = some (kindV ks[sts.length]) := by
        rw [List.getElem?_map, Int.toNat_natCast, List.getElem?_eq_getElem (by (first | lia | omega))]; rfl
      have hks' : ks[sts.length]? = some ks[sts.length] := List.getElem?_eq_getElem (by (first | lia | omega))
      generalize ks[sts.length] = fl at *
      have hol : ((sts.length : Nat) : Int) < ((outs.map V.int).length : Nat) := by rw [List.length_map]; (first | lia | omega)
      have ho0 : (outs.map V.int)[((sts.length : Nat) : Int).toNat]? = some (.int outs[sts.length]) := by
        rw [List.getElem?_map, Int.toNat_natCast, List.getElem?_eq_getElem (by (first | lia | omega))]; rfl
      have hos' : outs[sts.length]? = some outs[sts.length] := List.getElem?_eq_getElem (by (first | lia | omega))
      generalize outs[sts.length] = ou at *
      have hsp : (0 : Int) ≤ ((sts.length : Nat) : Int) := by (first | lia | omega)
      cases fl with
      | true =>
        rw [show kindV true = .str (S "flop") from rfl] at hk0
        repeat tb_rel
        refine Calls.same (pick_ok (P := P) (k := k + 1 + 1 + 1 + 1) o (by decide) (by decide)) (.cons (by tb_start) .nil) ?_
        rintro v' ⟨d7, rfl, d70, d71⟩
        repeat tb_rel
        refine n_str (by (first | lia | omega)) ?_
        repeat tb_rel
        refine p_adds (qn_len (by (first | lia | omega))) ?_
        rw [show (PySem.Str.ofString "q") ++ PySem.Str.ofString (toString ((sts.length : Nat) : Int)) = qn sts.length from rfl]
        repeat tb_rel
        refine Calls.go (drive_ok (k := k + 1 + 1 + 1 + 1) (P := P) (cs := gs.map Row.v ++ sts.map fun s => s.row.v) o (by simp only [List.length_append, List.length_map]; (first | lia | omega))) (.cons (by tb_start) (.cons (by tb_start) .nil)) ?_
        rintro v' led' ⟨rfl, rfl⟩
        refine ⟨_, .cons (.cons .nil), ?_⟩
        repeat tb_rel
        rw [show (gs.map Row.v ++ sts.map fun s => s.row.v) ++ [V.tup [.str (S "flop"), .int ou, .tup (([x2, x3, y1, y2] : List Int).map V.int), .tup [.int d7, .str (qn sts.length), .int d6]]] = gs.map Row.v ++ (sts ++ [(StC.mk true ou x2 x3 y1 y2 d7 (qn sts.length) d6)]).map (fun s => s.row.v) by rw [List.append_assoc, List.map_append]; rfl]
        rw [show (sts.map fun s => s.row.v) ++ [V.tup [.str (S "flop"), .int ou, .tup (([x2, x3, y1, y2] : List Int).map V.int), .tup [.int d7, .str (qn sts.length), .int d6]]] = (sts ++ [(StC.mk true ou x2 x3 y1 y2 d7 (qn sts.length) d6)]).map (fun s => s.row.v) by rw [List.map_append]; rfl]
        refine ⟨lawL L a cs n na nb outs ks pool (gs.map Row.v ++ (sts ++ [(StC.mk true ou x2 x3 y1 y2 d7 (qn sts.length) d6)]).map fun s => s.row.v) (gs.map Row.v) ((sts ++ [(StC.mk true ou x2 x3 y1 y2 d7 (qn sts.length) d6)]).map fun s => s.row.v), ?_, sts ++ [(StC.mk true ou x2 x3 y1 y2 d7 (qn sts.length) d6)], ⟨_, _, _, _, _, _, _, _, _, _, _, _, _, _, _, _, _, _, _, _⟩, by simp, hso.snoc ⟨?_, hr2, hr3, hy1, hy2, b01 d70 d71, b01 d60 d61⟩ hos' hks' rfl, rfl, rfl⟩
        · exact .cons (by tb_start) (.cons (by tb_start) (.cons (by tb_start) (.cons (by tb_start) (.cons (by tb_start) (.cons (by tb_start) (.cons (by tb_start) (.cons (by tb_start) (.cons (by tb_start) (.cons (by tb_start) (.cons (by tb_start) (.cons (by tb_start) (.cons (by tb_start) (.cons (by tb_start) (.cons (by tb_start) (.cons (by tb_start) (.cons (by tb_start) (.nil _)))))))))))))))))
        · have := hb0.rg ou (List.mem_append_right _ (List.mem_of_getElem? hos'))
          show 0 ≤ ou ∧ ou < n
          (first | lia | omega)
      | false =>
        rw [show kindV false = .str (S "latch") from rfl] at hk0
        repeat tb_rel
        refine n_str (by (first | lia | omega)) ?_
        repeat tb_rel
        refine p_adds (qn_len (by (first | lia | omega))) ?_
        rw [show (PySem.Str.ofString "q") ++ PySem.Str.ofString (toString ((sts.length : Nat) : Int)) = qn sts.length from rfl]
        repeat tb_rel
        refine Calls.go (drive_ok (k := k + 1 + 1 + 1 + 1) (P := P) (cs := gs.map Row.v ++ sts.map fun s => s.row.v) o (by simp only [List.length_append, List.length_map]; (first | lia | omega))) (.cons (by tb_start) (.cons (by tb_start) .nil)) ?_
        rintro v' led' ⟨rfl, rfl⟩
        refine ⟨_, .cons (.cons .nil), ?_⟩
        repeat tb_rel
        rw [show (gs.map Row.v ++ sts.map fun s => s.row.v) ++ [V.tup [.str (S "latch"), .int ou, .tup (([x2, x3, y1, y2] : List Int).map V.int), .tup [.str (qn sts.length), .int d6]]] = gs.map Row.v ++ (sts ++ [(StC.mk false ou x2 x3 y1 y2 0 (qn sts.length) d6)]).map (fun s => s.row.v) by rw [List.append_assoc, List.map_append]; rfl]
        rw [show (sts.map fun s => s.row.v) ++ [V.tup [.str (S "latch"), .int ou, .tup (([x2, x3, y1, y2] : List Int).map V.int), .tup [.str (qn sts.length), .int d6]]] = (sts ++ [(StC.mk false ou x2 x3 y1 y2 0 (qn sts.length) d6)]).map (fun s => s.row.v) by rw [List.map_append]; rfl]
        refine ⟨lawL L a cs n na nb outs ks pool (gs.map Row.v ++ (sts ++ [(StC.mk false ou x2 x3 y1 y2 0 (qn sts.length) d6)]).map fun s => s.row.v) (gs.map Row.v) ((sts ++ [(StC.mk false ou x2 x3 y1 y2 0 (qn sts.length) d6)]).map fun s => s.row.v), ?_, sts ++ [(StC.mk false ou x2 x3 y1 y2 0 (qn sts.length) d6)], ⟨_, _, _, _, _, _, _, _, _, _, _, _, _, _, _, _, _, _, _, _⟩, by simp, hso.snoc ⟨?_, hr2, hr3, hy1, hy2, by show (0 : Int) = 0 ∨ (0 : Int) = 1; (first | lia | omega), b01 d60 d61⟩ hos' hks' rfl, rfl, rfl⟩
        · exact .cons (by tb_start) (.cons (by tb_start) (.cons (by tb_start) (.cons (by tb_start) (.cons (by tb_start) (.cons (by tb_start) (.cons (by tb_start) (.cons (by tb_start) (.cons (by tb_start) (.cons (by tb_start) (.cons (by tb_start) (.cons (by tb_start) (.cons (by tb_start) (.cons (by tb_start) (.cons (by tb_start) (.cons (by tb_start) (.cons (by tb_start) (.nil _)))))))))))))))))
        · have := hb0.rg ou (List.mem_append_right _ (List.mem_of_getElem? hos'))
          show 0 ≤ ou ∧ ou < n
          (first | lia | omega)
  · rintro m led ⟨sts, u, hl, hso, rfl, rfl⟩
    have hl : sts.length = outs.length := by rw [hl]; unfold rngV; simp
    repeat tb_rel
    exact hK sts u hl hso
end
section
variable {c : Cx} {m : Loc} {led : List As} {P : Params} {k : Nat}
/-- a slice of a list that any expression gives -/
theorem sub_slice {M : Model} {A : Around} {E : Value → Shared → Prop} {s : Shared} {prog : Program} {w : World} {env : Env} {value : Expr} {lower upper : Option Expr} {p pos : Pos} {Q : Value → Shared → Prop}
    (h : wpAny (model prog w) A (eval value env) (fun o s₁ => wpAny (model prog w) A (evalPart lower env) (fun vl s₂ => wpAny (model prog w) A (evalPart upper env) (fun vu s₃ =>
      ∃ l items lo hi, o = .ref l ∧ s₃.heap.IsList l items ∧ items.size ≤ sizeLine ∧ IsPart vl lo ∧ IsPart vu hi ∧
        Q (.ref (s₃.heap.objs.size + 1)) { s₃ with heap := (s₃.heap.push { cls := .type "slice", data := .fields #[vl, vu, .none] }).push { cls := .type "list", data := .seq (slicePick items lo hi none) } }) E s₂) E s₁) E s) :
    wpAny (model prog w) A (eval (.Subscript value (.Slice lower upper none p) pos) env) Q E s := by
  rw [eval_Subscript]
  refine wpAny_bind (wpAny_mono h (fun o s₁ h₁ => wpAny_bind (wpAny_holding ?_)) fun _ _ x => x)
  refine wpAny_Slice (wpAny_mono h₁ (fun vl s₂ h₂ => wpAny_mono h₂ (fun vu s₃ h₃ => ?_) fun _ _ x => x) fun _ _ x => x)
  obtain ⟨l, items, lo, hi, rfl, hl, hsz, pl, pu, hQ⟩ := h₃
  rw [evalPart_none]
  refine wpAny_pure (wpAny_bind (wpAny_standAt ?_))
  have ht := Heap.IsList.typeIs (s := { s₃ with heap := s₃.heap.push { cls := .type "slice", data := .fields #[vl, vu, .none] } }) (hl.push _)
  have hg : wpAny (model prog w) A (getItem (.ref l) (.ref s₃.heap.objs.size)) Q E { s₃ with heap := s₃.heap.push { cls := .type "slice", data := .fields #[vl, vu, .none] } } := by
    refine wpAny_getItem_list_slice (hl.push _) (Heap.IsSliceOf.new ..) pl pu .none (by simp) ?_ hsz
    rw [Heap.size_push]
    exact hQ
  have fin : wpAny (model prog w) A (operate [.ref s₃.heap.objs.size, .ref l] (getItem (.ref l) (.ref s₃.heap.objs.size))) (fun r s' => wpAny (model prog w) A (letTemporaryGo value (.ref l) r >>= fun _ => pure r) Q E s') E { s₃ with heap := s₃.heap.push { cls := .type "slice", data := .fields #[vl, vu, .none] } } :=
    wpAny_operating (wpAny_mono hg (fun r s' h' => wpAny_bind (wpAny_letTemporaryGo (wpAny_pure h'))) fun _ _ x => x)
  refine wpAny_bind ?_
  rw [getitemInPython_of_ne ht.not_modules]
  refine wpAny_bind (wpAny_specialOf ht list_getitem_lookup ?_)
  first
    | exact wpAny_pure (wpAny_bind fin)
    | exact wpAny_bind (wpAny_pure (wpAny_bind fin))
    | exact wpAny_bind fin
theorem e_slice_from2 {value lo : Expr} {p pos : Pos} {K : V → Loc → List As → Prop} (h : SE c m led value fun v m1 led1 => SE c m1 led1 lo fun u m2 led2 => ∃ l vs i, v = .ref l ∧ u = .int i ∧ 0 ≤ i ∧ MemA (.lst l vs) led2 ∧ vs.length ≤ 10000 ∧ ∀ D, K (.ref D) m2 (.lst D (vs.drop i.toNat) :: led2)) :
    SE c m led (.Subscript value (.Slice (some lo) none none p) pos) K := fun T hp tk s =>
  sub_slice (M := c.M) (wpAny_mono (h T hp tk s) (fun a s1 zz => Post.go zz fun v1 h1 tk1 m1 led1 e s1' r1 k1 => by
    subst e
    refine wpAny_mono (k1 (T.cons v1 a) h1 tk1 (s1'.cons r1)) (fun b s2 zz => Post.go zz fun v2 h2 tk2 m2 led2 e s2' r2 ⟨l, vs, i, e1, e2, h0, hm, hz, kk⟩ => ?_) fun _ _ x => x
    subst e e1 e2
    refine wpAny_evalPart_none ?_
    rw [s2'.head.ro]
    obtain ⟨t, rfl⟩ := r2.io
    obtain ⟨items, n, hl, hr⟩ := s2'.ok _ hm.mem
    have hsz : items.size = vs.length := by rw [hr.length]; simp
    refine ⟨l, items, some i, none, rfl, IsL.isList hl, by rw [hsz, sizeLine_eq]; (first | lia | omega), .int _ _, .none, ?_⟩
    have s3 := s2'.tail.keep (keepPush { cls := .type "slice", data := .fields #[.int i t, .none, .none] })
    have := new_lst s3 (keepPush _) (items := slicePick items (some i) none none) (n := 0) (Heap.get?_push_size _ rfl) (vs := vs.drop i.toNat) (by rw [pick_from _ h0]; exact (hr.drop _).mono (TK.of_keep (keepPush _)))
    rw [Heap.size_push] at this
    exact post_here this VR.r (kk _)) fun _ _ x => x)
theorem e_slice_upto2 {value hi : Expr} {p pos : Pos} {K : V → Loc → List As → Prop} (h : SE c m led value fun v m1 led1 => SE c m1 led1 hi fun u m2 led2 => ∃ l vs i, v = .ref l ∧ u = .int i ∧ 0 ≤ i ∧ MemA (.lst l vs) led2 ∧ vs.length ≤ 10000 ∧ ∀ D, K (.ref D) m2 (.lst D (vs.take i.toNat) :: led2)) :
    SE c m led (.Subscript value (.Slice none (some hi) none p) pos) K := fun T hp tk s =>
  sub_slice (M := c.M) (wpAny_mono (h T hp tk s) (fun a s1 zz => Post.go zz fun v1 h1 tk1 m1 led1 e s1' r1 k1 => by
    subst e
    refine wpAny_evalPart_none (wpAny_mono (k1 (T.cons v1 a) h1 tk1 (s1'.cons r1)) (fun b s2 zz => Post.go zz fun v2 h2 tk2 m2 led2 e s2' r2 ⟨l, vs, i, e1, e2, h0, hm, hz, kk⟩ => ?_) fun _ _ x => x)
    subst e e1 e2
    rw [s2'.head.ro]
    obtain ⟨t, rfl⟩ := r2.io
    obtain ⟨items, n, hl, hr⟩ := s2'.ok _ hm.mem
    have hsz : items.size = vs.length := by rw [hr.length]; simp
    refine ⟨l, items, none, some i, rfl, IsL.isList hl, by rw [hsz, sizeLine_eq]; (first | lia | omega), .none, .int _ _, ?_⟩
    have s3 := s2'.tail.keep (keepPush { cls := .type "slice", data := .fields #[.none, .int i t, .none] })
    have := new_lst s3 (keepPush _) (items := slicePick items none (some i) none) (n := 0) (Heap.get?_push_size _ rfl) (vs := vs.take i.toNat) (by rw [pick_upto _ h0]; exact (hr.take _).mono (TK.of_keep (keepPush _)))
    rw [Heap.size_push] at this
    exact post_here this VR.r (kk _)) fun _ _ x => x)
theorem segD {fa L : Addr} {cd : Value} (lw : LL L) (o : Ok (c.deep (lawEnv L fa cd)) (Kt P) (k + 1 + 1 + 1 + 1 + 1)) {Sp : Addr} {a : LA} {cs : List Int} {n : Nat} {na nb outs : List Int} {ks : List Bool} {early : Bool} {gates : Nat} {u : LU} {gs : List Row} {sts : List StC} {pool : List Int} (hg : gs.length = gates) (hgt : gs.length ≤ 6) (hsl : sts.length ≤ 3) {K : F → Loc → List As → Prop} {rest : List Stmt}
    (hK : ∀ (a : LA), SX (c.deep (lawEnv L fa cd)) (lawM Sp a early gates u) (lawL L a cs n na nb outs ks pool ((cellsOf early gs sts).map Row.v) (gs.map Row.v) (sts.map fun s => s.row.v)) rest K) :
    SX (c.deep (lawEnv L fa cd)) (lawM Sp a early gates u) (lawL L a cs n na nb outs ks pool (gs.map Row.v ++ sts.map fun s => s.row.v) (gs.map Row.v) (sts.map fun s => s.row.v)) (lawSeg 13 1 ++ rest) K := by
  refine s_cons ?_
  cases early with
  | false =>
    repeat tb_rel
    have e : gs.map Row.v ++ (sts.map fun s => s.row.v) = (cellsOf false gs sts).map Row.v := by
      show _ = (gs ++ sts.map StC.row).map Row.v
      rw [List.map_append, List.map_map]; rfl
    rw [e]
    exact hK a
  | true =>
    have hz : (gs.map Row.v ++ sts.map fun s => s.row.v).length ≤ 10000 := by simp only [List.length_append, List.length_map]; (first | lia | omega)
    have hgn : ((gates : Nat) : Int).toNat = (gs.map Row.v).length := by rw [List.length_map, hg]; simp
    iterate 8 tb_rel
    refine e_slice_from2 ?_
    repeat tb_rel
    refine ⟨a.Cl, gs.map Row.v ++ (sts.map fun s => s.row.v), gates, rfl, rfl, by (first | lia | omega), by tb_start, hz, fun D1 => ?_⟩
    refine e_slice_upto2 ?_
    repeat tb_rel
    refine ⟨a.Cl, gs.map Row.v ++ (sts.map fun s => s.row.v), gates, rfl, rfl, by (first | lia | omega), by tb_start, hz, fun D2 => ?_⟩
    rw [hgn, List.drop_left, List.take_left]
    refine p_addL (by tb_start) (by tb_start) (by simp only [List.length_map]; (first | lia | omega)) fun D3 => ?_
    have e : (sts.map fun s => s.row.v) ++ gs.map Row.v = (cellsOf true gs sts).map Row.v := by
      show _ = (sts.map StC.row ++ gs).map Row.v
      rw [List.map_append, List.map_map]; rfl
    rw [e]
    repeat tb_rel
    refine SP.sub ?_ (hK ⟨a.H, a.Pl, a.C, a.N, a.dN, a.I, a.O, D3, a.Ia, a.Ib, a.Gd, a.Ou, a.Rw, a.St, a.Kn⟩)
    exact .cons (by tb_start) (.cons (by tb_start) (.cons (by tb_start) (.cons (by tb_start) (.cons (by tb_start) (.cons (by tb_start) (.cons (by tb_start) (.cons (by tb_start) (.cons (by tb_start) (.cons (by tb_start) (.cons (by tb_start) (.cons (by tb_start) (.cons (by tb_start) (.cons (by tb_start) (.cons (by tb_start) (.cons (by tb_start) (.cons (by tb_start) (.nil _)))))))))))))))))
end
section
variable {c : Cx} {m : Loc} {led : List As} {P : Params} {k : Nat}
noncomputable abbrev lawE (L : Addr) (a : LA) (Se Y : Addr) (cs : List Int) (n : Int) (na nb seen : List Int) (cells rows sts : List V) : List As := [.hnd a.H a.C cs, .cel (L + 1) (some (.ref a.H)), .cel (L + 3) none, .cel (L + 4) none, .ins a.N a.dN 160 (netF (.str (S "m")) n a.I a.O a.Cl), .lst a.I (inV a.Ia a.Ib), .lst a.Ia (na.map .int), .lst a.Ib (nb.map .int), .lst a.O [.tup [.str (S "y"), .ref Y]], .lst a.Cl cells, .lst a.Gd ((na ++ nb).map .int), .lst a.Rw rows, .lst a.St sts, .lst Se (seen.map .int), .lst Y (seen.map .int)]
theorem segE {fa L : Addr} {cd : Value} (lw : LL L) (o : Ok (c.deep (lawEnv L fa cd)) (Kt P) (k + 1 + 1 + 1 + 1 + 1)) {Sp : Addr} {a : LA} {cs : List Int} {n : Nat} {na nb outs : List Int} {ks : List Bool} {early : Bool} {gates : Nat} {u : LU} {gs : List Row} {sts : List StC} {pool : List Int} {cells : List V} (hpool : PoolOk pool n) {K : F → Loc → List As → Prop} {rest : List Stmt}
    (hK : ∀ (Se Y : Addr) (seen : List Int) (u : LU), u.seen = some (.ref Se) → seen.length ≤ 5 → (∀ x ∈ seen, 0 ≤ x ∧ x < (n : Int)) → SX (c.deep (lawEnv L fa cd)) (lawM Sp a early gates u) (lawE L a Se Y cs n na nb seen cells (gs.map Row.v) (sts.map fun s => s.row.v)) rest K) :
    SX (c.deep (lawEnv L fa cd)) (lawM Sp a early gates u) (lawL L a cs n na nb outs ks pool cells (gs.map Row.v) (sts.map fun s => s.row.v)) (lawSeg 14 2 ++ rest) K := by
  have hpl : (pool.map V.int).length < 2 ^ 40 := by rw [List.length_map]; have := hpool.l2; (first | lia | omega)
  have hq1 : (0 : Int) < ((pool.map V.int).length : Nat) := by rw [List.length_map]; have := hpool.l1; (first | lia | omega)
  have hq2 : ((pool.map V.int).length : Int) < 1000 := by rw [List.length_map]; have := hpool.l2; (first | lia | omega)
  refine s_cons ?_
  repeat tb_rel
  refine Calls.same (pick_ok (P := P) (k := k + 1 + 1 + 1 + 1) o (by decide) (by decide)) (.cons (by tb_start) .nil) ?_
  rintro v' ⟨d0, rfl, d00, d01⟩
  repeat tb_rel
  refine' ⟨_, _, _, .rng (by (first | lia | omega)) (by (first | lia | omega)), ?ql, fun i us led => ∃ xs : List Int, Cj4 (xs.length = i) (us = xs.map V.int) ((∀ x ∈ xs, 0 ≤ x ∧ x < (n : Int))) (led = lawL L a cs n na nb outs ks pool cells (gs.map Row.v) (sts.map fun s => s.row.v)), ?_, ?_, ?_⟩
  case ql => unfold rngV; simp; (first | lia | omega)
  · refine ⟨_, SubP.refl _, [], rfl, rfl, (fun x h => nomatch h), rfl⟩
  · rintro i v us led Cf hv KE hKE ⟨xs, rfl, rfl, hxs, rfl⟩
    refine comp_in o (by kernel_rfl) fun oc => ?_
    repeat tb_rel
    refine Calls.same (pick_ok (P := P) (k := k + 1 + 1 + 1 + 1) oc hq1 hq2) (.cons (by tb_start) .nil) ?_
    rintro v' ⟨d5, rfl, d50, d51⟩
    obtain ⟨x5, hx5, hp5⟩ := pool_at d50 d51
    have hr5 := hpool.rg _ hp5
    repeat tb_rel
    exact ⟨⟨_, rfl⟩, _, SubP.refl _, xs ++ [x5], by simp, by rw [List.map_append]; rfl, (fun y hy => by
      rcases List.mem_append.mp hy with hy | hy
      · exact hxs y hy
      · rw [List.mem_singleton.mp hy]; exact hr5), rfl⟩
  · rintro us led ⟨seen, hsl, rfl, hseen, rfl⟩ Se
    have hsl : seen.length ≤ 5 := by rw [hsl]; unfold rngV; simp; (first | lia | omega)
    repeat tb_rel
    refine s_cons ?_
    repeat tb_rel
    refine Calls.go (addout_ok (k := k + 1 + 1 + 1 + 1) (P := P) (os := []) (ns := seen) o (by decide) (by (first | lia | omega))) (.cons (by tb_start) (.cons (by tb_start) (.cons (by tb_start) .nil))) ?_
    rintro v' led' ⟨Y, rfl, rfl⟩
    refine ⟨_, .cons (.cons (.cons (.cons .nil))), ?_⟩
    repeat tb_rel
    rw [show ([] ++ [V.tup [.str (PySem.Str.ofString "y"), .ref Y]] : List V) = [V.tup [.str (S "y"), .ref Y]] from rfl]
    refine SP.sub ?_ (hK Se Y seen ⟨_, _, _, _, _, _, _, _, _, _, _, _, _, _, _, _, _, _, _, _⟩ rfl hsl hseen)
    exact .cons (by tb_start) (.cons (by tb_start) (.cons (by tb_start) (.cons (by tb_start) (.cons (by tb_start) (.cons (by tb_start) (.cons (by tb_start) (.cons (by tb_start) (.cons (by tb_start) (.cons (by tb_start) (.cons (by tb_start) (.cons (by tb_start) (.cons (by tb_start) (.cons (by tb_start) (.cons (by tb_start) (.nil _)))))))))))))))
end
section
variable {c : Cx} {m : Loc} {led : List As} {P : Params} {k : Nat}
noncomputable def Dom0 (na nb : List Int) (sts : List StC) (x : Int) : Prop := x = 0 ∨ x = 1 ∨ x ∈ na ++ nb ∨ ∃ s ∈ sts, s.out = x
structure Plain (n : Nat) (na nb : List Int) (early : Bool) (gs : List Row) (sts : List StC) : Prop where
  n9 : 4 ≤ n ∧ n ≤ 20
  la : 1 ≤ na.length ∧ na.length ≤ 2
  lb : 1 ≤ nb.length ∧ nb.length ≤ 2
  gl : gs.length ≤ 6
  sl : sts.length ≤ 3
  st : ∀ s ∈ sts, s.ok n ∧ 2 ≤ s.out
  g2 : ∀ x ∈ na ++ nb, 2 ≤ x ∧ x < n
  gt : ∀ r ∈ gs, r.gate n
  gd : ∀ (j : Nat) (r : Row), gs[j]? = some r → ∀ x ∈ r.ins, Dom0 na nb sts x ∨ ∃ r' ∈ gs.take j, r'.out = x
  cov : ∀ x : Int, 0 ≤ x → x < n → Dom0 na nb sts x ∨ ∃ r ∈ gs, r.out = x
  nd : (([0, 1] : List Int) ++ na ++ nb ++ (cellsOf early gs sts).map Row.out).Nodup
  qs : ∀ (i : Nat) (s : StC), sts[i]? = some s → s.name = qn i
noncomputable abbrev lawF' (c : Cx) (L : Addr) (a : LA) (Se Y Bd Kd : Addr) (cs : List Int) (n : Int) (na nb seen : List Int) (cells rows sts : List V) (nf nk : Nat) (f ck : Int → Option V) : List As := [.hnd a.H a.C cs, .cel (L + 1) (some (.ref a.H)), .cel (L + 3) (some (.ref Bd)), .cel (L + 4) none, .ins a.N a.dN 160 (netF (.str (S "m")) n a.I a.O a.Cl), .lst a.I (inV a.Ia a.Ib), .lst a.Ia (na.map .int), .lst a.Ib (nb.map .int), .lst a.O [.tup [.str (S "y"), .ref Y]], .lst a.Cl cells, .lst a.Rw rows, .lst a.St sts, .lst Se (seen.map .int), .lst Y (seen.map .int), .dic c.prog c.w Bd nf f, .dic c.prog c.w Kd nk ck]
theorem upd_self {B : Int → Int} {k v : Int} (h : B k = v) : upd B k v = B := by
  funext x
  unfold upd
  split
  · rename_i e; rw [e, h]
  · rfl
theorem if_le {p : Prop} [Decidable p] {n m : Nat} (h : n + 1 ≤ m) : (if p then n else n + 1) ≤ m := by split <;> (first | lia | omega)
theorem setOuts_snoc' (B : Int → Int) (l : List (Int × Int)) (p : StC) (g : StC → Int × Int) : setOuts B (l ++ [p].map g) = upd (setOuts B l) (g p).1 (g p).2 := by
  unfold setOuts
  rw [List.foldl_append]; rfl
theorem segF {fa L : Addr} {cd : Value} (lw : LL L) (o : Ok (c.deep (lawEnv L fa cd)) (Kt P) (k + 1 + 1 + 1 + 1 + 1)) {Sp : Addr} {a : LA} {cs : List Int} {n : Nat} {na nb seen : List Int} {early : Bool} {gates : Nat} {u : LU} {gs : List Row} {sts : List StC} {cells : List V} {Se Y : Addr} (hu : u.seen = some (.ref Se)) (pl : Plain n na nb early gs sts) {K : F → Loc → List As → Prop} {rest : List Stmt}
    (hK : ∀ (Bd Kd : Addr) (u : LU) nf nk f ck, u.seen = some (.ref Se) → u.clocks = some (.ref Kd) → nf ≤ 20 → nk ≤ 20 → Rep f (fun x => 0 ≤ x ∧ x < n) (evalRows (initB sts) gs) → Rep ck (fun x => ∃ s ∈ sts, s.out = x) (setOuts (fun _ => 0) (lawK sts (evalRows (initB sts) gs))) →
      SX (c.deep (lawEnv L fa cd)) (lawM Sp a early gates u) (lawF' (c.deep (lawEnv L fa cd)) L a Se Y Bd Kd cs n na nb seen cells (gs.map Row.v) (sts.map fun s => s.row.v) nf nk f ck) rest K) :
    SX (c.deep (lawEnv L fa cd)) (lawM Sp a early gates u) (lawE L a Se Y cs n na nb seen cells (gs.map Row.v) (sts.map fun s => s.row.v)) (lawSeg 16 6 ++ rest) K := by
  refine s_cons ?_
  refine' s_assign_cell (a := L + 3) ?hk ?hx ?hc ?qs ?_; (case hk => rfl); (case hx => kernel_rfl); (case hc => kernel_rfl); (case qs => rfl)
  with_reducible refine' e_dictI o [(0, .int 0), (1, .int 1)] ?a ?b ?c ?d ?e ?f ?g
  case a => kernel_rfl
  case b => kernel_rfl
  case c => exact List.cons_ne_nil _ _
  case d => exact Nat.le_of_ble_eq_true rfl
  case e => decide +kernel
  case f =>
    repeat tb_rel
    exact ⟨rfl, rfl, rfl⟩
  intro Bd
  refine ⟨none, _, by tb_start, ?_⟩
  refine then_next ?_
  have hR0 : Rep (fun k => List.lookup k [((0 : Int), V.int 0), (1, .int 1)]) (fun x => x = 0 ∨ x = 1) (initB []) := by
    intro x hx
    rcases hx with rfl | rfl <;> rfl
  generalize (fun k => List.lookup k [((0 : Int), V.int 0), (1, V.int 1)]) = f0 at *
  refine s_cons ?_
  repeat tb_rel
  refine' ⟨_, _, _, .lst ?qs, fun j m led => X3 fun (u : LU) (f : Int → Option V) (nf : Nat) => Cj5 (u.seen = some (.ref Se)) (nf ≤ 2 + j) (Rep f (fun x => (x = 0 ∨ x = 1) ∨ x ∈ (na ++ nb).take j) (initB [])) (m = lawM Sp a early gates u) (led = [.hnd a.H a.C cs, .cel (L + 1) (some (.ref a.H)), .cel (L + 3) (some (.ref Bd)), .cel (L + 4) none, .ins a.N a.dN 160 (netF (.str (S "m")) n a.I a.O a.Cl), .lst a.I (inV a.Ia a.Ib), .lst a.Ia (na.map .int), .lst a.Ib (nb.map .int), .lst a.O [.tup [.str (S "y"), .ref Y]], .lst a.Cl cells, .lst a.Rw (gs.map Row.v), .lst a.St (sts.map fun s => s.row.v), .lst Se (seen.map .int), .lst Y (seen.map .int), .dic (c.deep (lawEnv L fa cd)).prog (c.deep (lawEnv L fa cd)).w Bd nf f]), ?_, ?_, ?_⟩
  case qs => tb_start
  · exact ⟨_, .cons (by tb_start) (.cons (by tb_start) (.cons (by tb_start) (.cons (by tb_start) (.cons (by tb_start) (.cons (by tb_start) (.cons (by tb_start) (.cons (by tb_start) (.cons (by tb_start) (.cons (by tb_start) (.cons (by tb_start) (.cons (by tb_start) (.cons (by tb_start) (.cons (by tb_start) (.cons (by tb_start) (.nil _))))))))))))))), u, f0, [((0 : Int), V.int 0), (1, V.int 1)].length, hu, Nat.le_of_ble_eq_true rfl, fun x hx => hR0 x (by simpa using hx), rfl, rfl⟩
  · rintro j v m led hv KX1 KX2 hX1 hX2 ⟨u, f, nf, hu, hnf, hR, rfl, rfl⟩
    rw [List.getElem?_map, Option.map_eq_some_iff] at hv
    obtain ⟨x, hx, rfl⟩ := hv
    have hj := (List.getElem?_eq_some_iff.mp hx).1
    have hx2 := pl.g2 x (List.mem_of_getElem? hx)
    have hla := pl.la.2
    have hlb := pl.lb.2
    have hj4 : j < 4 := by rw [List.length_append] at hj; (first | lia | omega)
    have hnf2 : nf ≤ 100000 := by (first | lia | omega)
    repeat tb_rel
    have hi0 : initB [] x = 0 := by
      show upd (fun _ => 0) 1 1 x = 0
      unfold upd
      rw [if_neg (by (first | lia | omega))]
    refine ⟨_, SubP.refl _, { u with one := some (.int x) }, _, _, (by exact hu), if_le (by (first | lia | omega)), ?_, rfl, rfl⟩
    have hp := hR.put x 0
    rw [upd_self hi0] at hp
    refine hp.sub fun y hy => ?_
    rcases hy with hy | hy
    · exact .inl (.inl hy)
    · rw [take_snoc hx] at hy
      rcases List.mem_append.mp hy with hy | hy
      · exact .inl (.inr hy)
      · exact .inr (List.mem_singleton.mp hy)
  · rintro m led ⟨u, f, nf, hu, hnf, hR, rfl, rfl⟩
    rw [List.length_map, List.take_of_length_le (Nat.le_refl _)] at hR
    repeat tb_rel
    refine s_cons ?_
    repeat tb_rel
    have hnf6 : nf ≤ 6 := by
      have := pl.la.2; have := pl.lb.2
      rw [List.length_map, List.length_append] at hnf; (first | lia | omega)
    refine' ⟨_, _, _, .lst ?qs2, fun j m led => X3 fun (u : LU) (f : Int → Option V) (nf : Nat) => Cj5 (u.seen = some (.ref Se)) (nf ≤ 6 + j) (Rep f (fun x => ((x = 0 ∨ x = 1) ∨ x ∈ (na ++ nb)) ∨ ∃ s ∈ sts.take j, s.out = x) (initB (sts.take j))) (m = lawM Sp a early gates u) (led = [.hnd a.H a.C cs, .cel (L + 1) (some (.ref a.H)), .cel (L + 3) (some (.ref Bd)), .cel (L + 4) none, .ins a.N a.dN 160 (netF (.str (S "m")) n a.I a.O a.Cl), .lst a.I (inV a.Ia a.Ib), .lst a.Ia (na.map .int), .lst a.Ib (nb.map .int), .lst a.O [.tup [.str (S "y"), .ref Y]], .lst a.Cl cells, .lst a.Rw (gs.map Row.v), .lst Se (seen.map .int), .lst Y (seen.map .int), .dic (c.deep (lawEnv L fa cd)).prog (c.deep (lawEnv L fa cd)).w Bd nf f]), ?_, ?_, ?_⟩
    case qs2 => tb_start
    · exact ⟨_, .cons (by tb_start) (.cons (by tb_start) (.cons (by tb_start) (.cons (by tb_start) (.cons (by tb_start) (.cons (by tb_start) (.cons (by tb_start) (.cons (by tb_start) (.cons (by tb_start) (.cons (by tb_start) (.cons (by tb_start) (.cons (by tb_start) (.cons (by tb_start) (.cons (by tb_start) (.nil _)))))))))))))), u, f, nf, hu, hnf6, fun x hx => hR x (by rcases hx with hx | ⟨s, hs, _⟩; exact hx; exact nomatch hs), rfl, rfl⟩
    · rintro j v m led hv KX1 KX2 hX1 hX2 ⟨u, f, nf, hu, hnf, hR, rfl, rfl⟩
      rw [List.getElem?_map, Option.map_eq_some_iff] at hv
      obtain ⟨s, hx, rfl⟩ := hv
      have hj := (List.getElem?_eq_some_iff.mp hx).1
      have hss := pl.st s (List.mem_of_getElem? hx)
      have hsl := pl.sl
      have hnf2 : nf ≤ 100000 := by (first | lia | omega)
      obtain ⟨fl, ou, fi, dd, sn, rn, ed, nm, ini⟩ := s
      cases fl
      · rw [show (StC.mk false ou fi dd sn rn ed nm ini).row.v = .tup [.str (S "latch"), .int ou, .tup ([fi, dd, sn, rn].map V.int), .tup [.str nm, .int ini]] from rfl]
        repeat tb_rel
        refine ⟨_, SubP.refl _, { u with kind := some (.str (S "latch")), out := some (.int ou), ins := some (.tup ([fi, dd, sn, rn].map V.int)), param := some (.tup [.str nm, .int ini]) }, _, _, (by exact hu), if_le (by (first | lia | omega)), ?_, rfl, rfl⟩
        have hp := hR.put ou ini
        rw [take_snoc hx]
        unfold initB at hp ⊢
        rw [List.foldl_append]
        refine hp.sub fun y hy => ?_
        rcases hy with hy | ⟨s, hs, hy⟩
        · exact .inl (.inl hy)
        · rcases List.mem_append.mp hs with hs | hs
          · exact .inl (.inr ⟨s, hs, hy⟩)
          · rw [List.mem_singleton.mp hs] at hy
            exact .inr hy.symm
      · rw [show (StC.mk true ou fi dd sn rn ed nm ini).row.v = .tup [.str (S "flop"), .int ou, .tup ([fi, dd, sn, rn].map V.int), .tup [.int ed, .str nm, .int ini]] from rfl]
        repeat tb_rel
        refine ⟨_, SubP.refl _, { u with kind := some (.str (S "flop")), out := some (.int ou), ins := some (.tup ([fi, dd, sn, rn].map V.int)), param := some (.tup [.int ed, .str nm, .int ini]) }, _, _, (by exact hu), if_le (by (first | lia | omega)), ?_, rfl, rfl⟩
        have hp := hR.put ou ini
        rw [take_snoc hx]
        unfold initB at hp ⊢
        rw [List.foldl_append]
        refine hp.sub fun y hy => ?_
        rcases hy with hy | ⟨s, hs, hy⟩
        · exact .inl (.inl hy)
        · rcases List.mem_append.mp hs with hs | hs
          · exact .inl (.inr ⟨s, hs, hy⟩)
          · rw [List.mem_singleton.mp hs] at hy
            exact .inr hy.symm
    · rintro m led ⟨u, f, nf, hu, hnf, hR, rfl, rfl⟩
      rw [List.length_map, List.take_of_length_le (Nat.le_refl _)] at hR
      repeat tb_rel
      refine s_cons ?_
      repeat tb_rel
      have hBi : Bits (initB sts) := initB_bits fun s hs => (pl.st s hs).1.hi
      have hgl := pl.gl
      have hsl := pl.sl
      rw [List.length_map] at hnf
      have hR2 : Rep f (Dom0 na nb sts) (initB sts) := hR.sub fun x hx => by
        rcases hx with hx | hx | hx | hx
        · exact .inl (.inl (.inl hx))
        · exact .inl (.inl (.inr hx))
        · exact .inl (.inr hx)
        · exact .inr hx
      clear hR
      refine Calls.go (gates_ok (k := k + 1 + 1 + 1) (P := P) (nb := nf) o hBi (by (first | lia | omega)) pl.gt (by (first | lia | omega)) hR2 pl.gd) (.cons (by tb_start) (.cons (by tb_start) .nil)) ?_
      rintro v' led' ⟨rfl, f', nf', hR', hnf', _, rfl⟩
      refine ⟨_, .cons (.cons .nil), rfl, ?_⟩
      have hR3 : Rep f' (fun x => 0 ≤ x ∧ x < n) (evalRows (initB sts) gs) := hR'.sub fun x hx => pl.cov x hx.1 hx.2
      clear hR' hR2
      have hB1 : Bits (evalRows (initB sts) gs) := hBi.rows gs
      generalize hBe : evalRows (initB sts) gs = B1 at *
      repeat tb_rel
      refine s_cons ?_
      repeat tb_rel
      intro Kd
      repeat tb_rel
      refine s_cons ?_
      repeat tb_rel
      refine' ⟨_, _, _, .lst ?qs3, fun j m led => X3 fun (u : LU) (ck : Int → Option V) (nk : Nat) => Cj6 (u.seen = some (.ref Se)) (u.clocks = some (.ref Kd)) (nk ≤ j) (Rep ck (fun x => ∃ s ∈ sts.take j, s.out = x) (setOuts (fun _ => 0) (lawK (sts.take j) B1))) (m = lawM Sp a early gates u) (led = [.hnd a.H a.C cs, .cel (L + 1) (some (.ref a.H)), .cel (L + 3) (some (.ref Bd)), .cel (L + 4) none, .ins a.N a.dN 160 (netF (.str (S "m")) n a.I a.O a.Cl), .lst a.I (inV a.Ia a.Ib), .lst a.Ia (na.map .int), .lst a.Ib (nb.map .int), .lst a.O [.tup [.str (S "y"), .ref Y]], .lst a.Cl cells, .lst a.Rw (gs.map Row.v), .lst Se (seen.map .int), .lst Y (seen.map .int), .dic (c.deep (lawEnv L fa cd)).prog (c.deep (lawEnv L fa cd)).w Bd nf' f', .dic (c.deep (lawEnv L fa cd)).prog (c.deep (lawEnv L fa cd)).w Kd nk ck]), ?_, ?_, ?_⟩
      case qs3 => tb_start
      · exact ⟨_, .cons (by tb_start) (.cons (by tb_start) (.cons (by tb_start) (.cons (by tb_start) (.cons (by tb_start) (.cons (by tb_start) (.cons (by tb_start) (.cons (by tb_start) (.cons (by tb_start) (.cons (by tb_start) (.cons (by tb_start) (.cons (by tb_start) (.cons (by tb_start) (.cons (by tb_start) (.cons (by tb_start) (.nil _))))))))))))))), { u with clocks := some (.ref Kd) }, _, _, (by exact hu), rfl, Nat.le_refl _, (fun x hx => by obtain ⟨s, hs, _⟩ := hx; exact nomatch hs), rfl, rfl⟩
      · rintro j v m led hv KX1 KX2 hX1 hX2 ⟨u, ck, nk, hu, huk, hnk, hR, rfl, rfl⟩
        rw [List.getElem?_map, Option.map_eq_some_iff] at hv
        obtain ⟨s, hx, rfl⟩ := hv
        have hj := (List.getElem?_eq_some_iff.mp hx).1
        have hss := pl.st s (List.mem_of_getElem? hx)
        have hnk2 : nk ≤ 100000 := by (first | lia | omega)
        have hfi : f' s.first = some (.int (B1 s.first)) := hR3 _ hss.1.hf
        obtain ⟨fl, ou, fi, dd, sn, rn, ed, nm, ini⟩ := s
        have hfi : f' fi = some (.int (B1 fi)) := hfi
        unfold lawM
        rw [huk]
        cases fl
        · rw [show (StC.mk false ou fi dd sn rn ed nm ini).row.v = .tup [.str (S "latch"), .int ou, .tup [.int fi, .int dd, .int sn, .int rn], .tup [.str nm, .int ini]] from rfl]
          repeat tb_rel
          refine ⟨_, SubP.refl _, { u with clocks := some (.ref Kd), kind := some (.str (S "latch")), out := some (.int ou), ins := some (.tup [.int fi, .int dd, .int sn, .int rn]), param := some (.tup [.str nm, .int ini]) }, _, _, (by exact hu), rfl, if_le (by (first | lia | omega)), ?_, rfl, rfl⟩
          have hp := hR.put ou (B1 fi)
          rw [take_snoc hx]
          unfold lawK at hp ⊢
          rw [List.map_append, setOuts_snoc']
          refine hp.sub fun y hy => ?_
          obtain ⟨s, hs, hy⟩ := hy
          rcases List.mem_append.mp hs with hs | hs
          · exact .inl ⟨s, hs, hy⟩
          · rw [List.mem_singleton.mp hs] at hy
            exact .inr hy.symm
        · rw [show (StC.mk true ou fi dd sn rn ed nm ini).row.v = .tup [.str (S "flop"), .int ou, .tup [.int fi, .int dd, .int sn, .int rn], .tup [.int ed, .str nm, .int ini]] from rfl]
          repeat tb_rel
          refine ⟨_, SubP.refl _, { u with clocks := some (.ref Kd), kind := some (.str (S "flop")), out := some (.int ou), ins := some (.tup [.int fi, .int dd, .int sn, .int rn]), param := some (.tup [.int ed, .str nm, .int ini]) }, _, _, (by exact hu), rfl, if_le (by (first | lia | omega)), ?_, rfl, rfl⟩
          have hp := hR.put ou (B1 fi)
          rw [take_snoc hx]
          unfold lawK at hp ⊢
          rw [List.map_append, setOuts_snoc']
          refine hp.sub fun y hy => ?_
          obtain ⟨s, hs, hy⟩ := hy
          rcases List.mem_append.mp hs with hs | hs
          · exact .inl ⟨s, hs, hy⟩
          · rw [List.mem_singleton.mp hs] at hy
            exact .inr hy.symm
      · rintro m led ⟨u, ck, nk, hu, huk, hnk, hR, rfl, rfl⟩
        rw [List.length_map] at hR hnk
        rw [List.take_of_length_le (Nat.le_refl _)] at hR
        repeat tb_rel
        refine SP.sub ?_ (hK Bd Kd u nf' nk f' ck hu huk (by (first | lia | omega)) (by (first | lia | omega)) hR3 hR)
        exact .cons (by tb_start) (.cons (by tb_start) (.cons (by tb_start) (.cons (by tb_start) (.cons (by tb_start) (.cons (by tb_start) (.cons (by tb_start) (.cons (by tb_start) (.cons (by tb_start) (.cons (by tb_start) (.cons (by tb_start) (.cons (by tb_start) (.cons (by tb_start) (.cons (by tb_start) (.cons (by tb_start) (.cons (by tb_start) (.nil _))))))))))))))))
end
section
variable {c : Cx} {m : Loc} {led : List As} {P : Params} {k : Nat}
structure LB where
  Se : Addr
  Y : Addr
  Bd : Addr
  Kd : Addr
  W : Addr
  dW : Addr
  Od : Addr
  Sd : Addr
  Vd : Addr
  Ld : Addr
noncomputable abbrev lawG (c : Cx) (L : Addr) (a : LA) (b : LB) (cs : List Int) (n : Nat) (na nb seen : List Int) (cells : List Row) (gs : List Row) (sts : List StC) (R : List Nat) (B : Int → Int) (nl : Nat) (g : Int → Option V) (nf nk : Nat) (f ck : Int → Option V) : List As := [.hnd a.H a.C cs, .cel (L + 1) (some (.ref a.H)), .cel (L + 3) (some (.ref b.Bd)), .cel (L + 4) (some (.ref b.W)), .ins b.W b.dW 292 (simF a.N b.Od b.Sd b.Vd b.Ld), .ins a.N a.dN 160 (netF (.str (S "m")) n a.I a.O a.Cl), .lst a.I (inV a.Ia a.Ib), .lst a.Ia (na.map .int), .lst a.Ib (nb.map .int), .lst a.O [.tup [.str (S "y"), .ref b.Y]], .lst a.Cl (cells.map Row.v), .lst a.Rw (gs.map Row.v), .lst a.St (sts.map fun s => s.row.v), .lst b.Se (seen.map .int), .lst b.Y (seen.map .int), .lst b.Od (R.map fun (i : Nat) => .int i), .lst b.Sd ((stIdx cells).map fun (i : Nat) => .int i), .lst b.Vd (tab n B), .dic c.prog c.w b.Ld nl g, .dic c.prog c.w b.Bd nf f, .dic c.prog c.w b.Kd nk ck]
structure SimOk (n : Nat) (cells gs : List Row) (R : List Nat) : Prop where
  hlen : R.length = (rowsOf cells R).length
  hl2 : (rowsOf cells R).length < 1000
  hord : ∀ (j : Nat) (r : Row), (rowsOf cells R)[j]? = some r → ∃ i : Nat, R[j]? = some i ∧ cells[i]? = some r
  hgr : ∀ r ∈ rowsOf cells R, r.gate n
  hev : ∀ B, evalRows B (rowsOf cells R) = evalRows B gs
theorem kinds_isSt {kd : PySem.Str} (h : kd ∈ kinds11) : isSt kd = false := by
  have q : (kinds11.all fun kd => !isSt kd) = true := by decide +kernel
  have := List.all_eq_true.mp q kd h
  simpa using this
theorem segG {fa L : Addr} {cd : Value} (lw : LL L) (o : Ok (c.deep (lawEnv L fa cd)) (Kt P) (k + 1 + 1 + 1 + 1 + 1)) {Sp : Addr} {a : LA} {cs : List Int} {n : Nat} {na nb seen : List Int} {early : Bool} {gates : Nat} {u : LU} {gs : List Row} {sts : List StC} {Se Y Bd Kd : Addr} {nf nk : Nat} {f ck : Int → Option V} (pl : Plain n na nb early gs sts) (ht : Topo gs) {K : F → Loc → List As → Prop} {rest : List Stmt}
    (hK : ∀ (W dW Od Sd Vd Ld : Addr) R nl g, nl ≤ 20 → SimOk n (cellsOf early gs sts) gs R → LastR (stIdx (cellsOf early gs sts)) g (noteL sts (fun _ => none) (evalRows (initB sts) gs) sts.length) →
      SX (c.deep (lawEnv L fa cd)) (lawM Sp a early gates u) (lawG (c.deep (lawEnv L fa cd)) L a ⟨Se, Y, Bd, Kd, W, dW, Od, Sd, Vd, Ld⟩ cs n na nb seen (cellsOf early gs sts) gs sts R (evalRows (initB sts) gs) nl g nf nk f ck) rest K) :
    SX (c.deep (lawEnv L fa cd)) (lawM Sp a early gates u) (lawF' (c.deep (lawEnv L fa cd)) L a Se Y Bd Kd cs n na nb seen ((cellsOf early gs sts).map Row.v) (gs.map Row.v) (sts.map fun s => s.row.v) nf nk f ck) (lawSeg 22 1 ++ rest) K := by
  have hst : ∀ r ∈ gs, isSt r.kind = false := fun r hr => kinds_isSt (pl.gt r hr).hk
  have hcl : (cellsOf early gs sts).length ≤ 9 := by
    have := pl.gl; have := pl.sl
    unfold cellsOf
    split <;> (rw [List.length_append, List.length_map]; (first | lia | omega))
  have hn9 := pl.n9
  have hla := pl.la
  have hlb := pl.lb
  have hsl := pl.sl
  refine s_cons ?_
  refine' s_assign_cell (a := L + 4) ?hk ?hx ?hc ?qs ?_; (case hk => rfl); (case hx => kernel_rfl); (case hc => kernel_rfl); (case qs => rfl)
  repeat tb_rel
  refine n_make (fI := 239) o (by kernel_rfl) (by kernel_rfl) (by kernel_rfl) fun W dW A oA => ?_
  refine Calls.fr (simInit_ok (P := P) (k := k) oA (W := W) (dW := dW) (N := a.N) (dN := a.dN) (I := a.I) (O := a.O) (Cl := a.Cl) (Ia := a.Ia) (Ib := a.Ib) (nm := .str (S "m")) (n := n) (cells := cellsOf early gs sts) (sts := sts) (na := na) (nb := nb) (by (first | lia | omega)) (by (first | lia | omega)) (by (first | lia | omega)) (by (first | lia | omega)) (by (first | lia | omega)) pl.nd ?hi (cells_hac hst ht) (cells_at hst) (fun s hs => (pl.st s hs).1) ?hg) (.cons (by tb_start) (.cons (by tb_start) (.cons (by tb_start) (.cons (by tb_start) (.cons (by tb_start) (.cons (by tb_start) .nil)))))) ?_
  case hi =>
    intro r hr
    rcases mem_cells.mp hr with hr | ⟨s, hs, rfl⟩
    · rw [(pl.gt r hr).hi]
      exact Nat.le_trans (wide_le _) (by decide)
    · show ([s.first, s.d, s.sn, s.rn] : List Int).length ≤ 10
      exact Nat.le_of_ble_eq_true rfl
  case hg => exact fun i r hr hc => pl.gt r (List.mem_of_getElem? (cells_gate hst hc hr).2)
  rintro v led' ⟨rfl, Od, Sd, Vd, Ld, R, g, nl, hO, hLast, hnl, rfl⟩
  refine ⟨_, .cons (.cons (.cons (.cons (.cons (.cons (.cons (.cons (.cons (.cons .nil))))))))), rfl, ?_⟩
  have hnd2 : ((cellsOf early gs sts).map Row.out).Nodup := (List.nodup_append.mp pl.nd).2.1
  have hev : ∀ B, evalRows B (rowsOf (cellsOf early gs sts) R) = evalRows B gs := fun B => cells_eval hst ht hnd2 hO B
  rw [hev] at hLast ⊢
  refine ⟨none, _, by tb_start, ?_⟩
  refine then_next ?_
  have hR : ∀ x ∈ R, x < (cellsOf early gs sts).length := fun x hx => ((hO.mem x).mp hx).1
  obtain ⟨hrl, hrm⟩ := rowsOf_map hR
  have hlenR := hO.len
  refine SP.sub ?_ (hK W dW Od Sd Vd Ld R nl g (by (first | lia | omega)) ⟨hrl.symm, ?_, hrm, fun r hr => pl.gt r ((cells_mem hst hO r).mp hr), hev⟩ hLast)
  · exact .cons (by tb_start) (.cons (by tb_start) (.cons (by tb_start) (.cons (by tb_start) (.cons (by tb_start) (.cons (by tb_start) (.cons (by tb_start) (.cons (by tb_start) (.cons (by tb_start) (.cons (by tb_start) (.cons (by tb_start) (.cons (by tb_start) (.cons (by tb_start) (.cons (by tb_start) (.cons (by tb_start) (.cons (by tb_start) (.cons (by tb_start) (.cons (by tb_start) (.cons (by tb_start) (.cons (by tb_start) (.cons (by tb_start) (.nil _)))))))))))))))))))))
  · rw [hrl]; (first | lia | omega)
end
section
variable {c : Cx} {m : Loc} {led : List As} {P : Params} {k : Nat}
noncomputable def forB : Stmt → List Stmt
  | .For _ _ b _ _ => b
  | _ => []
noncomputable def lawFor (i n : Nat) : List Stmt := ((forB (nth (bodyOf (nth top 28)) 23)).drop i).take n
noncomputable abbrev lawGx (c : Cx) (L : Addr) (a : LA) (b : LB) (cs : List Int) (n : Nat) (na nb seen : List Int) (cells : List Row) (gs : List Row) (sts : List StC) (R : List Nat) (B : Int → Int) (nl : Nat) (g : Int → Option V) (nf nk : Nat) (f ck : Int → Option V) : List As := [.hnd a.H a.C cs, .cel (L + 1) (some (.ref a.H)), .cel (L + 3) (some (.ref b.Bd)), .cel (L + 4) (some (.ref b.W)), .ins b.W b.dW 292 (simF a.N b.Od b.Sd b.Vd b.Ld), .ins a.N a.dN 160 (netF (.str (S "m")) n a.I a.O a.Cl), .lst a.Ia (na.map .int), .lst a.Ib (nb.map .int), .lst a.O [.tup [.str (S "y"), .ref b.Y]], .lst a.Cl (cells.map Row.v), .lst a.Rw (gs.map Row.v), .lst a.St (sts.map fun s => s.row.v), .lst b.Se (seen.map .int), .lst b.Y (seen.map .int), .lst b.Od (R.map fun (i : Nat) => .int i), .lst b.Sd ((stIdx cells).map fun (i : Nat) => .int i), .lst b.Vd (tab n B), .dic c.prog c.w b.Ld nl g, .dic c.prog c.w b.Bd nf f, .dic c.prog c.w b.Kd nk ck]
theorem rngV_get' {n : Int} {i : Nat} {v : V} (h : (rngV n)[i]? = some v) : v = .int (i : Nat) ∧ (i : Int) < n := by
  have hi := (List.getElem?_eq_some_iff.mp h).1
  unfold rngV at h hi
  rw [List.length_map, List.length_range] at hi
  rw [List.getElem?_map, List.getElem?_range hi] at h
  cases h
  exact ⟨rfl, by (first | lia | omega)⟩
theorem segH1 {fa L : Addr} {cd : Value} (lw : LL L) (o : Ok (c.deep (lawEnv L fa cd)) (Kt P) (k + 1 + 1 + 1 + 1 + 1)) {Sp : Addr} {a : LA} {b : LB} {cs : List Int} {n : Nat} {na nb seen : List Int} {early : Bool} {gates : Nat} {u : LU} {gs : List Row} {sts : List StC} {cells : List Row} {R : List Nat} {nf nk nl : Nat} {f ck g : Int → Option V} {B : Int → Int} (pl : Plain n na nb early gs sts)
    (hu : u.seen = some (.ref b.Se)) (huk : u.clocks = some (.ref b.Kd)) (hB : Bits B) (hR : Rep f (fun x => 0 ≤ x ∧ x < n) B) (hnf : nf ≤ 20) {K : F → Loc → List As → Prop} {rest : List Stmt}
    (hK : ∀ (u : LU) (B : Int → Int) (f : Int → Option V), u.seen = some (.ref b.Se) → u.clocks = some (.ref b.Kd) → Bits B → Rep f (fun x => 0 ≤ x ∧ x < n) B → SX (c.deep (lawEnv L fa cd)) (lawM Sp a early gates u) (lawG (c.deep (lawEnv L fa cd)) L a b cs n na nb seen cells gs sts R B nl g nf nk f ck) rest K) :
    SX (c.deep (lawEnv L fa cd)) (lawM Sp a early gates u) (lawG (c.deep (lawEnv L fa cd)) L a b cs n na nb seen cells gs sts R B nl g nf nk f ck) (lawFor 0 2 ++ rest) K := by
  have hn9 := pl.n9
  have hla := pl.la
  have hlb := pl.lb
  have hna : ∀ x ∈ na, 0 ≤ x ∧ x < (n : Int) := fun x hx => by have := pl.g2 x (List.mem_append_left _ hx); (first | lia | omega)
  have hnb : ∀ x ∈ nb, 0 ≤ x ∧ x < (n : Int) := fun x hx => by have := pl.g2 x (List.mem_append_right _ hx); (first | lia | omega)
  refine s_cons ?_
  repeat tb_rel
  refine Calls.same (pick_ok (P := P) (k := k + 1 + 1 + 1 + 1) o (by decide) (by decide)) (.cons (by tb_start) .nil) ?_
  rintro v' ⟨wh, rfl, wh0, wh1⟩
  repeat tb_rel
  refine s_cons ?_
  repeat tb_rel
  intro D
  refine' ⟨_, _, _, .lst ?qs, fun j m led => X3 fun (u : LU) (B : Int → Int) (f : Int → Option V) => Cj7 (u.seen = some (.ref b.Se)) (u.clocks = some (.ref b.Kd)) (u.which = some (.int wh)) (Bits B) (Rep f (fun x => 0 ≤ x ∧ x < n) B) (m = lawM Sp a early gates u) (led = lawG (c.deep (lawEnv L fa cd)) L a b cs n na nb seen cells gs sts R B nl g nf nk f ck), ?_, ?_, ?_⟩
  case qs => tb_start
  · exact ⟨_, SubP.refl _, { u with which := some (.int wh) }, B, f, (by exact hu), (by exact huk), rfl, hB, hR, rfl, rfl⟩
  · rintro j v m led hv KX1 KX2 hX1 hX2 ⟨u, B, f, hu, huk, huw, hB, hR, rfl, rfl⟩
    match j, hv with
    | 0, hv =>
      cases hv
      unfold lawM
      rw [huw]
      repeat tb_rel
      refine ite_both (fun e => ?_) (fun e => ?_)
      · repeat tb_rel
        refine Calls.same (pick_ok (P := P) (k := k + 1 + 1 + 1 + 1) o (by decide) (by decide)) (.cons (by tb_start) .nil) ?_
        rintro v' ⟨w, rfl, w0, w1⟩
        repeat tb_rel
        have hset := setin_ok (P := P) (k := k + 1 + 1 + 1 + 1) (c := (c.deep (lawEnv L fa cd))) o (W := b.W) (dW := b.dW) (N := a.N) (dN := a.dN) (I := a.I) (O := a.O) (Cl := a.Cl) (Od := b.Od) (Sd := b.Sd) (Vd := b.Vd) (Ld := b.Ld) (Ia := a.Ia) (Ib := a.Ib) (nm := .str (S "m")) (n := n) (B := B) (na := na) (nb := nb) (w := w) true (by (first | lia | omega)) hna hnb (by (first | lia | omega)) (by (first | lia | omega)) w0 w1
        rw [if_pos rfl, if_pos rfl] at hset
        refine Calls.go hset (.cons (by tb_start) (.cons (by tb_start) (.cons (by tb_start) (.cons (by tb_start) (.cons (by tb_start) (.cons (by tb_start) .nil)))))) ?_
        rintro v' led' ⟨rfl, rfl⟩
        refine ⟨_, .cons (.cons (.cons (.cons (.cons (.cons .nil))))), rfl, ?_⟩
        repeat tb_rel
        refine' ⟨_, _, _, .lst ?qs0, fun i m led => X2 fun (u : LU) (f : Int → Option V) => Cj8 (u.seen = some (.ref b.Se)) (u.clocks = some (.ref b.Kd)) (u.which = some (.int wh)) (u.name = some (.str (S "a"))) (u.entire = some (.int w)) (((i > 0 ∧ Rep f (fun x => 0 ≤ x ∧ x < n) (setIn B na w)) ∨ (i ≤ 0 ∧ Rep f (fun x => 0 ≤ x ∧ x < n) B))) (m = lawM Sp a early gates u) (led = lawGx (c.deep (lawEnv L fa cd)) L a b cs n na nb seen cells gs sts R (setIn B na w) nl g nf nk f ck), ?_, ?_, ?_⟩
        case qs0 => tb_start
        · exact ⟨_, .cons (by tb_start) (.cons (by tb_start) (.cons (by tb_start) (.cons (by tb_start) (.cons (by tb_start) (.cons (by tb_start) (.cons (by tb_start) (.cons (by tb_start) (.cons (by tb_start) (.cons (by tb_start) (.cons (by tb_start) (.cons (by tb_start) (.cons (by tb_start) (.cons (by tb_start) (.cons (by tb_start) (.cons (by tb_start) (.cons (by tb_start) (.cons (by tb_start) (.cons (by tb_start) (.cons (by tb_start) (.nil _)))))))))))))))))))), { u with spot := some (.int 0), which := some (.int wh), name := some (.str (S "a")), entire := some (.int w) }, f, (by exact hu), (by exact huk), rfl, rfl, rfl, .inr ⟨Nat.zero_le _, hR⟩, rfl, rfl⟩
        · rintro i v m led hv KX1 KX2 hX1 hX2 ⟨u, f, hu, huk, huw, hun, hue, hR, rfl, rfl⟩
          match i, hv with
          | 0, hv =>
            cases hv
            unfold lawM
            rw [huw, hun, hue]
            have hR := (hR.resolve_left fun z => absurd z.1 (by decide)).2
            repeat tb_rel
            have hlen : (na.map V.int).length < 2 ^ 40 := by rw [List.length_map]; (first | lia | omega)
            repeat tb_rel
            refine' ⟨_, _, _, .rng (by (first | lia | omega)) (by rw [List.length_map]; (first | lia | omega)), fun s m led => X2 fun (u : LU) (f : Int → Option V) => Cj9 (u.seen = some (.ref b.Se)) (u.clocks = some (.ref b.Kd)) (u.which = some (.int wh)) (u.name = some (.str (S "a"))) (u.entire = some (.int w)) (u.nets = some (.ref a.Ia)) (Rep f (fun x => 0 ≤ x ∧ x < n) (setIn B (na.take s) w)) (m = lawM Sp a early gates u) (led = lawGx (c.deep (lawEnv L fa cd)) L a b cs n na nb seen cells gs sts R (setIn B na w) nl g nf nk f ck), ?_, ?_, ?_⟩
            · exact ⟨_, SubP.refl _, { u with which := some (.int wh), name := some (.str (S "a")), entire := some (.int w), port := some (.str (S "a")), nets := some (.ref a.Ia) }, f, (by exact hu), (by exact huk), rfl, rfl, rfl, rfl, (by rw [List.take_zero]; exact hR), rfl, rfl⟩
            · rintro s v m led hv KX1 KX2 hX1 hX2 ⟨u, f, hu, huk, huw, hun, hue, hut, hR, rfl, rfl⟩
              obtain ⟨rfl, hsl⟩ := rngV_get' hv
              have hsl : s < na.length := by rw [List.length_map] at hsl; (first | lia | omega)
              have hs0 : (0 : Int) ≤ ((s : Nat) : Int) := by (first | lia | omega)
              have hs1 : ((s : Nat) : Int) < ((na.map V.int).length : Nat) := by rw [List.length_map]; (first | lia | omega)
              have hx : na[s]? = some na[s] := List.getElem?_eq_getElem hsl
              have hxv : (na.map V.int)[((s : Nat) : Int).toNat]? = some (.int na[s]) := by rw [Int.toNat_natCast, List.getElem?_map, hx]; rfl
              have hxm := List.getElem_mem hsl
              generalize na[s] = x at *
              have hxr := pl.g2 x (by first | exact List.mem_append_left _ hxm | exact List.mem_append_right _ hxm)
              have hfx : (f x).isSome = true := by rw [hR x (by (first | lia | omega))]; rfl
              have hnf2 : nf ≤ 100000 := by (first | lia | omega)
              unfold lawM
              rw [huw, hun, hue, hut]
              repeat tb_rel
              refine p_pow (by (first | lia | omega)) (by rw [bits2_2]; (first | lia | omega)) ?_
              have hpw : 0 < (2 : Int) ^ ((s : Nat) : Int).toNat := Int.pow_pos (by (first | lia | omega))
              have hpl : (2 : Int) ^ ((s : Nat) : Int).toNat ≤ 2 ^ 2 := two_pow_le (by (first | lia | omega))
              have hval : (Int.fdiv w (2 ^ ((s : Nat) : Int).toNat)).fmod 2 = w / 2 ^ s % 2 := by
                rw [Int.fdiv_eq_ediv_of_nonneg _ (Int.le_of_lt hpw), Int.fmod_eq_emod_of_nonneg _ (by (first | lia | omega)), Int.toNat_natCast]
              generalize hpe : (2 : Int) ^ ((s : Nat) : Int).toNat = pw at *
              repeat tb_rel
              rw [if_pos hfx, hval]
              refine ⟨_, SubP.refl _, { u with which := some (.int wh), name := some (.str (S "a")), entire := some (.int w), nets := some (.ref a.Ia), step := some (.int (s : Nat)) }, _, (by exact hu), (by exact huk), rfl, rfl, rfl, rfl, ?_, rfl, rfl⟩
              rw [setIn_snoc hx]
              exact (hR.put x _).sub fun y hy => .inl hy
            · rintro m led ⟨u, f, hu, huk, huw, hun, hue, hut, hR, rfl, rfl⟩
              rw [rngV_len, Int.toNat_natCast, List.length_map, List.take_of_length_le (Nat.le_refl _)] at hR
              repeat tb_rel
              exact ⟨_, SubP.refl _, u, f, hu, huk, huw, hun, hue, (by first | exact .inl ⟨by decide, hR⟩ | exact .inr ⟨by decide, hR⟩), rfl, rfl⟩
          | 1, hv =>
            cases hv
            unfold lawM
            rw [huw, hun, hue]
            repeat tb_rel
            exact ⟨_, SubP.refl _, { u with which := some (.int wh), name := some (.str (S "a")), entire := some (.int w), port := some (.str (S "b")), nets := some (.ref a.Ib) }, f, (by exact hu), (by exact huk), rfl, rfl, rfl, (by exact .inl ⟨by decide, (hR.resolve_right fun z => absurd z.1 (by decide)).2⟩), rfl, rfl⟩
          | i + 2, hv => exact nomatch hv
        · rintro m led ⟨u, f, hu, huk, huw, hun, hue, hR, rfl, rfl⟩
          have hR := (hR.resolve_right fun z => absurd z.1 (by show ¬ 2 ≤ 0; decide)).2
          repeat tb_rel
          refine ⟨lawG (c.deep (lawEnv L fa cd)) L a b cs n na nb seen cells gs sts R (setIn B na w) nl g nf nk f ck, ?_, u, _, f, hu, huk, huw, hB.setIn _ _, hR, rfl, rfl⟩
          exact .cons (by tb_start) (.cons (by tb_start) (.cons (by tb_start) (.cons (by tb_start) (.cons (by tb_start) (.cons (by tb_start) (.cons (by tb_start) (.cons (by tb_start) (.cons (by tb_start) (.cons (by tb_start) (.cons (by tb_start) (.cons (by tb_start) (.cons (by tb_start) (.cons (by tb_start) (.cons (by tb_start) (.cons (by tb_start) (.cons (by tb_start) (.cons (by tb_start) (.cons (by tb_start) (.cons (by tb_start) (.cons (by tb_start) (.nil _)))))))))))))))))))))
      · repeat tb_rel
        exact ⟨_, SubP.refl _, { u with spot := some (.int 0), which := some (.int wh), name := some (.str (S "a")) }, B, f, (by exact hu), (by exact huk), rfl, hB, hR, rfl, rfl⟩
    | 1, hv =>
      cases hv
      unfold lawM
      rw [huw]
      repeat tb_rel
      refine ite_both (fun e => ?_) (fun e => ?_)
      · repeat tb_rel
        refine Calls.same (pick_ok (P := P) (k := k + 1 + 1 + 1 + 1) o (by decide) (by decide)) (.cons (by tb_start) .nil) ?_
        rintro v' ⟨w, rfl, w0, w1⟩
        repeat tb_rel
        have hset := setin_ok (P := P) (k := k + 1 + 1 + 1 + 1) (c := (c.deep (lawEnv L fa cd))) o (W := b.W) (dW := b.dW) (N := a.N) (dN := a.dN) (I := a.I) (O := a.O) (Cl := a.Cl) (Od := b.Od) (Sd := b.Sd) (Vd := b.Vd) (Ld := b.Ld) (Ia := a.Ia) (Ib := a.Ib) (nm := .str (S "m")) (n := n) (B := B) (na := na) (nb := nb) (w := w) false (by (first | lia | omega)) hna hnb (by (first | lia | omega)) (by (first | lia | omega)) w0 w1
        rw [if_neg (by decide), if_neg (by decide)] at hset
        refine Calls.go hset (.cons (by tb_start) (.cons (by tb_start) (.cons (by tb_start) (.cons (by tb_start) (.cons (by tb_start) (.cons (by tb_start) .nil)))))) ?_
        rintro v' led' ⟨rfl, rfl⟩
        refine ⟨_, .cons (.cons (.cons (.cons (.cons (.cons .nil))))), rfl, ?_⟩
        repeat tb_rel
        refine' ⟨_, _, _, .lst ?qs1, fun i m led => X2 fun (u : LU) (f : Int → Option V) => Cj8 (u.seen = some (.ref b.Se)) (u.clocks = some (.ref b.Kd)) (u.which = some (.int wh)) (u.name = some (.str (S "b"))) (u.entire = some (.int w)) (((i > 1 ∧ Rep f (fun x => 0 ≤ x ∧ x < n) (setIn B nb w)) ∨ (i ≤ 1 ∧ Rep f (fun x => 0 ≤ x ∧ x < n) B))) (m = lawM Sp a early gates u) (led = lawGx (c.deep (lawEnv L fa cd)) L a b cs n na nb seen cells gs sts R (setIn B nb w) nl g nf nk f ck), ?_, ?_, ?_⟩
        case qs1 => tb_start
        · exact ⟨_, .cons (by tb_start) (.cons (by tb_start) (.cons (by tb_start) (.cons (by tb_start) (.cons (by tb_start) (.cons (by tb_start) (.cons (by tb_start) (.cons (by tb_start) (.cons (by tb_start) (.cons (by tb_start) (.cons (by tb_start) (.cons (by tb_start) (.cons (by tb_start) (.cons (by tb_start) (.cons (by tb_start) (.cons (by tb_start) (.cons (by tb_start) (.cons (by tb_start) (.cons (by tb_start) (.cons (by tb_start) (.nil _)))))))))))))))))))), { u with spot := some (.int 1), which := some (.int wh), name := some (.str (S "b")), entire := some (.int w) }, f, (by exact hu), (by exact huk), rfl, rfl, rfl, .inr ⟨Nat.zero_le _, hR⟩, rfl, rfl⟩
        · rintro i v m led hv KX1 KX2 hX1 hX2 ⟨u, f, hu, huk, huw, hun, hue, hR, rfl, rfl⟩
          match i, hv with
          | 0, hv =>
            cases hv
            unfold lawM
            rw [huw, hun, hue]
            repeat tb_rel
            exact ⟨_, SubP.refl _, { u with which := some (.int wh), name := some (.str (S "b")), entire := some (.int w), port := some (.str (S "a")), nets := some (.ref a.Ia) }, f, (by exact hu), (by exact huk), rfl, rfl, rfl, (by exact .inr ⟨by decide, (hR.resolve_left fun z => absurd z.1 (by decide)).2⟩), rfl, rfl⟩
          | 1, hv =>
            cases hv
            unfold lawM
            rw [huw, hun, hue]
            have hR := (hR.resolve_left fun z => absurd z.1 (by decide)).2
            repeat tb_rel
            have hlen : (nb.map V.int).length < 2 ^ 40 := by rw [List.length_map]; (first | lia | omega)
            repeat tb_rel
            refine' ⟨_, _, _, .rng (by (first | lia | omega)) (by rw [List.length_map]; (first | lia | omega)), fun s m led => X2 fun (u : LU) (f : Int → Option V) => Cj9 (u.seen = some (.ref b.Se)) (u.clocks = some (.ref b.Kd)) (u.which = some (.int wh)) (u.name = some (.str (S "b"))) (u.entire = some (.int w)) (u.nets = some (.ref a.Ib)) (Rep f (fun x => 0 ≤ x ∧ x < n) (setIn B (nb.take s) w)) (m = lawM Sp a early gates u) (led = lawGx (c.deep (lawEnv L fa cd)) L a b cs n na nb seen cells gs sts R (setIn B nb w) nl g nf nk f ck), ?_, ?_, ?_⟩
            · exact ⟨_, SubP.refl _, { u with which := some (.int wh), name := some (.str (S "b")), entire := some (.int w), port := some (.str (S "b")), nets := some (.ref a.Ib) }, f, (by exact hu), (by exact huk), rfl, rfl, rfl, rfl, (by rw [List.take_zero]; exact hR), rfl, rfl⟩
            · rintro s v m led hv KX1 KX2 hX1 hX2 ⟨u, f, hu, huk, huw, hun, hue, hut, hR, rfl, rfl⟩
              obtain ⟨rfl, hsl⟩ := rngV_get' hv
              have hsl : s < nb.length := by rw [List.length_map] at hsl; (first | lia | omega)
              have hs0 : (0 : Int) ≤ ((s : Nat) : Int) := by (first | lia | omega)
              have hs1 : ((s : Nat) : Int) < ((nb.map V.int).length : Nat) := by rw [List.length_map]; (first | lia | omega)
              have hx : nb[s]? = some nb[s] := List.getElem?_eq_getElem hsl
              have hxv : (nb.map V.int)[((s : Nat) : Int).toNat]? = some (.int nb[s]) := by rw [Int.toNat_natCast, List.getElem?_map, hx]; rfl
              have hxm := List.getElem_mem hsl
              generalize nb[s] = x at *
              have hxr := pl.g2 x (by first | exact List.mem_append_left _ hxm | exact List.mem_append_right _ hxm)
              have hfx : (f x).isSome = true := by rw [hR x (by (first | lia | omega))]; rfl
              have hnf2 : nf ≤ 100000 := by (first | lia | omega)
              unfold lawM
              rw [huw, hun, hue, hut]
              repeat tb_rel
              refine p_pow (by (first | lia | omega)) (by rw [bits2_2]; (first | lia | omega)) ?_
              have hpw : 0 < (2 : Int) ^ ((s : Nat) : Int).toNat := Int.pow_pos (by (first | lia | omega))
              have hpl : (2 : Int) ^ ((s : Nat) : Int).toNat ≤ 2 ^ 2 := two_pow_le (by (first | lia | omega))
              have hval : (Int.fdiv w (2 ^ ((s : Nat) : Int).toNat)).fmod 2 = w / 2 ^ s % 2 := by
                rw [Int.fdiv_eq_ediv_of_nonneg _ (Int.le_of_lt hpw), Int.fmod_eq_emod_of_nonneg _ (by (first | lia | omega)), Int.toNat_natCast]
              generalize hpe : (2 : Int) ^ ((s : Nat) : Int).toNat = pw at *
              repeat tb_rel
              rw [if_pos hfx, hval]
              refine ⟨_, SubP.refl _, { u with which := some (.int wh), name := some (.str (S "b")), entire := some (.int w), nets := some (.ref a.Ib), step := some (.int (s : Nat)) }, _, (by exact hu), (by exact huk), rfl, rfl, rfl, rfl, ?_, rfl, rfl⟩
              rw [setIn_snoc hx]
              exact (hR.put x _).sub fun y hy => .inl hy
            · rintro m led ⟨u, f, hu, huk, huw, hun, hue, hut, hR, rfl, rfl⟩
              rw [rngV_len, Int.toNat_natCast, List.length_map, List.take_of_length_le (Nat.le_refl _)] at hR
              repeat tb_rel
              exact ⟨_, SubP.refl _, u, f, hu, huk, huw, hun, hue, (by first | exact .inl ⟨by decide, hR⟩ | exact .inr ⟨by decide, hR⟩), rfl, rfl⟩
          | i + 2, hv => exact nomatch hv
        · rintro m led ⟨u, f, hu, huk, huw, hun, hue, hR, rfl, rfl⟩
          have hR := (hR.resolve_right fun z => absurd z.1 (by show ¬ 2 ≤ 1; decide)).2
          repeat tb_rel
          refine ⟨lawG (c.deep (lawEnv L fa cd)) L a b cs n na nb seen cells gs sts R (setIn B nb w) nl g nf nk f ck, ?_, u, _, f, hu, huk, huw, hB.setIn _ _, hR, rfl, rfl⟩
          exact .cons (by tb_start) (.cons (by tb_start) (.cons (by tb_start) (.cons (by tb_start) (.cons (by tb_start) (.cons (by tb_start) (.cons (by tb_start) (.cons (by tb_start) (.cons (by tb_start) (.cons (by tb_start) (.cons (by tb_start) (.cons (by tb_start) (.cons (by tb_start) (.cons (by tb_start) (.cons (by tb_start) (.cons (by tb_start) (.cons (by tb_start) (.cons (by tb_start) (.cons (by tb_start) (.cons (by tb_start) (.cons (by tb_start) (.nil _)))))))))))))))))))))
      · repeat tb_rel
        exact ⟨_, SubP.refl _, { u with spot := some (.int 1), which := some (.int wh), name := some (.str (S "b")) }, B, f, (by exact hu), (by exact huk), rfl, hB, hR, rfl, rfl⟩
    | j + 2, hv => exact nomatch hv
  · rintro m led ⟨u, B, f, hu, huk, huw, hB, hR, rfl, rfl⟩
    repeat tb_rel
    exact SP.sub ⟨_, List.perm_append_comm (l₁ := [_])⟩ (hK u B f hu huk hB hR)
end
section
variable {c : Cx} {m : Loc} {led : List As} {P : Params} {k : Nat}
theorem segH2 {fa L : Addr} {cd : Value} (lw : LL L) (o : Ok (c.deep (lawEnv L fa cd)) (Kt P) (k + 1 + 1 + 1 + 1 + 1)) {Sp : Addr} {a : LA} {b : LB} {cs : List Int} {n : Nat} {na nb seen : List Int} {early : Bool} {gates : Nat} {u : LU} {gs : List Row} {sts : List StC} {cells : List Row} {R : List Nat} {nf nk nl : Nat} {f ck g : Int → Option V} {B : Int → Int}
    (hu : u.seen = some (.ref b.Se)) (huk : u.clocks = some (.ref b.Kd)) {K : F → Loc → List As → Prop} {rest : List Stmt}
    (hK : ∀ (u : LU) (most : Nat), u.seen = some (.ref b.Se) → u.clocks = some (.ref b.Kd) → u.most = some (.int (most : Nat)) → most ≤ 12 → SX (c.deep (lawEnv L fa cd)) (lawM Sp a early gates u) (lawG (c.deep (lawEnv L fa cd)) L a b cs n na nb seen cells gs sts R B nl g nf nk f ck) rest K) :
    SX (c.deep (lawEnv L fa cd)) (lawM Sp a early gates u) (lawG (c.deep (lawEnv L fa cd)) L a b cs n na nb seen cells gs sts R B nl g nf nk f ck) (lawFor 2 1 ++ rest) K := by
  refine s_cons ?_
  repeat tb_rel
  refine Calls.same (pick_ok (P := P) (k := k + 1 + 1 + 1 + 1) o (by decide) (by decide)) (.cons (by tb_start) .nil) ?_
  rintro v' ⟨d, rfl, d0, d1⟩
  repeat tb_rel
  refine ite_both (fun e => ?_) (fun e => ?_)
  · repeat tb_rel
    exact hK { u with most := some (.int (12 : Nat)) } 12 (by exact hu) (by exact huk) rfl (by decide)
  · repeat tb_rel
    refine Calls.same (pick_ok (P := P) (k := k + 1 + 1 + 1 + 1) o (by decide) (by decide)) (.cons (by tb_start) .nil) ?_
    rintro v' ⟨d', rfl, e0, e1⟩
    obtain ⟨q, hq⟩ : ∃ q : Nat, 1 + d' = (q : Nat) := ⟨(1 + d').toNat, by (first | lia | omega)⟩
    repeat tb_rel
    rw [hq]
    exact hK { u with most := some (.int (q : Nat)) } q (by exact hu) (by exact huk) rfl (by (first | lia | omega))
/-- the two sides at one state -/
structure Inv (n : Nat) (cells : List Row) (sts : List StC) (p : Sta) (f ck g : Int → Option V) (lo : Nat → Option Int) (nl : Nat) : Prop where
  hB : Bits p.1
  hR : Rep f (fun x => 0 ≤ x ∧ x < (n : Int)) p.1
  hK : Rep ck (fun x => ∃ s ∈ sts, s.out = x) p.2
  hL : LastR (stIdx cells) g lo
  hlk : Lk sts lo p.2
  hnl : nl < 50000
noncomputable abbrev lawRest (c : Cx) (L : Addr) (a : LA) (b : LB) (cs : List Int) (na nb seen : List Int) (gs : List Row) (sts : List StC) (nf nk : Nat) (f ck : Int → Option V) : List As := [.hnd a.H a.C cs, .cel (L + 1) (some (.ref a.H)), .cel (L + 3) (some (.ref b.Bd)), .cel (L + 4) (some (.ref b.W)), .lst a.I (inV a.Ia a.Ib), .lst a.Ia (na.map .int), .lst a.Ib (nb.map .int), .lst a.O [.tup [.str (S "y"), .ref b.Y]], .lst a.Rw (gs.map Row.v), .lst a.St (sts.map fun s => s.row.v), .lst b.Se (seen.map .int), .lst b.Y (seen.map .int), .dic c.prog c.w b.Bd nf f, .dic c.prog c.w b.Kd nk ck]
theorem segH4 {fa L : Addr} {cd : Value} (lw : LL L) (o : Ok (c.deep (lawEnv L fa cd)) (Kt P) (k + 1 + 1 + 1 + 1 + 1)) (hfr : c.A.frames = some []) {Sp : Addr} {a : LA} {b : LB} {cs : List Int} {n : Nat} {na nb seen : List Int} {early : Bool} {gates : Nat} {u : LU} {gs : List Row} {sts : List StC} {R : List Nat} {nf nk nl : Nat} {f ck g : Int → Option V} {p q : Sta} {lo : Nat → Option Int} {most r : Nat}
    (pl : Plain n na nb early gs sts) (hsim : SimOk n (cellsOf early gs sts) gs R) (hB : Bits p.1) (hL : LastR (stIdx (cellsOf early gs sts)) g lo) (hlk : Lk sts lo p.2) (hnl : nl < 50000) (hR : Rep f (fun x => 0 ≤ x ∧ x < (n : Int)) q.1) (hKq : Rep ck (fun x => ∃ s ∈ sts, s.out = x) q.2)
    (hall : ∀ j, j < r → sr gs sts (it gs sts j p) = true) (hq : r = most ∨ (r < most ∧ sr gs sts (it gs sts r p) = false ∧ q = it gs sts (r + 1) p))
    (hu : u.seen = some (.ref b.Se)) (huk : u.clocks = some (.ref b.Kd)) (hum : u.most = some (.int (most : Nat))) (hur : u.rounds = some (.int (r : Nat))) (hmost : most ≤ 12) {K : F → Loc → List As → Prop} {rest : List Stmt}
    (hE : ∀ m led, K (.ret (.bool true)) m led)
    (hK : ∀ (u : LU) (p : Sta) (f ck g : Int → Option V) lo nl (r : Nat), u.seen = some (.ref b.Se) → u.clocks = some (.ref b.Kd) → u.most = some (.int (most : Nat)) → u.rounds = some (.int (r : Nat)) → r < most → Inv n (cellsOf early gs sts) sts p f ck g lo nl → SX (c.deep (lawEnv L fa cd)) (lawM Sp a early gates u) (lawG (c.deep (lawEnv L fa cd)) L a b cs n na nb seen (cellsOf early gs sts) gs sts R p.1 nl g nf nk f ck) rest K) :
    SX (c.deep (lawEnv L fa cd)) (lawM Sp a early gates u) (lawG (c.deep (lawEnv L fa cd)) L a b cs n na nb seen (cellsOf early gs sts) gs sts R p.1 nl g nf nk f ck) (lawFor 5 1 ++ rest) K := by
  have hst : ∀ r ∈ gs, isSt r.kind = false := fun r hr => kinds_isSt (pl.gt r hr).hk
  have hcl : (cellsOf early gs sts).length ≤ 9 := by
    have := pl.gl; have := pl.sl
    unfold cellsOf
    split <;> (rw [List.length_append, List.length_map]; (first | lia | omega))
  have hn9 := pl.n9
  have hsl := pl.sl
  have hnd2 : (sts.map StC.out).Nodup := by
    have h1 := (List.nodup_append.mp pl.nd).2.1
    unfold cellsOf at h1
    split at h1
    · rw [List.map_append, List.map_map] at h1
      exact (List.nodup_append.mp h1).1
    · rw [List.map_append, List.map_map] at h1
      exact (List.nodup_append.mp h1).2.1
  have hset := CallsE.use (rest := lawRest (c.deep (lawEnv L fa cd)) L a b cs na nb seen gs sts nf nk f ck) (settle_ok (P := P) (k := k) (c := c.deep (lawEnv L fa cd)) o (Around.frames_deeper hfr) rfl (W := b.W) (dW := b.dW) (N := a.N) (dN := a.dN) (I := a.I) (O := a.O) (Cl := a.Cl) (Od := b.Od) (Sd := b.Sd) (Vd := b.Vd) (Ld := b.Ld) (nm := .str (S "m")) (n := n) (nl := nl) (cells := cellsOf early gs sts) (sts := sts) (sidx := stIdx (cellsOf early gs sts)) (order := R) (rows := rowsOf (cellsOf early gs sts) R) (gs := gs) (p0 := p) (g := g) (lo := lo) (most := most) (by (first | lia | omega)) (by (first | lia | omega)) (by (first | lia | omega)) hnl (cells_at hst) (fun s hs => (pl.st s hs).1) hL hlk hB hnd2 hsim.hlen hsim.hl2 hsim.hord hsim.hgr hsim.hev (by (first | lia | omega))) (led := lawG (c.deep (lawEnv L fa cd)) L a b cs n na nb seen (cellsOf early gs sts) gs sts R p.1 nl g nf nk f ck)
    ((Sels.perm (.cons (by tb_start) (.cons (by tb_start) (.cons (by tb_start) (.cons (by tb_start) (.cons (by tb_start) (.cons (by tb_start) (.cons (by tb_start) .nil)))))))).trans List.perm_append_comm)
  refine s_cons ?_
  refine' s_try64 (P := P) (W := .ref b.W) (u := .int (most : Nat)) (f := 268) o (Around.frames_deeper hfr) rfl ?hkf ?hE1 ?hG ?hA hset ?kN ?kE ?hx ?hi ?qs ?he ?he2
  case he => rfl
  case hkf => kernel_rfl
  case hx => kernel_rfl
  case hi => rfl
  case qs => rfl
  case he2 => rfl
  case hE1 =>
    unfold lawM
    rw [hum]
    repeat tb_rel
    exact ⟨rfl, rfl, rfl⟩
  case hG =>
    repeat tb_rel
    exact ⟨rfl, rfl⟩
  case hA =>
    unfold lawM
    rw [hum]
    repeat tb_rel
    exact ⟨rfl, rfl, rfl⟩
  case kN =>
    rintro v led' ⟨led2, rfl, rfl, i, g', nl', lo', hil, halli, hsr, hnl', hL', hlk', rfl⟩
    obtain ⟨hrm, rfl, rfl⟩ : r < most ∧ i = r ∧ q = it gs sts (r + 1) p := by
      rcases hq with e | ⟨e1, e2, e3⟩
      · subst e
        rw [hall i hil] at hsr; cases hsr
      · refine ⟨e1, ?_, e3⟩
        rcases Nat.lt_trichotomy i r with z | z | z
        · rw [hall i z] at hsr; cases hsr
        · exact z
        · rw [halli r z] at e2; cases e2
    refine then_next ?_
    refine SP.sub (SubP.of_perm ?_) (hK u (it gs sts (i + 1) p) f ck g' lo' nl' i hu huk hum hur hrm ⟨it_bits hB _, hR, hKq, hL', hlk', hnl'⟩)
    exact ((Sels.perm (.cons (by tb_start) (.cons (by tb_start) (.cons (by tb_start) (.cons (by tb_start) (.cons (by tb_start) (.cons (by tb_start) (.cons (by tb_start) .nil)))))))).trans List.perm_append_comm).symm
  case kE =>
    rintro led' x ⟨led2, rfl, halle⟩
    have hrm : r = most := by
      rcases hq with e | ⟨e1, e2, e3⟩
      · exact e
      · rw [halle r e1] at e2; cases e2
    unfold lawM
    rw [hum, hur]
    refine s_cons ?_
    repeat tb_rel
    rw [show decide (((r : Nat) : Int) = ((most : Nat) : Int)) = true by rw [hrm]; simp]
    exact hE _ _
theorem segH3 {fa L : Addr} {cd : Value} (lw : LL L) (o : Ok (c.deep (lawEnv L fa cd)) (Kt P) (k + 1 + 1 + 1 + 1 + 1)) {Sp : Addr} {a : LA} {b : LB} {cs : List Int} {n : Nat} {na nb seen : List Int} {early : Bool} {gates : Nat} {u : LU} {gs : List Row} {sts : List StC} {cells : List Row} {R : List Nat} {nf nk nl : Nat} {f ck g : Int → Option V} {p : Sta} {most : Nat}
    (pl : Plain n na nb early gs sts) (hB : Bits p.1) (hR : Rep f (fun x => 0 ≤ x ∧ x < (n : Int)) p.1) (hKq : Rep ck (fun x => ∃ s ∈ sts, s.out = x) p.2) (hnf : nf ≤ 20) (hnk : nk ≤ 20)
    (hu : u.seen = some (.ref b.Se)) (huk : u.clocks = some (.ref b.Kd)) (hum : u.most = some (.int (most : Nat))) (hmost : most ≤ 12) {K : F → Loc → List As → Prop} {rest : List Stmt}
    (hK : ∀ (u : LU) (f ck : Int → Option V) (q : Sta) (r : Nat), u.seen = some (.ref b.Se) → u.clocks = some (.ref b.Kd) → u.most = some (.int (most : Nat)) → u.rounds = some (.int (r : Nat)) → (∀ j, j < r → sr gs sts (it gs sts j p) = true) → (r = most ∨ (r < most ∧ sr gs sts (it gs sts r p) = false ∧ q = it gs sts (r + 1) p)) →
      Rep f (fun x => 0 ≤ x ∧ x < (n : Int)) q.1 → Rep ck (fun x => ∃ s ∈ sts, s.out = x) q.2 → SX (c.deep (lawEnv L fa cd)) (lawM Sp a early gates u) (lawG (c.deep (lawEnv L fa cd)) L a b cs n na nb seen cells gs sts R p.1 nl g nf nk f ck) rest K) :
    SX (c.deep (lawEnv L fa cd)) (lawM Sp a early gates u) (lawG (c.deep (lawEnv L fa cd)) L a b cs n na nb seen cells gs sts R p.1 nl g nf nk f ck) (lawFor 3 2 ++ rest) K := by
  have hsl := pl.sl
  have hgl := pl.gl
  have hnd2 : (sts.map StC.out).Nodup := by
    have h1 := (List.nodup_append.mp pl.nd).2.1
    unfold cellsOf at h1
    split at h1
    · rw [List.map_append, List.map_map] at h1
      exact (List.nodup_append.mp h1).1
    · rw [List.map_append, List.map_map] at h1
      exact (List.nodup_append.mp h1).2.1
  have hd : ∀ r ∈ gs, (0 ≤ r.out ∧ r.out < (n : Int)) ∧ ∀ x ∈ r.ins, 0 ≤ x ∧ x < (n : Int) := fun r hr => ⟨(pl.gt r hr).ho, (pl.gt r hr).hr⟩
  have hind : ∀ s ∈ sts, InD s (fun x => 0 ≤ x ∧ x < (n : Int)) := fun s hs => ⟨(pl.st s hs).1.ho, (pl.st s hs).1.hf, (pl.st s hs).1.hd, (pl.st s hs).1.hs, (pl.st s hs).1.hr⟩
  refine s_cons ?_
  repeat tb_rel
  refine s_cons ?_
  refine s_while (fun t m led => X4 fun (i : Nat) (u : LU) (f ck : Int → Option V) => Cj11 (t = most - i) (i ≤ most) ((∀ j, j < i → sr gs sts (it gs sts j p) = true)) (u.seen = some (.ref b.Se)) (u.clocks = some (.ref b.Kd)) (u.most = some (.int (most : Nat))) (u.rounds = some (.int (i : Nat))) (Rep f (fun x => 0 ≤ x ∧ x < (n : Int)) (it gs sts i p).1) (Rep ck (fun x => ∃ s ∈ sts, s.out = x) (it gs sts i p).2) (m = lawM Sp a early gates u) (SubP led (lawG (c.deep (lawEnv L fa cd)) L a b cs n na nb seen cells gs sts R p.1 nl g nf nk f ck))) most ⟨0, { u with rounds := some (.int (0 : Nat)) }, f, ck, by (first | lia | omega), Nat.zero_le _, fun j h => absurd h (Nat.not_lt_zero _), (by exact hu), (by exact huk), (by exact hum), rfl, hR, hKq, rfl, SubP.refl _⟩ ?_
  rintro t m led KX1 KX2 hX1 hX2 ⟨i, u, f, ck, rfl, him, hall, hu, huk, hum, hur, hR, hKq, rfl, hsp⟩
  refine SP.sub hsp ?_
  clear hsp
  have hBi := it_bits (gs := gs) (sts := sts) hB i
  have hun := hu
  unfold lawM
  rw [huk, hum, hur]
  repeat tb_rel
  refine ite_both (fun e => ?_) (fun e => ?_)
  · have hlt : i < most := by have := of_decide_eq_true e; (first | lia | omega)
    repeat tb_rel
    refine Calls.go (lturn_ok (k := k + 1 + 1) (P := P) (nb := nf) (nk := nk) o hBi (by (first | lia | omega)) (by (first | lia | omega)) pl.gt (by (first | lia | omega)) (by (first | lia | omega)) hR hd hKq hind hnd2) (.cons (by tb_start) (.cons (by tb_start) (.cons (by tb_start) (.cons (by tb_start) .nil)))) ?_
    rintro v led' ⟨rfl, f', ck', hR', hK', rfl⟩
    refine ⟨_, .cons (.cons (.cons (.cons .nil))), ?_⟩
    have hR' : Rep f' (fun x => 0 ≤ x ∧ x < (n : Int)) (it gs sts (i + 1) p).1 := hR'
    have hK' : Rep ck' (fun x => ∃ s ∈ sts, s.out = x) (it gs sts (i + 1) p).2 := hK'
    have hsr : lawS sts (it gs sts i p).2 (evalRows (it gs sts i p).1 gs) = sr gs sts (it gs sts i p) := rfl
    rw [hsr]
    cases hc : sr gs sts (it gs sts i p) with
    | false =>
      repeat tb_rel
      refine SP.sub ?_ (hK { u with clocks := some (.ref b.Kd), most := some (.int (most : Nat)), rounds := some (.int (i : Nat)) } f' ck' (it gs sts (i + 1) p) i (by exact hu) rfl rfl rfl hall (.inr ⟨hlt, hc, rfl⟩) hR' hK')
      exact .cons (by tb_start) (.cons (by tb_start) (.cons (by tb_start) (.cons (by tb_start) (.cons (by tb_start) (.cons (by tb_start) (.cons (by tb_start) (.cons (by tb_start) (.cons (by tb_start) (.cons (by tb_start) (.cons (by tb_start) (.cons (by tb_start) (.cons (by tb_start) (.cons (by tb_start) (.cons (by tb_start) (.cons (by tb_start) (.cons (by tb_start) (.cons (by tb_start) (.cons (by tb_start) (.cons (by tb_start) (.cons (by tb_start) (.nil _)))))))))))))))))))))
    | true =>
      repeat tb_rel
      refine ⟨most - (i + 1), by (first | lia | omega), i + 1, { u with clocks := some (.ref b.Kd), most := some (.int (most : Nat)), rounds := some (.int ((i + 1 : Nat) : Int)) }, f', ck', rfl, by (first | lia | omega), fun j hj => ?_, (by exact hu), rfl, rfl, rfl, hR', hK', rfl, ?_⟩
      · rcases Nat.lt_or_ge j i with z | z
        · exact hall j z
        · rw [show j = i by (first | lia | omega)]; exact hc
      · exact .cons (by tb_start) (.cons (by tb_start) (.cons (by tb_start) (.cons (by tb_start) (.cons (by tb_start) (.cons (by tb_start) (.cons (by tb_start) (.cons (by tb_start) (.cons (by tb_start) (.cons (by tb_start) (.cons (by tb_start) (.cons (by tb_start) (.cons (by tb_start) (.cons (by tb_start) (.cons (by tb_start) (.cons (by tb_start) (.cons (by tb_start) (.cons (by tb_start) (.cons (by tb_start) (.cons (by tb_start) (.cons (by tb_start) (.nil _)))))))))))))))))))))
  · have hlt : i = most := by have := of_decide_eq_false e; (first | lia | omega)
    repeat tb_rel
    exact hK { u with clocks := some (.ref b.Kd), most := some (.int (most : Nat)), rounds := some (.int (i : Nat)) } f ck (it gs sts i p) i (by exact hu) rfl rfl rfl hall (.inl hlt) hR hKq
end
section
variable {c : Cx} {m : Loc} {led : List As} {P : Params} {k : Nat}
theorem qn_ne {i j : Nat} (h : i < j) (hj : j < 3) : qn i ≠ qn j := by
  have : (i = 0 ∧ j = 1) ∨ (i = 0 ∧ j = 2) ∨ (i = 1 ∧ j = 2) := by (first | lia | omega)
  rcases this with ⟨rfl, rfl⟩ | ⟨rfl, rfl⟩ | ⟨rfl, rfl⟩ <;> decide +kernel
theorem segH5 {fa L : Addr} {cd : Value} (lw : LL L) (o : Ok (c.deep (lawEnv L fa cd)) (Kt P) (k + 1 + 1 + 1 + 1 + 1)) {Sp : Addr} {a : LA} {b : LB} {cs : List Int} {n : Nat} {na nb seen : List Int} {early : Bool} {gates : Nat} {u : LU} {gs : List Row} {sts : List StC} {R : List Nat} {nf nk nl : Nat} {f ck g : Int → Option V} {B : Int → Int} {most r : Nat}
    (pl : Plain n na nb early gs sts) (hB : Bits B) (hR : Rep f (fun x => 0 ≤ x ∧ x < (n : Int)) B) (hsl5 : seen.length ≤ 5) (hseen : ∀ x ∈ seen, 0 ≤ x ∧ x < (n : Int))
    (hu : u.seen = some (.ref b.Se)) (huk : u.clocks = some (.ref b.Kd)) (hum : u.most = some (.int (most : Nat))) (hur : u.rounds = some (.int (r : Nat))) (hrm : r < most) {K : F → Loc → List As → Prop} {rest : List Stmt}
    (hK : ∀ (u : LU), u.seen = some (.ref b.Se) → u.clocks = some (.ref b.Kd) → SX (c.deep (lawEnv L fa cd)) (lawM Sp a early gates u) (lawG (c.deep (lawEnv L fa cd)) L a b cs n na nb seen (cellsOf early gs sts) gs sts R B nl g nf nk f ck) rest K) :
    SX (c.deep (lawEnv L fa cd)) (lawM Sp a early gates u) (lawG (c.deep (lawEnv L fa cd)) L a b cs n na nb seen (cellsOf early gs sts) gs sts R B nl g nf nk f ck) (lawFor 6 4 ++ rest) K := by
  have hst : ∀ r ∈ gs, isSt r.kind = false := fun r hr => kinds_isSt (pl.gt r hr).hk
  have hcl : (cellsOf early gs sts).length ≤ 9 := by
    have := pl.gl; have := pl.sl
    unfold cellsOf
    split <;> (rw [List.length_append, List.length_map]; (first | lia | omega))
  have hn9 := pl.n9
  have hsl := pl.sl
  have hne : decide (((r : Nat) : Int) = ((most : Nat) : Int)) = false := decide_eq_false (by (first | lia | omega))
  have hlen : (seen.map V.int).length < 2 ^ 40 := by rw [List.length_map]; (first | lia | omega)
  refine s_cons ?_
  unfold lawM
  rw [hu, huk, hum, hur]
  repeat tb_rel
  refine s_cons ?_
  repeat tb_rel
  refine s_cons ?_
  repeat tb_rel
  refine' ⟨_, _, _, .rng (by (first | lia | omega)) (by rw [List.length_map]; (first | lia | omega)), fun s m led => ∃ (u : LU), Cj5 (u.seen = some (.ref b.Se)) (u.clocks = some (.ref b.Kd)) (u.entire = some (.int (rowNo ((seen.take s).map B)))) (m = lawM Sp a early gates u) (led = lawG (c.deep (lawEnv L fa cd)) L a b cs n na nb seen (cellsOf early gs sts) gs sts R B nl g nf nk f ck), ?_, ?_, ?_⟩
  · exact ⟨_, SubP.refl _, { u with seen := some (.ref b.Se), clocks := some (.ref b.Kd), most := some (.int (most : Nat)), rounds := some (.int (r : Nat)), entire := some (.int 0) }, rfl, rfl, rfl, rfl, rfl⟩
  · rintro s v m led hv KX1 KX2 hX1 hX2 ⟨u, hu, huk, hue, rfl, rfl⟩
    obtain ⟨rfl, hsl⟩ := rngV_get' hv
    have hsl : s < seen.length := by rw [List.length_map] at hsl; (first | lia | omega)
    have hs0 : (0 : Int) ≤ ((s : Nat) : Int) := by (first | lia | omega)
    have hs1 : ((s : Nat) : Int) < ((seen.map V.int).length : Nat) := by rw [List.length_map]; (first | lia | omega)
    have hx : seen[s]? = some seen[s] := List.getElem?_eq_getElem hsl
    have hxv : (seen.map V.int)[((s : Nat) : Int).toNat]? = some (.int seen[s]) := by rw [Int.toNat_natCast, List.getElem?_map, hx]; rfl
    have hfx : f seen[s] = some (.int (B seen[s])) := hR _ (hseen _ (List.getElem_mem hsl))
    have hb2 := hB seen[s]
    unfold lawM
    rw [hu, huk, hue]
    repeat tb_rel
    refine p_pow (by (first | lia | omega)) (by rw [bits2_2]; (first | lia | omega)) ?_
    repeat tb_rel
    refine p_mul (mul_ok (by (first | lia | omega))) ?_
    repeat tb_rel
    refine ⟨_, SubP.refl _, { u with seen := some (.ref b.Se), clocks := some (.ref b.Kd), entire := some (.int (rowNo ((seen.take (s + 1)).map B))), step := some (.int (s : Nat)) }, rfl, rfl, rfl, ?_, rfl⟩
    rw [take_snoc hx, List.map_append, List.map_cons, List.map_nil, rowNo_snoc, List.length_map, List.length_take, Nat.min_eq_left (Nat.le_of_lt hsl), Int.toNat_natCast]
  · rintro m led ⟨u, hu, huk, hue, rfl, rfl⟩
    rw [rngV_len, Int.toNat_natCast, List.length_map, List.take_of_length_le (Nat.le_refl _)] at hue
    unfold lawM
    rw [hu, huk, hue]
    repeat tb_rel
    refine s_cons ?_
    repeat tb_rel
    refine Calls.same (output_ok (k := k + 1 + 1 + 1 + 1) (P := P) o (by (first | lia | omega)) hB hseen hsl5) (.cons (by tb_start) (.cons (by tb_start) (.cons (by tb_start) (.cons (by tb_start) (.cons (by tb_start) .nil))))) ?_
    rintro v' rfl
    have hne2 : decide (rowNo (seen.map B) ≠ rowNo (seen.map B)) = false := decide_eq_false fun z => z rfl
    repeat tb_rel
    refine' ⟨_, _, _, .lst ?qs1, ?hl1, fun i us led => us = (sts.take i).map (fun s => V.int (B s.out)) ∧ led = [.hnd a.H a.C cs, .cel (L + 1) (some (.ref a.H)), .cel (L + 3) (some (.ref b.Bd)), .cel (L + 4) (some (.ref b.W)), .ins b.W b.dW 292 (simF a.N b.Od b.Sd b.Vd b.Ld), .ins a.N a.dN 160 (netF (.str (S "m")) n a.I a.O a.Cl), .lst a.I (inV a.Ia a.Ib), .lst a.Ia (na.map .int), .lst a.Ib (nb.map .int), .lst a.O [.tup [.str (S "y"), .ref b.Y]], .lst a.Cl ((cellsOf early gs sts).map Row.v), .lst a.Rw (gs.map Row.v), .lst b.Se (seen.map .int), .lst b.Y (seen.map .int), .lst b.Od (R.map fun (i : Nat) => .int i), .lst b.Sd ((stIdx (cellsOf early gs sts)).map fun (i : Nat) => .int i), .lst b.Vd (tab n B), .dic c.prog c.w b.Ld nl g, .dic c.prog c.w b.Bd nf f, .dic c.prog c.w b.Kd nk ck], ?_, ?_, ?_⟩
    case qs1 => tb_start
    case hl1 => rw [List.length_map]; (first | lia | omega)
    · exact ⟨_, .cons (by tb_start) (.cons (by tb_start) (.cons (by tb_start) (.cons (by tb_start) (.cons (by tb_start) (.cons (by tb_start) (.cons (by tb_start) (.cons (by tb_start) (.cons (by tb_start) (.cons (by tb_start) (.cons (by tb_start) (.cons (by tb_start) (.cons (by tb_start) (.cons (by tb_start) (.cons (by tb_start) (.cons (by tb_start) (.cons (by tb_start) (.cons (by tb_start) (.cons (by tb_start) (.cons (by tb_start) (.nil _)))))))))))))))))))), rfl, rfl⟩
    · rintro i v us led Cf hv KE hKE ⟨rfl, rfl⟩
      refine comp_in o (by kernel_rfl) fun oc => ?_
      rw [List.getElem?_map, Option.map_eq_some_iff] at hv
      obtain ⟨s, hx, rfl⟩ := hv
      have hi := (List.getElem?_eq_some_iff.mp hx).1
      have hstate := state_ok (k := k + 1 + 1 + 1) (P := P) oc (W := b.W) (dW := b.dW) (N := a.N) (dN := a.dN) (I := a.I) (O := a.O) (Cl := a.Cl) (Od := b.Od) (Sd := b.Sd) (Vd := b.Vd) (Ld := b.Ld) (nm := .str (S "m")) (n := n) (B := B) (by (first | lia | omega)) (by (first | lia | omega)) (cells_at (early := early) hst) (fun s hs => (pl.st s hs).1) hx (fun j s' hj hs' => by rw [pl.qs _ _ hx, pl.qs _ _ hs']; exact qn_ne hj (by (first | lia | omega)))
      obtain ⟨fl, ou, fi, dd, sn, rn, ed, nm, ini⟩ := s
      cases fl
      · rw [show (StC.mk false ou fi dd sn rn ed nm ini).row.v = .tup [.str (S "latch"), .int ou, .tup [.int fi, .int dd, .int sn, .int rn], .tup [.str nm, .int ini]] from rfl]
        repeat tb_rel
        refine Calls.same hstate (.cons (by tb_start) (.cons (by tb_start) (.cons (by tb_start) (.cons (by tb_start) (.cons (by tb_start) .nil))))) ?_
        rintro v' rfl
        repeat tb_rel
        refine ⟨⟨_, rfl⟩, _, SubP.refl _, ?_, rfl⟩
        rw [take_snoc hx, List.map_append]; rfl
      · rw [show (StC.mk true ou fi dd sn rn ed nm ini).row.v = .tup [.str (S "flop"), .int ou, .tup [.int fi, .int dd, .int sn, .int rn], .tup [.int ed, .str nm, .int ini]] from rfl]
        repeat tb_rel
        refine Calls.same hstate (.cons (by tb_start) (.cons (by tb_start) (.cons (by tb_start) (.cons (by tb_start) (.cons (by tb_start) .nil))))) ?_
        rintro v' rfl
        repeat tb_rel
        refine ⟨⟨_, rfl⟩, _, SubP.refl _, ?_, rfl⟩
        rw [take_snoc hx, List.map_append]; rfl
    · rintro us led ⟨rfl, rfl⟩ C1
      rw [List.length_map, List.take_of_length_le (Nat.le_refl _)]
      repeat tb_rel
      refine' ⟨_, _, _, .lst ?qs2, ?hl2, fun i us led => us = (sts.take i).map (fun s => V.int (B s.out)) ∧ led = .lst C1 (sts.map fun s => V.int (B s.out)) :: [.hnd a.H a.C cs, .cel (L + 1) (some (.ref a.H)), .cel (L + 3) (some (.ref b.Bd)), .cel (L + 4) (some (.ref b.W)), .ins b.W b.dW 292 (simF a.N b.Od b.Sd b.Vd b.Ld), .ins a.N a.dN 160 (netF (.str (S "m")) n a.I a.O a.Cl), .lst a.I (inV a.Ia a.Ib), .lst a.Ia (na.map .int), .lst a.Ib (nb.map .int), .lst a.O [.tup [.str (S "y"), .ref b.Y]], .lst a.Cl ((cellsOf early gs sts).map Row.v), .lst a.Rw (gs.map Row.v), .lst b.Se (seen.map .int), .lst b.Y (seen.map .int), .lst b.Od (R.map fun (i : Nat) => .int i), .lst b.Sd ((stIdx (cellsOf early gs sts)).map fun (i : Nat) => .int i), .lst b.Vd (tab n B), .dic c.prog c.w b.Ld nl g, .dic c.prog c.w b.Bd nf f, .dic c.prog c.w b.Kd nk ck], ?_, ?_, ?_⟩
      case qs2 => tb_start
      case hl2 => rw [List.length_map]; (first | lia | omega)
      · exact ⟨_, .cons (by tb_start) (.cons (by tb_start) (.cons (by tb_start) (.cons (by tb_start) (.cons (by tb_start) (.cons (by tb_start) (.cons (by tb_start) (.cons (by tb_start) (.cons (by tb_start) (.cons (by tb_start) (.cons (by tb_start) (.cons (by tb_start) (.cons (by tb_start) (.cons (by tb_start) (.cons (by tb_start) (.cons (by tb_start) (.cons (by tb_start) (.cons (by tb_start) (.cons (by tb_start) (.cons (by tb_start) (.cons (by tb_start) (.nil _))))))))))))))))))))), rfl, rfl⟩
      · rintro i v us led Cf hv KE hKE ⟨rfl, rfl⟩
        refine comp_in o (by kernel_rfl) fun oc => ?_
        rw [List.getElem?_map, Option.map_eq_some_iff] at hv
        obtain ⟨s, hx, rfl⟩ := hv
        have hi := (List.getElem?_eq_some_iff.mp hx).1
        have hfo : f s.out = some (.int (B s.out)) := hR _ (pl.st s (List.mem_of_getElem? hx)).1.ho
        obtain ⟨fl, ou, fi, dd, sn, rn, ed, nm, ini⟩ := s
        have hfo : f ou = some (.int (B ou)) := hfo
        cases fl
        · rw [show (StC.mk false ou fi dd sn rn ed nm ini).row.v = .tup [.str (S "latch"), .int ou, .tup [.int fi, .int dd, .int sn, .int rn], .tup [.str nm, .int ini]] from rfl]
          repeat tb_rel
          refine ⟨⟨_, rfl⟩, _, SubP.refl _, ?_, rfl⟩
          rw [take_snoc hx, List.map_append]; rfl
        · rw [show (StC.mk true ou fi dd sn rn ed nm ini).row.v = .tup [.str (S "flop"), .int ou, .tup [.int fi, .int dd, .int sn, .int rn], .tup [.int ed, .str nm, .int ini]] from rfl]
          repeat tb_rel
          refine ⟨⟨_, rfl⟩, _, SubP.refl _, ?_, rfl⟩
          rw [take_snoc hx, List.map_append]; rfl
      · rintro us led ⟨rfl, rfl⟩ C2
        rw [List.length_map, List.take_of_length_le (Nat.le_refl _)]
        repeat tb_rel
        rw [show (sts.map fun s => V.int (B s.out)) = (sts.map fun s => B s.out).map V.int by rw [List.map_map]; rfl]
        refine p_neL (ns := sts.map fun s => B s.out) (ms := sts.map fun s => B s.out) (by tb_start) (by tb_start) (by have := o.un; show _ < 9900; (first | lia | omega)) ?_
        rw [decide_eq_true (rfl : (sts.map fun s => B s.out) = sts.map fun s => B s.out), Bool.not_true]
        repeat tb_rel
        refine SP.sub ?_ (hK { u with seen := some (.ref b.Se), clocks := some (.ref b.Kd), entire := some (.int (rowNo (seen.map B))) } rfl rfl)
        exact .cons (by tb_start) (.cons (by tb_start) (.cons (by tb_start) (.cons (by tb_start) (.cons (by tb_start) (.cons (by tb_start) (.cons (by tb_start) (.cons (by tb_start) (.cons (by tb_start) (.cons (by tb_start) (.cons (by tb_start) (.cons (by tb_start) (.cons (by tb_start) (.cons (by tb_start) (.cons (by tb_start) (.cons (by tb_start) (.cons (by tb_start) (.cons (by tb_start) (.cons (by tb_start) (.cons (by tb_start) (.cons (by tb_start) (.nil _)))))))))))))))))))))
end
theorem outs_eq {n : Nat} {outs : List Int} {ks : List Bool} {sts : List StC} (hl : sts.length = outs.length) (h : SOk n outs ks sts) : sts.map StC.out = outs := by
  apply List.ext_getElem?
  intro i
  rw [List.getElem?_map]
  cases q : sts[i]? with
  | none =>
    rw [List.getElem?_eq_none_iff] at q
    rw [List.getElem?_eq_none (by (first | lia | omega))]; rfl
  | some s => rw [(h i s q).2.1]; rfl
theorem gouts_eq {n : Nat} {gs : List Row} (h : GOk n gs) : gs.map Row.out = (List.range gs.length).map fun (i : Nat) => (n : Int) + i := by
  apply List.ext_getElem?
  intro i
  rw [List.getElem?_map, List.getElem?_map]
  cases q : gs[i]? with
  | none =>
    rw [List.getElem?_eq_none_iff] at q
    rw [List.getElem?_eq_none (by simpa using q)]; rfl
  | some r =>
    rw [List.getElem?_range (List.getElem?_eq_some_iff.mp q).1]
    show some r.out = some ((n : Int) + i)
    rw [(h i r q).2.2.2.1]
theorem topo_gs {n : Nat} {gs : List Row} (h : GOk n gs) : Topo gs := topo_of_idx fun i j r r' hi hj hij x hx => by
  have h1 := (h i r hi).2.2.2.2 x hx
  have h2 := (h j r' hj).2.2.2.1
  (first | lia | omega)
theorem plain_mk {n0 gates : Nat} {na nb outs : List Int} {ks : List Bool} {gs : List Row} {sts : List StC} (early : Bool) (b : Base0 na nb outs n0) (hg : gs.length = gates) (hgt : gates ≤ 6) (hgs : GOk n0 gs) (hsl : sts.length = outs.length) (hso : SOk (n0 + gates) outs ks sts) : Plain (n0 + gates) na nb early gs sts := by
  have eo := outs_eq hsl hso
  have eg := gouts_eq hgs
  have dom : ∀ x : Int, 0 ≤ x → x < n0 → Dom0 na nb sts x := fun x h0 h1 => by
    by_cases e0 : x = 0
    · exact .inl e0
    · by_cases e1 : x = 1
      · exact .inr (.inl e1)
      · have := b.cov x.toNat (by (first | lia | omega)) (by (first | lia | omega))
        rw [Int.toNat_of_nonneg h0] at this
        rcases List.mem_append.mp this with q | q
        · exact .inr (.inr (.inl q))
        · rw [← eo] at q
          obtain ⟨s, hs, e⟩ := List.mem_map.mp q
          exact .inr (.inr (.inr ⟨s, hs, e⟩))
  have gat : ∀ x : Int, (n0 : Int) ≤ x → x < n0 + gates → ∃ r, gs[(x - n0).toNat]? = some r ∧ r.out = x := fun x h0 h1 => by
    have hl : (x - n0).toNat < gs.length := by (first | lia | omega)
    refine ⟨gs[(x - n0).toNat], List.getElem?_eq_getElem hl, ?_⟩
    rw [(hgs _ _ (List.getElem?_eq_getElem hl)).2.2.2.1]
    (first | lia | omega)
  have hb := b.n0
  refine ⟨by (first | lia | omega), b.la, b.lb, by (first | lia | omega), by have := b.lo; (first | lia | omega), fun s hs => ?_, fun x hx => ?_, fun r hr => ?_, fun j r hj x hx => ?_, fun x h0 h1 => ?_, ?_, fun i s hi => (hso i s hi).2.2.2⟩
  · obtain ⟨i, hi⟩ := List.getElem?_of_mem hs
    have h := hso i s hi
    refine ⟨h.1, ?_⟩
    exact (b.rg s.out (List.mem_append_right _ (List.mem_of_getElem? h.2.1))).1
  · have := b.rg x (List.mem_append_left _ hx)
    (first | lia | omega)
  · obtain ⟨i, hi⟩ := List.getElem?_of_mem hr
    have hil := (List.getElem?_eq_some_iff.mp hi).1
    obtain ⟨h1, h2, h3, h4, h5⟩ := hgs i r hi
    refine ⟨h1, h2, h3, fun x hx => ?_, ?_⟩
    · have := h5 x hx; (first | lia | omega)
    · rw [h4]; (first | lia | omega)
  · have hil := (List.getElem?_eq_some_iff.mp hj).1
    have h := (hgs j r hj).2.2.2.2 x hx
    by_cases e : x < n0
    · exact .inl (dom x h.1 e)
    · obtain ⟨r', hr', e'⟩ := gat x (by (first | lia | omega)) (by (first | lia | omega))
      refine .inr ⟨r', ?_, e'⟩
      refine List.mem_of_getElem? (i := (x - n0).toNat) ?_
      rw [List.getElem?_take, if_pos (by (first | lia | omega))]
      exact hr'
  · by_cases e : x < n0
    · exact .inl (dom x h0 e)
    · obtain ⟨r', hr', e'⟩ := gat x (by (first | lia | omega)) (by (first | lia | omega))
      exact .inr ⟨r', List.mem_of_getElem? hr', e'⟩
  · have hgn : (gs.map Row.out).Nodup := by
      rw [eg]
      rw [List.Nodup, List.pairwise_map]
      exact List.nodup_range.imp fun h e => h (by (first | lia | omega))
    have hnd : (([0, 1] ++ na ++ nb ++ outs) ++ gs.map Row.out).Nodup := by
      refine List.nodup_append.mpr ⟨b.nd, hgn, fun x hx y hy e => ?_⟩
      have hx' : x < n0 := by
        rcases List.mem_append.mp hx with hx | hx
        · rcases List.mem_append.mp hx with hx | hx
          · rcases List.mem_append.mp hx with hx | hx
            · rcases List.mem_cons.mp hx with rfl | hx
              · (first | lia | omega)
              · rw [List.mem_singleton.mp hx]; (first | lia | omega)
            · exact (b.rg x (List.mem_append_left _ (List.mem_append_left _ hx))).2
          · exact (b.rg x (List.mem_append_left _ (List.mem_append_right _ hx))).2
        · exact (b.rg x (List.mem_append_right _ hx)).2
      rw [eg] at hy
      obtain ⟨i, _, hi⟩ := List.mem_map.mp hy
      (first | lia | omega)
    have ec : (cellsOf early gs sts).map Row.out = if early then outs ++ gs.map Row.out else gs.map Row.out ++ outs := by
      have es : (sts.map StC.row).map Row.out = outs := by rw [List.map_map]; exact eo
      cases early
      · show (gs ++ sts.map StC.row).map Row.out = _
        rw [List.map_append, es]; rfl
      · show (sts.map StC.row ++ gs).map Row.out = _
        rw [List.map_append, es]; rfl
    rw [ec]
    cases early
    · show ([0, 1] ++ na ++ nb ++ (gs.map Row.out ++ outs)).Nodup
      rw [List.append_assoc] at hnd
      exact (List.Perm.append_left _ List.perm_append_comm).nodup_iff.mp hnd
    · show ([0, 1] ++ na ++ nb ++ (outs ++ gs.map Row.out)).Nodup
      rw [← List.append_assoc]; exact hnd
section
variable {c : Cx} {m : Loc} {led : List As} {P : Params} {k : Nat}
theorem segI {fa L : Addr} {cd : Value} (lw : LL L) (o : Ok (c.deep (lawEnv L fa cd)) (Kt P) (k + 1 + 1 + 1 + 1 + 1)) (hfr : c.A.frames = some []) {Sp : Addr} {a : LA} {b : LB} {cs : List Int} {n : Nat} {na nb seen : List Int} {early : Bool} {gates : Nat} {u : LU} {gs : List Row} {sts : List StC} {R : List Nat} {nf nk nl : Nat} {f ck g : Int → Option V} {p : Sta} {lo : Nat → Option Int}
    (pl : Plain n na nb early gs sts) (hsim : SimOk n (cellsOf early gs sts) gs R) (hi : Inv n (cellsOf early gs sts) sts p f ck g lo nl) (hnf : nf ≤ 20) (hnk : nk ≤ 20) (hsl5 : seen.length ≤ 5) (hseen : ∀ x ∈ seen, 0 ≤ x ∧ x < (n : Int))
    (hu : u.seen = some (.ref b.Se)) (huk : u.clocks = some (.ref b.Kd)) :
    SX (c.deep (lawEnv L fa cd)) (lawM Sp a early gates u) (lawG (c.deep (lawEnv L fa cd)) L a b cs n na nb seen (cellsOf early gs sts) gs sts R p.1 nl g nf nk f ck) (lawSeg 23 2) (Ret fun v _ => v = .bool true) := by
  refine s_cons ?_
  repeat tb_rel
  refine Calls.same (pick_ok (P := P) (k := k + 1 + 1 + 1 + 1) o (by decide) (by decide)) (.cons (by tb_start) .nil) ?_
  rintro v' ⟨d, rfl, d0, d1⟩
  repeat tb_rel
  refine' ⟨_, _, _, .rng (by (first | lia | omega)) (by (first | lia | omega)), fun i m led => X7 fun (u : LU) (p : Sta) (f ck g : Int → Option V) (lo : Nat → Option Int) (nl : Nat) => Cj5 (u.seen = some (.ref b.Se)) (u.clocks = some (.ref b.Kd)) (Inv n (cellsOf early gs sts) sts p f ck g lo nl) (m = lawM Sp a early gates u) (led = lawG (c.deep (lawEnv L fa cd)) L a b cs n na nb seen (cellsOf early gs sts) gs sts R p.1 nl g nf nk f ck), ?_, ?_, ?_⟩
  · exact ⟨_, SubP.refl _, u, p, f, ck, g, lo, nl, hu, huk, hi, rfl, rfl⟩
  · rintro i v m led hv KX1 KX2 hX1 hX2 ⟨u, p, f, ck, g, lo, nl, hu, huk, hi, rfl, rfl⟩
    refine' a_name ?hk ?_; (case hk => rfl)
    refine ⟨_, by tb_start, ?_⟩
    refine segH1 (u := { u with us := some v }) (k := k) lw o pl hu huk hi.hB hi.hR hnf ?_
    intro u B f hu huk hB hR
    refine segH2 (k := k) lw o hu huk ?_
    intro u most hu huk hum hmost
    refine segH3 (k := k) (p := (B, p.2)) lw o pl hB hR hi.hK hnf hnk hu huk hum hmost ?_
    intro u f ck q r hu huk hum hur hall hq hR hKq
    refine segH4 (k := k) (p := (B, p.2)) (q := q) (lo := lo) lw o hfr pl hsim hB hi.hL hi.hlk hi.hnl hR hKq hall hq hu huk hum hur hmost (fun m led => hX2 _ _ _ ⟨_, SubP.refl _, rfl⟩) ?_
    intro u p f ck g lo nl r hu huk hum hur hrm hi
    refine segH5 (k := k) lw o pl hi.hB hi.hR hsl5 hseen hu huk hum hur hrm ?_
    intro u hu huk
    refine s_nil ?_
    refine hX1 _ _ ?_
    exact ⟨_, SubP.refl _, u, p, f, ck, g, lo, nl, hu, huk, hi, rfl, rfl⟩
  · rintro m led ⟨u, p, f, ck, g, lo, nl, hu, huk, hi, rfl, rfl⟩
    refine then_next ?_
    refine s_cons ?_
    repeat tb_rel
    exact ⟨_, SubP.refl _, rfl⟩
end
section
variable {c : Cx} {m : Loc} {led : List As} {P : Params} {k : Nat}
theorem body_split : bodyOf (nth top 28) = lawSeg 0 11 ++ (lawSeg 11 1 ++ (lawSeg 12 1 ++ (lawSeg 13 1 ++ (lawSeg 14 2 ++ (lawSeg 16 6 ++ (lawSeg 22 1 ++ lawSeg 23 2)))))) := by kernel_rfl
theorem law_body {fa L : Addr} {cd : Value} (o : Ok (c.deep (lawEnv L fa cd)) (Kt P) (k + 1 + 1 + 1 + 1 + 1)) (hfr : c.A.frames = some []) {Sp : Addr} {items : Array Value} {ns : List Int} (hb : c.h₀.IsList Sp items) (hi0 : IntsAre items.toList ns) (hz : ns.length ≤ 10000) :
    SX (c.deep (lawEnv L fa cd)) (lawM0 Sp) [.cel (L + 1) none, .cel (L + 2) none, .cel (L + 3) none, .cel (L + 4) none] (bodyOf (nth top 28)) (Ret fun v _ => v = .bool true) := by
  have lw : LL L := ⟨trivial⟩
  rw [body_split]
  refine segA (k := k) lw o hb hi0 hz ?_
  intro a cs n0 na nb outs ks early gates hb0 hks hgt
  refine segB (k := k) (u := ⟨none, none, none, none, none, none, none, none, none, none, none, none, none, none, none, none, none, none, none, none⟩) lw o hb0 hgt ?_
  intro gs pool u hgl hgs hpool
  refine segC (k := k) (n := n0 + gates) lw o hb0 (by (first | lia | omega)) hks (by (first | lia | omega)) hpool ?_
  intro sts u hsl hso
  have pl := plain_mk early hb0 hgl hgt hgs hsl hso
  have ht := topo_gs hgs
  refine segD (k := k) lw o hgl (by (first | lia | omega)) pl.sl ?_
  intro a
  refine segE (k := k) lw o hpool ?_
  intro Se Y seen u hu hsl5 hseen
  refine segF (k := k) lw o hu pl ?_
  intro Bd Kd u nf nk f ck hu huk hnf hnk hR hKq
  refine segG (k := k) lw o pl ht ?_
  intro W dW Od Sd Vd Ld R nl g hnl hsim hL
  have hB : Bits (evalRows (initB sts) gs) := (initB_bits fun s hs => (pl.st s hs).1.hi).rows gs
  have hnd2 : (sts.map StC.out).Nodup := by
    have h1 := (List.nodup_append.mp pl.nd).2.1
    unfold cellsOf at h1
    split at h1
    · rw [List.map_append, List.map_map] at h1
      exact (List.nodup_append.mp h1).1
    · rw [List.map_append, List.map_map] at h1
      exact (List.nodup_append.mp h1).2.1
  exact segI (k := k) (b := ⟨Se, Y, Bd, Kd, W, dW, Od, Sd, Vd, Ld⟩) (p := (evalRows (initB sts) gs, setOuts (fun _ => 0) (lawK sts (evalRows (initB sts) gs)))) lw o hfr pl hsim ⟨hB, hR, hKq, hL, lk_next hB hnd2, by (first | lia | omega)⟩ hnf hnk hsl5 hseen hu huk
end
theorem law_names : ∀ x ∈ (lawM0 0).map (·.1), ((scopeOf (nth top 28)).names.lookup x) = some .local := by
  have q : ((lawM0 0).map (·.1)).all (fun x => decide ((scopeOf (nth top 28)).names.lookup x = some .local)) = true := by decide +kernel
  exact fun x hx => by have := List.all_eq_true.mp q x hx; simpa using this
theorem mem_lk {a : Addr} {o : Obj} : ∀ {l : List (Addr × Obj)}, l.lookup a = some o → (a, o) ∈ l
  | [], h => by cases h
  | (b, x) :: r, h => by
    rw [List.lookup_cons] at h
    split at h
    · rename_i q; cases h; rw [beq_iff_eq.mp q]; exact .head _
    · exact .tail _ (mem_lk h)
theorem kt_in {P : Params} {H : PySem.W.Frag} {h : Heap} (KX : H.In h) (all : ∀ p ∈ Kt P, H.lookup p.1 = some p.2) : (Kt P).In h := fun a o e => KX a o (all (a, o) (mem_lk e))
theorem law_end {prog : Program} {w : World} {A0 : Around} {fa : Addr} {cd : Value} {h0 h1 : Heap} {g : Array GenState} {d : Drawn} {os : OsState} {tk : Nat} {Sp : Addr} {items : Array Value} {ns : List Int} {mv : PySem.Str → Option Value} {Q : Flow → Shared → Prop} {E : Value → Shared → Prop}
    (X : (Kt w.params).In h0) (hh : A0.handled = none) (dp : A0.depth + 10 ≤ 990) (un : A0.units + 40 ≤ 8000) (nl : h0.NoLimit) (bt : ∃ mb, h0.Ns builtinsNs mb ∧ ∀ x : PySem.Str, x ≠ "__name__" → mb x = bootBuiltins x) (hfr : A0.frames = some [])
    (F : Fr h0 h0.objs.size h1 mv) (hmv : mv = fun y => if y = S "script" then some (.ref Sp) else none)
    (c1 : h1.IsCell (h0.objs.size + 1) none) (c2 : h1.IsCell (h0.objs.size + 2) none) (c3 : h1.IsCell (h0.objs.size + 3) none) (c4 : h1.IsCell (h0.objs.size + 4) none)
    (hb : h0.IsList Sp items) (hi : IntsAre items.toList ns) (hz : ns.length ≤ 10000)
    (hQ : ∀ h' tk' mv', Fr h0 h0.objs.size h' mv' → Q (.ret (.bool true)) ⟨h', g, d, tk', os⟩) :
    wpAny (model prog w) (A0.deeper (lawEnv h0.objs.size fa cd)) (execs (bodyOf (nth top 28)) (lawEnv h0.objs.size fa cd)) Q E ⟨h1, g, d, tk, os⟩ := by
  have hs : mv (S "script") = some (.ref Sp) := by rw [hmv]; exact if_pos rfl
  have hno : ∀ y, y ≠ S "script" → mv y = none := fun y hy => by rw [hmv]; exact if_neg hy
  clear hmv
  have o : Ok (Cx.deep ⟨prog, w, A0, lawEnv h0.objs.size fa cd, h0, [], g, d, os⟩ (lawEnv h0.objs.size fa cd)) (Kt w.params) (0 + 1 + 1 + 1 + 1 + 1) :=
    ⟨X, hh, by show A0.depth + 1 + 5 ≤ 990; (first | lia | omega), by show A0.units + 3 + 4 * 5 ≤ 8000; (first | lia | omega), nl, bt, rfl, rfl, by kernel_rfl, .inr trivial⟩
  have hge : ∀ a, h0.objs.size ≤ a → h0.get? a = none := fun a e => get_none_of_ge e
  have st : St (Cx.deep ⟨prog, w, A0, lawEnv h0.objs.size fa cd, h0, [], g, d, os⟩ (lawEnv h0.objs.size fa cd)) (lawM0 Sp) [.cel (h0.objs.size + 1) none, .cel (h0.objs.size + 2) none, .cel (h0.objs.size + 3) none, .cel (h0.objs.size + 4) none] ⟨h0, [], []⟩ h1 := by
    refine ⟨⟨mv, F.ns, fun y => ?_⟩, ?_, fun x hx => law_names x hx, F.keep, Nat.le_refl _, fun b ob _ _ e => F.keep b ob e, ?_, fun x hx => ?_, fun a ha => ?_, fun p hp => nomatch hp⟩
    · by_cases e : y = S "script"
      · subst e
        rw [hs]
        exact VR.r (h := h1)
      · rw [hno y e]
        have : look (lawM0 Sp) y = none := by
          unfold look lawM0
          rw [List.lookup_cons, beq_eq_false_iff_ne.mpr e]
          cases q : List.lookup y [(S "cells", (none : Option V)), (S "net", none), (S "given", none), (S "outs", none), (S "rows", none), (S "states", none), (S "early", none), (S "kinds", none), (S "gates", none), (S "spot", none), (S "kind", none), (S "wide", none), (S "param", none), (S "ins", none), (S "out", none), (S "first", none), (S "init", none), (S "seen", none), (S "one", none), (S "clocks", none), (S "_", none), (S "which", none), (S "name", none), (S "entire", none), (S "port", none), (S "nets", none), (S "step", none), (S "most", none), (S "rounds", none)] with
          | none => rfl
          | some z =>
            have hm := PySem.mem_of_lookup q
            simp only [List.mem_cons, Prod.mk.injEq, List.not_mem_nil, or_false] at hm
            have : z = none := by
              rcases hm with h | h | h | h | h | h | h | h | h | h | h | h | h | h | h | h | h | h | h | h | h | h | h | h | h | h | h | h | h <;> exact h.2
            rw [this]; rfl
        rw [this]; trivial
    · have q : decide (((lawM0 0).map (·.1)).Nodup) = true := by decide +kernel
      exact of_decide_eq_true q
    · show (h0.objs.size :: [h0.objs.size + 1, h0.objs.size + 2, h0.objs.size + 3, h0.objs.size + 4]).Nodup
      simp
    · simp only [List.mem_cons, List.not_mem_nil, or_false] at hx
      rcases hx with rfl | rfl | rfl | rfl
      · exact ⟨none, c1, trivial⟩
      · exact ⟨none, c2, trivial⟩
      · exact ⟨none, c3, trivial⟩
      · exact ⟨none, c4, trivial⟩
    · have ha : a ∈ [h0.objs.size + 1, h0.objs.size + 2, h0.objs.size + 3, h0.objs.size + 4] := ha
      have : h0.objs.size ≤ a := by
        simp only [List.mem_cons, List.not_mem_nil, or_false] at ha
        rcases ha with rfl | rfl | rfl | rfl <;> exact Nat.le_add_right _ _
      exact ⟨hge a this, .inl (hge a this)⟩
  have run := law_body (k := 0) (P := w.params) (c := ⟨prog, w, A0, lawEnv h0.objs.size fa cd, h0, [], g, d, os⟩) o hfr hb hi hz ⟨h0, [], []⟩ h1 tk st
  refine wpAny_mono run (fun f s' zz => Post.go zz fun fl h' tk' m' led' e s3 rf kk => ?_) fun _ _ x => x.elim
  subst e
  obtain ⟨mv', hF, _⟩ := s3.fr
  cases fl with
  | ret v =>
    obtain ⟨led2, sp, rfl⟩ := kk
    obtain ⟨y, rfl, hy⟩ := rf
    rw [hy.bo]
    exact hQ h' tk' mv' hF
  | next => obtain ⟨led2, sp, kk⟩ := kk; cases kk
  | brk => exact kk.elim
  | cont => exact kk.elim
end NSim
noncomputable def NSim.tp.tw5092040705789572220 : Unit := ()
noncomputable def NSim.tp.tw14064413932049935258 : Unit := ()
noncomputable def NSim.tp.tw8986538400851754296 : Unit := ()
noncomputable def NSim.tp.tw12539491183190682940 : Unit := ()
noncomputable def NSim.tp.tw1794627132745463793 : Unit := ()
noncomputable def NSim.tp.tw12496906862531036937 : Unit := ()
noncomputable def NSim.tp.tw12591832296387704234 : Unit := ()
noncomputable def NSim.tp.tw9215617377917235361 : Unit := ()
noncomputable def NSim.tp.tw14368881752461783924 : Unit := ()
noncomputable def NSim.tp.tw14475361729191416914 : Unit := ()
noncomputable def NSim.tp.tw8972242022258634421 : Unit := ()
noncomputable def NSim.tp.tw10627884574653981671 : Unit := ()
noncomputable def NSim.tp.tw12242538233383706794 : Unit := ()
noncomputable def NSim.tp.tw1985371447108822268 : Unit := ()
noncomputable def NSim.tp.tw3987826263219396169 : Unit := ()
noncomputable def NSim.tp.tw18403502987249888565 : Unit := ()
noncomputable def NSim.tp.tw2091583567145063326 : Unit := ()
noncomputable def NSim.tp.tw3412317270172515547 : Unit := ()
noncomputable def NSim.tp.tw14924210592502323387 : Unit := ()
noncomputable def NSim.tp.tw2850453888525432929 : Unit := ()
noncomputable def NSim.tp.tw585427809663061670 : Unit := ()
noncomputable def NSim.tp.tw4714602413244954161 : Unit := ()
noncomputable def NSim.tp.tw1576792551728146572 : Unit := ()
noncomputable def NSim.tp.tw4347740253003150741 : Unit := ()
noncomputable def NSim.tp.tw16119583157336644431 : Unit := ()
noncomputable def NSim.tp.tw16181808747886884161 : Unit := ()
noncomputable def NSim.tp.tw15166855396624192488 : Unit := ()
noncomputable def NSim.tp.tw7362378409210487812 : Unit := ()
noncomputable def NSim.tp.tw7106178355929952142 : Unit := ()
noncomputable def NSim.tp.tw17078142610799588464 : Unit := ()
noncomputable def NSim.tp.tw16142166759135032567 : Unit := ()
noncomputable def NSim.tp.tw15568909061545408493 : Unit := ()
noncomputable def NSim.tp.tw13874357169805021015 : Unit := ()
noncomputable def NSim.tp.tw4072220052292907022 : Unit := ()
noncomputable def NSim.tp.tw8349796650670294883 : Unit := ()
noncomputable def NSim.tp.tw2678591026852453568 : Unit := ()
noncomputable def NSim.tp.tw9511267199599529729 : Unit := ()
noncomputable def NSim.tp.tw4232583273443423871 : Unit := ()
noncomputable def NSim.tp.tw7533969473126431934 : Unit := ()
noncomputable def NSim.tp.tw15623266946769748859 : Unit := ()
noncomputable def NSim.tp.tw8212650895228850696 : Unit := ()
noncomputable def NSim.tp.tw9917144011995625656 : Unit := ()
noncomputable def NSim.tp.tw13499265272587160296 : Unit := ()
noncomputable def NSim.tp.tw1591052554890682107 : Unit := ()
noncomputable def NSim.tp.tw2020915995862857297 : Unit := ()
noncomputable def NSim.tp.tw5464187068257343324 : Unit := ()
noncomputable def NSim.tp.tw17891180637492281663 : Unit := ()
noncomputable def NSim.tp.tw11653291734992764035 : Unit := ()
noncomputable def NSim.tp.tw6333379762548636548 : Unit := ()
noncomputable def NSim.tp.tw14835815980444162994 : Unit := ()
noncomputable def NSim.tp.tw8860160644350794376 : Unit := ()
noncomputable def NSim.tp.tw15511180247721313511 : Unit := ()
noncomputable def NSim.tp.tw2270378822542423080 : Unit := ()
noncomputable def NSim.tp.tw5713807073764213414 : Unit := ()
noncomputable def NSim.tp.tw3763209351221459440 : Unit := ()
noncomputable def NSim.tp.tw47779895133611959 : Unit := ()
noncomputable def NSim.tp.tw1511246322908115269 : Unit := ()
noncomputable def NSim.tp.tw548130665605849294 : Unit := ()
noncomputable def NSim.tp.tw4748774777973016401 : Unit := ()
noncomputable def NSim.tp.tw4842269657691463614 : Unit := ()
noncomputable def NSim.tp.tw9139781404317651181 : Unit := ()
noncomputable def NSim.tp.tw5399859691077120770 : Unit := ()
noncomputable def NSim.tp.tw7438403620565041557 : Unit := ()
noncomputable def NSim.tp.tw13805183992055774144 : Unit := ()
noncomputable def NSim.tp.tw14180101180891564738 : Unit := ()
noncomputable def NSim.tp.tw4407616573338539508 : Unit := ()
noncomputable def NSim.tp.tw13906848227539443635 : Unit := ()
noncomputable def NSim.tp.tw12979230563987158280 : Unit := ()
noncomputable def NSim.tp.tw3987636662545581096 : Unit := ()
noncomputable def NSim.tp.tw10765181568608904846 : Unit := ()
noncomputable def NSim.tp.tw18061615149828406973 : Unit := ()
noncomputable def NSim.tp.tw14198543639602050539 : Unit := ()
noncomputable def NSim.tp.tw1882725860109792483 : Unit := ()
noncomputable def NSim.tp.tw3430258194219030980 : Unit := ()
noncomputable def NSim.tp.tw17355422264560626326 : Unit := ()
noncomputable def NSim.tp.tw16738398749049888855 : Unit := ()
noncomputable def NSim.tp.tw12121269396325459289 : Unit := ()
noncomputable def NSim.tp.tw5046311610835028711 : Unit := ()
noncomputable def NSim.tp.tw17856317741888941740 : Unit := ()
noncomputable def NSim.tp.tw15877111044845769686 : Unit := ()
noncomputable def NSim.tp.tw10286662817451516196 : Unit := ()
noncomputable def NSim.tp.tw906958595416346345 : Unit := ()
noncomputable def NSim.tp.tw13875513030194446551 : Unit := ()
noncomputable def NSim.tp.tw17434069015730443792 : Unit := ()
noncomputable def NSim.tp.tw9779485648208323206 : Unit := ()
noncomputable def NSim.tp.tw16680126452560223412 : Unit := ()
noncomputable def NSim.tp.tw2752507923336904619 : Unit := ()
noncomputable def NSim.tp.tw2161811776904004879 : Unit := ()
noncomputable def NSim.tp.tw4224900235582339076 : Unit := ()
noncomputable def NSim.tp.tw3085768359403553614 : Unit := ()
noncomputable def NSim.tp.tw6207323748864013671 : Unit := ()
noncomputable def NSim.tp.tw14192954885675221709 : Unit := ()
noncomputable def NSim.tp.tw10650642647301897060 : Unit := ()
noncomputable def NSim.tp.tw10733155400837835831 : Unit := ()
noncomputable def NSim.tp.tw16233249062691219861 : Unit := ()
noncomputable def NSim.tp.tw2117808773876851677 : Unit := ()
noncomputable def NSim.tp.tw3374199765492333695 : Unit := ()
noncomputable def NSim.tp.tw10461201031485124242 : Unit := ()
noncomputable def NSim.tp.tw9633850521923166453 : Unit := ()
noncomputable def NSim.tp.tw2566509181766535696 : Unit := ()
noncomputable def NSim.tp.tw5848321636187583217 : Unit := ()
noncomputable def NSim.tp.tw17907323141220835738 : Unit := ()
noncomputable def NSim.tp.tw17897130269124399106 : Unit := ()
noncomputable def NSim.tp.tw1664180207274030482 : Unit := ()
noncomputable def NSim.tp.tw10743361667581923175 : Unit := ()
noncomputable def NSim.tp.tw6397906059919499923 : Unit := ()
noncomputable def NSim.tp.tw733248429005996552 : Unit := ()
noncomputable def NSim.tp.tw16103098215266785157 : Unit := ()
noncomputable def NSim.tp.tw10883440851178439831 : Unit := ()
noncomputable def NSim.tp.tw14638471156860147452 : Unit := ()
noncomputable def NSim.tp.tw12877107975638243227 : Unit := ()
noncomputable def NSim.tp.tw16912959467695128391 : Unit := ()
noncomputable def NSim.tp.tw9158311057785847481 : Unit := ()
noncomputable def NSim.tp.tw16502199845996126175 : Unit := ()
noncomputable def NSim.tp.tw1333065510639675723 : Unit := ()
noncomputable def NSim.tp.tw245024643861705874 : Unit := ()
noncomputable def NSim.tp.tw18367055256392226367 : Unit := ()
noncomputable def NSim.tp.tw8629589337884531010 : Unit := ()
noncomputable def NSim.tp.tw2885031036870298449 : Unit := ()
noncomputable def NSim.tp.tw9717435233675597279 : Unit := ()
noncomputable def NSim.tp.tw13281510762488019699 : Unit := ()
noncomputable def NSim.tp.tw3016952490764252186 : Unit := ()
noncomputable def NSim.tp.tw15066406141008260226 : Unit := ()
noncomputable def NSim.tp.tw1596171172165818629 : Unit := ()
noncomputable def NSim.tp.tw13209838484134836115 : Unit := ()
noncomputable def NSim.tp.tw14796786677318598158 : Unit := ()
noncomputable def NSim.tp.tw14375252642658319038 : Unit := ()
noncomputable def NSim.tp.tw15205946439545026503 : Unit := ()
noncomputable def NSim.tp.tw2705713795117453348 : Unit := ()
noncomputable def NSim.tp.tw14223137132753740343 : Unit := ()
noncomputable def NSim.tp.tw17635273214195951167 : Unit := ()
noncomputable def NSim.tp.tw6325001305349609142 : Unit := ()
noncomputable def NSim.tp.tw10098663479382819489 : Unit := ()
noncomputable def NSim.tp.tw4568123065350143389 : Unit := ()
noncomputable def NSim.tp.tw5841919783681162658 : Unit := ()
noncomputable def NSim.tp.tw8448928086831817935 : Unit := ()
noncomputable def NSim.tp.tw4798478112243379852 : Unit := ()
noncomputable def NSim.tp.tw3246322120246242721 : Unit := ()
noncomputable def NSim.tp.tw15805941096711198680 : Unit := ()
noncomputable def NSim.tp.tw11396458157518360898 : Unit := ()
noncomputable def NSim.tp.tw16654091393157875200 : Unit := ()
noncomputable def NSim.tp.tw2553980279746294992 : Unit := ()
noncomputable def NSim.tp.tw1529029330487343123 : Unit := ()
noncomputable def NSim.tp.tw12073395896526253320 : Unit := ()
noncomputable def NSim.tp.tw17854654007950916637 : Unit := ()
noncomputable def NSim.tp.tw16151625394012818983 : Unit := ()
noncomputable def NSim.tp.tw15204757632724575102 : Unit := ()
noncomputable def NSim.tp.tw9325772319878686671 : Unit := ()
noncomputable def NSim.tp.tw3155285479659544376 : Unit := ()
noncomputable def NSim.tp.tw6149507105520925845 : Unit := ()
noncomputable def NSim.tp.tw3446344896827921658 : Unit := ()
noncomputable def NSim.tp.tw16703427764665866027 : Unit := ()
noncomputable def NSim.tp.tw10465229448123195661 : Unit := ()
noncomputable def NSim.tp.tw8892523801696056882 : Unit := ()
noncomputable def NSim.tp.tw3283790138125842333 : Unit := ()
noncomputable def NSim.tp.tw7977419883964248935 : Unit := ()
noncomputable def NSim.tp.tw8083745317342251399 : Unit := ()
noncomputable def NSim.tp.tw17606779204799338873 : Unit := ()
noncomputable def NSim.tp.tw12193427097365771737 : Unit := ()
noncomputable def NSim.tp.tw10197125019796374688 : Unit := ()
noncomputable def NSim.tp.tw13101734511671472585 : Unit := ()
noncomputable def NSim.tp.tw11031386294422996894 : Unit := ()
noncomputable def NSim.tp.tw2235765806873346093 : Unit := ()
noncomputable def NSim.tp.tw7813259454035763219 : Unit := ()
noncomputable def NSim.tp.tw9752621867073130091 : Unit := ()
noncomputable def NSim.tp.tw4600147515521123287 : Unit := ()
noncomputable def NSim.tp.tw15784391333237599462 : Unit := ()
noncomputable def NSim.tp.tw8302276139521527350 : Unit := ()
noncomputable def NSim.tp.tw6110655233137505180 : Unit := ()
noncomputable def NSim.tp.tw2745604079758041158 : Unit := ()
noncomputable def NSim.tp.tw3642895372869129120 : Unit := ()
noncomputable def NSim.tp.tw10919889495451102443 : Unit := ()
noncomputable def NSim.tp.tw12331373939832085661 : Unit := ()
noncomputable def NSim.tp.tw14045513574685872719 : Unit := ()
noncomputable def NSim.tp.tw5647732922974079853 : Unit := ()
noncomputable def NSim.tp.tw90141995809864759 : Unit := ()
noncomputable def NSim.tp.tw11873581256301231065 : Unit := ()
noncomputable def NSim.tp.tw6374967265024315681 : Unit := ()
noncomputable def NSim.tp.tw5112708938940126888 : Unit := ()
noncomputable def NSim.tp.tw12669014540166179200 : Unit := ()
noncomputable def NSim.tp.tw2048747105614067461 : Unit := ()
noncomputable def NSim.tp.tw14432757346561872774 : Unit := ()
noncomputable def NSim.tp.tw17143045608807377355 : Unit := ()
noncomputable def NSim.tp.tw15469840769181091918 : Unit := ()
noncomputable def NSim.tp.tw16781549030123469430 : Unit := ()
noncomputable def NSim.tp.tw18324705738681810951 : Unit := ()
noncomputable def NSim.tp.tw9081525293933662826 : Unit := ()
noncomputable def NSim.tp.tw3763493887258261046 : Unit := ()
noncomputable def NSim.tp.tw16036551204535372450 : Unit := ()
noncomputable def NSim.tp.tw9772199625005795472 : Unit := ()
noncomputable def NSim.tp.tw4568599288849083631 : Unit := ()
noncomputable def NSim.tp.tw13345277428001779476 : Unit := ()
noncomputable def NSim.tp.tw1721437984282798654 : Unit := ()
noncomputable def NSim.tp.tw12525538867325525446 : Unit := ()
noncomputable def NSim.tp.tw7120341520063686042 : Unit := ()
noncomputable def NSim.tp.tw6997035888416049827 : Unit := ()
noncomputable def NSim.tp.tw10957156252562899966 : Unit := ()
noncomputable def NSim.tp.tw17521859723217751161 : Unit := ()
noncomputable def NSim.tp.tw2369960357254421662 : Unit := ()
noncomputable def NSim.tp.tw3933182560441495074 : Unit := ()
noncomputable def NSim.tp.tw11149981170962718038 : Unit := ()
noncomputable def NSim.tp.tw18335651974397778843 : Unit := ()
noncomputable def NSim.tp.tw8667194654625626020 : Unit := ()
noncomputable def NSim.tp.tw754282958531589280 : Unit := ()
noncomputable def NSim.tp.tw2554311783297197110 : Unit := ()
noncomputable def NSim.tp.tw2589649264669692345 : Unit := ()
noncomputable def NSim.tp.tw1491346051778010671 : Unit := ()
noncomputable def NSim.tp.tw12243960179329747242 : Unit := ()
noncomputable def NSim.tp.tw13081560457798124830 : Unit := ()
noncomputable def NSim.tp.tw4415127051571465833 : Unit := ()
noncomputable def NSim.tp.tw13281082246289271784 : Unit := ()
noncomputable def NSim.tp.tw4991931569671009355 : Unit := ()
noncomputable def NSim.tp.tw10969910343280775883 : Unit := ()
noncomputable def NSim.tp.tw10670046265075747334 : Unit := ()
noncomputable def NSim.tp.tw7230223618718866048 : Unit := ()
noncomputable def NSim.tp.tw17602383191235634434 : Unit := ()
noncomputable def NSim.tp.tw18024797122784412221 : Unit := ()
noncomputable def NSim.tp.tw8009804784180330980 : Unit := ()
noncomputable def NSim.tp.tw7200006347393904375 : Unit := ()
noncomputable def NSim.tp.tw43909779334247009 : Unit := ()
noncomputable def NSim.tp.tw7323407073894783478 : Unit := ()
noncomputable def NSim.tp.tw12775493269307138942 : Unit := ()
noncomputable def NSim.tp.tw3823768291763188191 : Unit := ()
noncomputable def NSim.tp.tw5763889017073033115 : Unit := ()
noncomputable def NSim.tp.tw11094061494424140368 : Unit := ()
noncomputable def NSim.tp.tw12966877371715052860 : Unit := ()
noncomputable def NSim.tp.tw12382598901455925741 : Unit := ()
noncomputable def NSim.tp.tw5016611512595698831 : Unit := ()
noncomputable def NSim.tp.tw3408050537544554088 : Unit := ()
noncomputable def NSim.tp.tw1542945700832569878 : Unit := ()
noncomputable def NSim.tp.tw375574804757261752 : Unit := ()
noncomputable def NSim.tp.tw3543180414073830032 : Unit := ()
noncomputable def NSim.tp.tw11515948163947045164 : Unit := ()
noncomputable def NSim.tp.tw10118309381898140689 : Unit := ()
noncomputable def NSim.tp.tw10590131602093927650 : Unit := ()
noncomputable def NSim.tp.tw5576679472856650156 : Unit := ()
noncomputable def NSim.tp.tw4103408992885113842 : Unit := ()
noncomputable def NSim.tp.tw12308801997129823410 : Unit := ()
noncomputable def NSim.tp.tw16045291282551343924 : Unit := ()
noncomputable def NSim.tp.tw2369602066481686748 : Unit := ()
noncomputable def NSim.tp.tw15517165309061428749 : Unit := ()
noncomputable def NSim.tp.tw14453970973648211376 : Unit := ()
noncomputable def NSim.tp.tw508053648015449397 : Unit := ()
noncomputable def NSim.tp.tw9290418003374115405 : Unit := ()
noncomputable def NSim.tp.tw18427567117040140703 : Unit := ()
noncomputable def NSim.tp.tw5097656476162119603 : Unit := ()
noncomputable def NSim.tp.tw16709363472031413507 : Unit := ()
noncomputable def NSim.tp.tw4873514683840701916 : Unit := ()
noncomputable def NSim.tp.tw6478506176605780685 : Unit := ()
noncomputable def NSim.tp.tw4660829142065275163 : Unit := ()
noncomputable def NSim.tp.tw6000490545249077852 : Unit := ()
noncomputable def NSim.tp.tw15077852784837014950 : Unit := ()
noncomputable def NSim.tp.tw3492820858232759217 : Unit := ()
noncomputable def NSim.tp.tw13063649424345797549 : Unit := ()
noncomputable def NSim.tp.tw3298892493646764532 : Unit := ()
noncomputable def NSim.tp.tw6733799664204766841 : Unit := ()
noncomputable def NSim.tp.tw7191860386736079717 : Unit := ()
noncomputable def NSim.tp.tw7557081336160830473 : Unit := ()
noncomputable def NSim.tp.tw17897611998578559748 : Unit := ()
noncomputable def NSim.tp.tw9873924509416399329 : Unit := ()
noncomputable def NSim.tp.tw16154924011219654778 : Unit := ()
noncomputable def NSim.tp.tw5660906711268065911 : Unit := ()
noncomputable def NSim.tp.tw17965333208157831097 : Unit := ()
noncomputable def NSim.tp.tw12322166757334191396 : Unit := ()
noncomputable def NSim.tp.tw10786877571144140162 : Unit := ()
noncomputable def NSim.tp.tw7338164382936568846 : Unit := ()
noncomputable def NSim.tp.tw8499330919929862204 : Unit := ()
noncomputable def NSim.tp.tw13878340034192360913 : Unit := ()
noncomputable def NSim.tp.tw15667875488937380006 : Unit := ()
noncomputable def NSim.tp.tw13389790371802449430 : Unit := ()
noncomputable def NSim.tp.tw13177795754015869375 : Unit := ()
noncomputable def NSim.tp.tw5899278234048330585 : Unit := ()
noncomputable def NSim.tp.tw4927613968319681325 : Unit := ()
noncomputable def NSim.tp.tw9358197200011985421 : Unit := ()
noncomputable def NSim.tp.tw7877001305484343291 : Unit := ()
noncomputable def NSim.tp.tw9656401014433035355 : Unit := ()
noncomputable def NSim.tp.tw16357921373920361815 : Unit := ()
noncomputable def NSim.tp.tw17551825518696195977 : Unit := ()
noncomputable def NSim.tp.tw934690464766567886 : Unit := ()
noncomputable def NSim.tp.tw17741197628472829263 : Unit := ()
noncomputable def NSim.tp.tw6456344846549446048 : Unit := ()
noncomputable def NSim.tp.tw11885777817151132651 : Unit := ()
noncomputable def NSim.tp.tw6358226902979755571 : Unit := ()
noncomputable def NSim.tp.tw17192299066214286987 : Unit := ()
noncomputable def NSim.tp.tw9120878913156587479 : Unit := ()
noncomputable def NSim.tp.tw12846282208465082336 : Unit := ()
noncomputable def NSim.tp.tw2818348674709308757 : Unit := ()
noncomputable def NSim.tp.tw5541974756642551394 : Unit := ()
noncomputable def NSim.tp.tw4334386085219689863 : Unit := ()
noncomputable def NSim.tp.tw9816589304654787208 : Unit := ()
noncomputable def NSim.tp.tw13369742777393344320 : Unit := ()
noncomputable def NSim.tp.tw18216057789862637261 : Unit := ()
noncomputable def NSim.tp.tw9614621496990390431 : Unit := ()
noncomputable def NSim.tp.tw13834857394072540786 : Unit := ()
noncomputable def NSim.tp.tw14839377174207184762 : Unit := ()
noncomputable def NSim.tp.tw9960320725017468534 : Unit := ()
noncomputable def NSim.tp.tw15070181528388688058 : Unit := ()
noncomputable def NSim.tp.tw16675746744560993771 : Unit := ()
noncomputable def NSim.tp.tw2311563091913448198 : Unit := ()
noncomputable def NSim.tp.tw12210089419314458749 : Unit := ()
noncomputable def NSim.tp.tw10175346248955620986 : Unit := ()
noncomputable def NSim.tp.tw16410517280584070324 : Unit := ()
noncomputable def NSim.tp.tw3462939881343671759 : Unit := ()
noncomputable def NSim.tp.tw8331822364352706582 : Unit := ()
noncomputable def NSim.tp.tw5853245973700862252 : Unit := ()
noncomputable def NSim.tp.tw9809291520123753392 : Unit := ()
noncomputable def NSim.tp.tw13477916216438623215 : Unit := ()
set_option Elab.async true
theorem NSim.tp : PySem.Challenge.rw_nn0318_01.Holds := by
  (w_on; o_law; k_head; (case hw => w_witness2); w_strict (
    k_go0
    rename_i F o4 o3 o2 o1 e4 e3 e2 e1 N0 X0
    rename Top _ _ _ _ _ _ => T
    rename PySem.W.Frag.In _ _ => KX
    rename Heap.IsList _ _ _ => hL
    rename IntsAre _ _ => hI
    rename _ = (#[] : Array GenState) => hg
    rename ¬ _ < _ => hz
    refine' NSim.law_end (NSim.kt_in KX ?hall) rfl ?dp ?un T.nolimit ⟨_, T.b, T.builtins⟩ rfl F ?hmv ⟨_, (N0 _ (.tail _ (.tail _ (.tail _ (.head _))))).1, e1⟩ ⟨_, (N0 _ (.tail _ (.tail _ (.head _)))).1, e2⟩ ⟨_, (N0 _ (.tail _ (.head _))).1, e3⟩ ⟨_, (N0 _ (.head _)).1, e4⟩ hL ?hI ?hz ?hQ
    case hI => exact hI
    case hz => omega
    case dp => decide
    case un => decide
    case hmv => kernel_rfl
    case hall =>
      unfold NSim.Kt
      repeat (refine List.forall_mem_cons.mpr ⟨by kernel_rfl, ?_⟩)
      exact fun _ h => nomatch h
    case hQ =>
      intro h' tk' mv' hF
      exact goodW_bool hF hg (raisesW_false (by wrow_none_raised)) (by wrow_post)))
set_option Elab.async false
theorem PySem.Challenge.cw_nn0318_01_holds : PySem.Challenge.rw_nn0318_01.Holds :=
  NSim.tp
