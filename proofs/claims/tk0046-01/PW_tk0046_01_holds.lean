import PyProof.Rows.All
import Wide.All
import OpenK.AllK
import Wide.FinOn
import Lean
import PySem.Challenge.RW_tk0046_01
open PySem PySem.W PyProof.Rows PySem.Calls
set_option Elab.async false
namespace Mine
set_option maxRecDepth 100000
section
set_option maxHeartbeats 8000000
noncomputable abbrev pw : Program := PySem.Challenge.pw_tk0046_01
/-- the text without its plain assignments -/
noncomputable def vw : Program := { pw with main := { pw.main with body := pw.main.body.filter fun | .Assign .. => false | _ => true } }
theorem said0 : OpenLaw.wellSaid PySem.Challenge.rw_tk0046_01 = true := by
  unfold OpenLaw.wellSaid
  repeat' with_reducible refine look_both ?_ ?_
  unfold OpenRow.wellSaid
  repeat' with_reducible refine look_both ?_ ?_
  unfold OpenRow.partSaid
  repeat' with_reducible refine look_both ?_ ?_
  unfold looksOpen
  repeat' with_reducible refine look_both ?_ ?_
  all_goals decide +kernel
theorem op0 : ∀ w : World, (fencedOpening treeTable pw w 2724).map (fun s => (s.heap, s.gens, s.drawn, s.toks)) = some (boot_heap w.params, Array.mk [], boot_drawn, boot_toks) := boot_open (by kernel_rfl) (by rfl) (fun s => by kernel_rfl)
theorem map3 {α β γ δ : Type} {o : Option α} {f : α → β} {g : α → γ} {h : α → δ} {a : β} {b : γ} {c : δ} (h1 : o.map (fun x => (f x, h x)) = some (a, c)) (h2 : o.map g = some b) : o.map (fun x => (f x, g x, h x)) = some (a, b, c) := by
  cases o with
  | none => cases h1
  | some x => simp only [Option.map_some, Option.some.injEq, Prod.mk.injEq] at h1 h2 ⊢; exact ⟨h1.1, h2, h1.2⟩
theorem left_of {p q : Program} {loose : List Str} {Xt : Shared → Bool} {α : Type} {Yf : Shared → α} {Ya : World → α} {N : Nat} {g0 : Bool} {H₀ : Params → Heap} {gs₀ : Array GenState} {d₀ : Drawn} {k₀ m₀ : Nat} {ann : Option Value}
    (open_ : ∀ w : World, (fencedOpening treeTable p w N).map (fun s => (s.heap, s.gens, s.drawn, s.toks)) = some (H₀ w.params, gs₀, d₀, k₀))
    (size : ∀ w : World, ((H₀ w.params).isNs mainGlobals && gs₀.size == 0, (H₀ w.params).objs.size, (H₀ w.params).nsMap mainGlobals "__annotations__") = (true, m₀, ann))
    (run : ∀ (w : World) (os : OsState), (topRun treeTable p w m₀ ann N ⟨H₀ w.params, gs₀, d₀, k₀, os⟩ (topStub p)).map (fun s => (staticsOk (importedModules p.main.body) (H₀ w.params) s.heap && namesBound p s.heap && gensDone s && laidKept (H₀ w.params) s.heap,
        openSeen q loose (importedModules p.main.body) Xt g0 s, Yf s)) = some (true, openGood q loose, Ya w)) : LeftO p q loose Xt Yf Ya N g0 := fun w => by
  obtain ⟨⟨h, gs, d, k, os⟩, e, e'⟩ := Option.map_eq_some_iff.mp (open_ w)
  obtain ⟨rfl, rfl, rfl, rfl⟩ : h = H₀ w.params ∧ gs = gs₀ ∧ d = d₀ ∧ k = k₀ := by simpa using e'
  obtain ⟨z1, z2, z3⟩ : _ ∧ _ ∧ _ := by simpa only [Prod.mk.injEq] using size w
  obtain ⟨s₁, r, l⟩ := Option.map_eq_some_iff.mp (run w os)
  obtain ⟨l1, l2, l3⟩ : _ ∧ _ ∧ _ := by simpa only [Prod.mk.injEq] using l
  have t : topFrom treeTable p w N ⟨H₀ w.params, gs, d, k, os⟩ = some s₁ := by
    unfold topFrom
    dsimp only
    rw [z1, z2, z3, r]
    show (match staticsOk (importedModules p.main.body) (H₀ w.params) s₁.heap && namesBound p s₁.heap && gensDone s₁ && laidKept (H₀ w.params) s₁.heap with | true => _ | false => _) = _
    rw [l1]
  unfold openEnds
  rw [e]
  show (topFrom treeTable p w N _).map _ = _
  rw [t]
  exact congrArg some (Prod.ext l2 l3)
noncomputable abbrev annW : Option Value := some (.ref 6)
theorem size0 : ∀ w : World, ((boot_heap w.params).isNs mainGlobals && (Array.mk [] : Array GenState).size == 0, (boot_heap w.params).objs.size, (boot_heap w.params).nsMap mainGlobals "__annotations__") = (true, 11, annW) := fun w => by kernel_rfl
noncomputable abbrev runW (w : World) (os : OsState) : Option Shared := topRun treeTable pw w 11 annW 2724 ⟨boot_heap w.params, Array.mk [], boot_drawn, boot_toks, os⟩ (topStub pw)
open Fast in
theorem runB (w : World) (os : OsState) : (runW w os).map (openSeen vw [] (importedModules pw.main.body) (fun s => xlAt vw [] s && recOk (RowW.records (OpenRow.toRowW (OpenLaw.row PySem.Challenge.rw_tk0046_01))) s) true) = some (openGood vw []) := by
  unfold runW; rw [te14082659384304107361, te14364793385576792824, te4187177175401517315]; kernel_rfl
local macro_rules | `(tactic| o_law) => `(tactic| refine holds_law said0 fun said => ?_)
local macro_rules | `(tactic| o_head $H) => `(tactic| (refine holds_open (q := vw) (loose := []) (Xt := fun s => xlAt vw [] s && recOk (RowW.records (OpenRow.toRowW (OpenLaw.row PySem.Challenge.rw_tk0046_01))) s) (XP := XL vw []) (Yf := Hook.obs $H) (Ya := Hook.val $H) (YP := Hook.says $H) (N := 2724) (left_of op0 size0 fun w os => map3 ?hl (runB w os)) (Hook.of $H) (Hook.keeps $H) (fun s e => xl_of s (Bool.and_eq_true_iff.mp e).1) XL.keeps (by rfl) (by rfl) (by rfl) (fun s e => recFacts_of (Bool.and_eq_true_iff.mp e).2) (by rfl) (by assumption) (by decide +kernel) ⟨rfl, rfl, rfl, rfl, rfl, by decide +kernel⟩ ?hw ?hc; (case hl => (rw [Fast.te14082659384304107361, Fast.te14364793385576792824]; kernel_rfl))))
open_top hd for PySem.Challenge.rw_tk0046_01
end
end Mine
set_option maxRecDepth 100000
namespace Mine

/-- a part of the heap, as a partial function -/
abbrev View := Addr → Option Obj
def Sub (G : View) (h : Heap) : Prop := ∀ b o, G b = some o → h.get? b = some o
def VLe (G G' : View) : Prop := ∀ b o, G b = some o → G' b = some o

abbrev tupObj (vs : List Value) (n : Nat) : Obj := { cls := .type "tuple", data := .seq vs.toArray n }
abbrev lstObj (vs : List Value) (n : Nat) : Obj := { cls := .type "list", data := .seq vs.toArray n }

mutual
/-- value v is the datum d, read in the view -/
inductive Is (G : View) : Value → PyData → Prop
  | int (i : Int) (t : Tok) : Is G (.int i t) (.int i)
  | bool (b : Bool) : Is G (.bool b) (.bool b)
  | tuple {a : Addr} {vs : List Value} {n : Nat} {ds : List PyData} : G a = some (tupObj vs n) → IsAll G vs ds → Is G (.ref a) (.tuple ds)
  | list {a : Addr} {vs : List Value} {n : Nat} {ds : List PyData} : G a = some (lstObj vs n) → IsAll G vs ds → Is G (.ref a) (.list ds)
inductive IsAll (G : View) : List Value → List PyData → Prop
  | nil : IsAll G [] []
  | cons {v : Value} {vs : List Value} {d : PyData} {ds : List PyData} : Is G v d → IsAll G vs ds → IsAll G (v :: vs) (d :: ds)
end

mutual
theorem Is.mono {G G' : View} (h : VLe G G') : ∀ {v : Value} {d : PyData}, Is G v d → Is G' v d
  | _, _, .int i t => .int i t
  | _, _, .bool b => .bool b
  | _, _, .tuple ha hr => .tuple (h _ _ ha) (IsAll.mono h hr)
  | _, _, .list ha hr => .list (h _ _ ha) (IsAll.mono h hr)
theorem IsAll.mono {G G' : View} (h : VLe G G') : ∀ {vs : List Value} {ds : List PyData}, IsAll G vs ds → IsAll G' vs ds
  | _, _, .nil => .nil
  | _, _, .cons hd hr => .cons (Is.mono h hd) (IsAll.mono h hr)
end

mutual
theorem Is.reads {G : View} {h : Heap} (hs : Sub G h) : ∀ {v : Value} {d : PyData}, Is G v d → ∃ as, Reads h v d as
  | _, _, .int i t => ⟨_, .int i t⟩
  | _, _, .bool b => ⟨_, .bool b⟩
  | _, _, .tuple ha hr => by
    obtain ⟨as, r⟩ := IsAll.reads hs hr
    exact ⟨_, reads_tuple_at (hs _ _ ha) rfl rfl (by simpa using r)⟩
  | _, _, .list ha hr => by
    obtain ⟨as, r⟩ := IsAll.reads hs hr
    exact ⟨_, reads_list_at (hs _ _ ha) rfl rfl (by simpa using r)⟩
theorem IsAll.reads {G : View} {h : Heap} (hs : Sub G h) : ∀ {vs : List Value} {ds : List PyData}, IsAll G vs ds → ∃ as, ReadsAll h vs ds as
  | _, _, .nil => ⟨_, .nil⟩
  | _, _, .cons hd hr => by
    obtain ⟨as, r⟩ := Is.reads hs hd
    obtain ⟨bs, q⟩ := IsAll.reads hs hr
    exact ⟨_, .cons r q⟩
end

theorem IsAll.length {G : View} : ∀ {vs : List Value} {ds : List PyData}, IsAll G vs ds → vs.length = ds.length
  | _, _, .nil => rfl
  | _, _, .cons _ r => by rw [List.length_cons, List.length_cons, IsAll.length r]
theorem IsAll.get {G : View} : ∀ {vs : List Value} {ds : List PyData}, IsAll G vs ds → ∀ {k : Nat} {d : PyData}, ds[k]? = some d → ∃ v, vs[k]? = some v ∧ Is G v d
  | _, _, .cons h _, 0, _, e => by cases e; exact ⟨_, rfl, h⟩
  | _, _, .cons _ r, k + 1, _, e => IsAll.get r (k := k) (by simpa using e)
theorem IsAll.append {G : View} : ∀ {vs ws : List Value} {ds es : List PyData}, IsAll G vs ds → IsAll G ws es → IsAll G (vs ++ ws) (ds ++ es)
  | _, _, _, _, .nil, k => k
  | _, _, _, _, .cons h r, k => .cons h (IsAll.append r k)
theorem IsAll.take {G : View} : ∀ {vs : List Value} {ds : List PyData}, IsAll G vs ds → ∀ n, IsAll G (vs.take n) (ds.take n)
  | _, _, _, 0 => .nil
  | _, _, .nil, _ + 1 => .nil
  | _, _, .cons h r, n + 1 => .cons h (IsAll.take r n)
theorem IsAll.drop {G : View} : ∀ {vs : List Value} {ds : List PyData}, IsAll G vs ds → ∀ n, IsAll G (vs.drop n) (ds.drop n)
  | _, _, h, 0 => h
  | _, _, .nil, _ + 1 => .nil
  | _, _, .cons _ r, n + 1 => IsAll.drop r n
theorem IsAll.reverse {G : View} : ∀ {vs : List Value} {ds : List PyData}, IsAll G vs ds → IsAll G vs.reverse ds.reverse
  | _, _, .nil => .nil
  | _, _, .cons h r => by rw [List.reverse_cons, List.reverse_cons]; exact IsAll.append (IsAll.reverse r) (.cons h .nil)
theorem IsAll.set {G : View} {v : Value} {d : PyData} (hv : Is G v d) : ∀ {vs : List Value} {ds : List PyData}, IsAll G vs ds → ∀ k, IsAll G (vs.set k v) (ds.set k d)
  | _, _, .nil, _ => .nil
  | _, _, .cons _ r, 0 => .cons hv r
  | _, _, .cons h r, k + 1 => .cons h (IsAll.set hv r k)
theorem IsAll.replicate {G : View} {vs : List Value} {ds : List PyData} (h : IsAll G vs ds) : ∀ n, IsAll G (List.replicate n vs).flatten (List.replicate n ds).flatten
  | 0 => .nil
  | n + 1 => by rw [List.replicate_succ, List.replicate_succ, List.flatten_cons, List.flatten_cons]; exact IsAll.append h (IsAll.replicate h n)

/-- what is said of a value: it is this one, an int, a datum -/
inductive AS where
  | v (x : Value)
  | i (i : Int)
  | d (d : PyData)
def AS.ok (G : View) (u : Value) (e : AS) : Prop :=
  match e with
  | AS.v x => u = x
  | AS.i n => ∃ t, u = .int n t
  | AS.d dd => Is G u dd
theorem AS.ok.mono {G G' : View} (h : VLe G G') {v : Value} {e : AS} (x : e.ok G v) : e.ok G' v := by
  cases e with
  | v _ => exact x
  | i _ => exact x
  | d dd => exact Is.mono h (show Is G v dd from x)
/-- what stands at an address that the frame may change -/
inductive MO where
  | ns (l : List (Str × AS))
  | cell (v : Option Value)
  | list (ds : List PyData)
  | raw (o : Obj)
def MO.at (G : View) (h : Heap) (a : Addr) : MO → Prop
  | .ns l => ∃ m, h.Ns a m ∧ ∀ x e, l.lookup x = some e → ∃ v, m x = some v ∧ e.ok G v
  | .cell v => h.IsCell a v
  | .list ds => ∃ vs n, h.get? a = some (lstObj vs n) ∧ IsAll G vs ds
  | .raw o => h.get? a = some o
theorem MO.at.move {G G' : View} (hg : VLe G G') {h h' : Heap} {a : Addr} {mo : MO} (x : mo.at G h a) (e : ∀ o, h.get? a = some o → h'.get? a = some o) : mo.at G' h' a := by
  cases mo with
  | ns l => obtain ⟨m, hn, hl⟩ := x; exact ⟨m, hn.at' e, fun x e hx => by obtain ⟨v, h1, h2⟩ := hl x e hx; exact ⟨v, h1, h2.mono hg⟩⟩
  | cell v => obtain ⟨o, ho, hd⟩ := x; exact ⟨o, e _ ho, hd⟩
  | list ds => obtain ⟨vs, n, ho, hr⟩ := x; exact ⟨vs, n, e _ ho, hr.mono hg⟩
  | raw o => exact e _ x
theorem MO.at.live {G : View} {h : Heap} {a : Addr} {mo : MO} (x : mo.at G h a) : ∃ o, h.get? a = some o := by
  cases mo with
  | ns l => obtain ⟨m, ⟨o, _, _, ho, _⟩, _⟩ := x; exact ⟨o, ho⟩
  | cell v => obtain ⟨o, ho, _⟩ := x; exact ⟨o, ho⟩
  | list ds => obtain ⟨vs, n, ho, _⟩ := x; exact ⟨_, ho⟩
  | raw o => exact ⟨o, x⟩

/-- the frame's constants: the state at its entry (its heap is what must be kept), the frozen part that it was handed -/
structure Fm where
  s0 : Shared
  G0 : View

structure Views (f : Fm) (M : List (Addr × MO)) (D : List (Value × PyData)) (h : Heap) (G : View) : Prop where
  sub : Sub G h
  grew : VLe f.G0 G
  new : ∀ b o, G b = some o → f.G0 b = some o ∨ f.s0.heap.get? b = none
  data : ∀ p ∈ D, Is G p.1 p.2
  own : ∀ p ∈ M, p.2.at G h p.1 ∧ G p.1 = none ∧ f.s0.heap.get? p.1 = none

/-- the state assertion: M what may change (own addresses), D data frozen -/
structure St (H : Heap) (f : Fm) (M : List (Addr × MO)) (D : List (Value × PyData)) (s : Shared) : Prop where
  same : ∃ h tk, s = { f.s0 with heap := h, toks := tk }
  base : ∀ b o, H.get? b = some o → f.s0.heap.get? b = some o
  keep : ∀ b o, f.s0.heap.get? b = some o → s.heap.get? b = some o
  view : ∃ G, Views f M D s.heap G
  nodup : (M.map (·.1)).Nodup

theorem lt_of_getElem? {α : Type} {l : List α} {i : Nat} {x : α} (h : l[i]? = some x) : i < l.length := by
  cases Nat.lt_or_ge i l.length with
  | inl h => exact h
  | inr h' => rw [List.getElem?_eq_none h'] at h; cases h

section
variable {H : Heap} {f : Fm} {M M' : List (Addr × MO)} {D D' : List (Value × PyData)} {s : Shared} {h' : Heap} {tk : Nat}

theorem St.world (S : St H f M D s) : ∀ b o, H.get? b = some o → s.heap.get? b = some o := fun b o e => S.keep b o (S.base b o e)
theorem St.mk' (S : St H f M D s) (tk : Nat) (keep : ∀ b o, f.s0.heap.get? b = some o → h'.get? b = some o) (view : ∃ G, Views f M' D' h' G) (nodup : (M'.map (·.1)).Nodup) :
    St H f M' D' { s with heap := h', toks := tk } where
  same := by obtain ⟨h, t, e⟩ := S.same; exact ⟨h', tk, by rw [e]⟩
  base := S.base
  keep := keep
  view := view
  nodup := nodup

/-- nothing that stands is changed -/
theorem St.grow (S : St H f M D s) (hk : ∀ b o, s.heap.get? b = some o → h'.get? b = some o) : St H f M D { s with heap := h', toks := tk } := by
  obtain ⟨G, V⟩ := S.view
  exact S.mk' tk (fun b o e => hk b o (S.keep b o e))
    ⟨G, ⟨fun b o e => hk b o (V.sub b o e), V.grew, V.new, V.data, fun p hp => ⟨(V.own p hp).1.move (fun _ _ e => e) fun o e => hk _ o e, (V.own p hp).2⟩⟩⟩ S.nodup
theorem St.tok (S : St H f M D s) (tk : Nat) : St H f M D { s with toks := tk } := S.grow (h' := s.heap) fun _ _ e => e

/-- some of what is known is forgotten -/
theorem St.less (S : St H f M D s) (hM : M'.Sublist M) (hD : ∀ p ∈ D', p ∈ D) : St H f M' D' s := by
  obtain ⟨G, V⟩ := S.view
  exact ⟨S.same, S.base, S.keep, ⟨G, ⟨V.sub, V.grew, V.new, fun p hp => V.data p (hD p hp), fun p hp => V.own p (hM.subset hp)⟩⟩, S.nodup.sublist (hM.map _)⟩
theorem St.perm (S : St H f M D s) (hM : M'.Perm M) : St H f M' D s := by
  obtain ⟨G, V⟩ := S.view
  exact ⟨S.same, S.base, S.keep, ⟨G, ⟨V.sub, V.grew, V.new, V.data, fun p hp => V.own p (hM.mem_iff.mp hp)⟩⟩, (hM.map _).nodup_iff.mpr S.nodup⟩

/-- a new object, one that may be changed -/
theorem St.addM (S : St H f M D s) {a : Addr} {mo : MO} (hn : s.heap.get? a = none) (hk : ∀ b o, s.heap.get? b = some o → h'.get? b = some o) (hat : ∀ G, Views f M D s.heap G → mo.at G h' a) :
    St H f ((a, mo) :: M) D { s with heap := h', toks := tk } := by
  obtain ⟨G, V⟩ := S.view
  have hG : G a = none := by cases e : G a with | none => rfl | some o => rw [V.sub a o e] at hn; cases hn
  have hB : f.s0.heap.get? a = none := by cases e : f.s0.heap.get? a with | none => rfl | some o => rw [S.keep a o e] at hn; cases hn
  refine S.mk' tk (fun b o e => hk b o (S.keep b o e))
    ⟨G, ⟨fun b o e => hk b o (V.sub b o e), V.grew, V.new, V.data, fun p hp => ?_⟩⟩ ?_
  · rcases List.mem_cons.mp hp with rfl | hp
    · exact ⟨hat G V, hG, hB⟩
    · exact ⟨(V.own p hp).1.move (fun _ _ e => e) fun o e => hk _ o e, (V.own p hp).2⟩
  · rw [List.map_cons, List.nodup_cons]
    refine ⟨fun hm => ?_, S.nodup⟩
    obtain ⟨p, hp, hpa⟩ := List.mem_map.mp hm
    obtain ⟨o, ho⟩ := (V.own p hp).1.live
    rw [show p.1 = a from hpa, hn] at ho; cases ho

theorem vle_add {G : View} {a : Addr} {o : Obj} (hG : G a = none) : VLe G (fun b => if b = a then some o else G b) := fun b o' e => by
  have : b ≠ a := fun q => by rw [q, hG] at e; cases e
  show (if b = a then some o else G b) = some o'
  rw [if_neg this]; exact e

/-- a new object, frozen -/
theorem St.addD (S : St H f M D s) {a : Addr} {o : Obj} {d : PyData} (hn : s.heap.get? a = none) (hk : ∀ b o, s.heap.get? b = some o → h'.get? b = some o) (ho : h'.get? a = some o)
    (his : ∀ G, Views f M D s.heap G → ∀ G' : View, VLe G G' → G' a = some o → Is G' (.ref a) d) : St H f M ((.ref a, d) :: D) { s with heap := h', toks := tk } := by
  obtain ⟨G, V⟩ := S.view
  have hG : G a = none := by cases e : G a with | none => rfl | some o => rw [V.sub a o e] at hn; cases hn
  have hle : VLe G (fun b => if b = a then some o else G b) := vle_add hG
  have hs0 : f.s0.heap.get? a = none := by
    cases e : f.s0.heap.get? a with
    | none => rfl
    | some o => rw [S.keep a o e] at hn; cases hn
  refine S.mk' tk (fun b o e => hk b o (S.keep b o e))
    ⟨fun b => if b = a then some o else G b, ⟨fun b o' e => ?_, fun b o' e => hle b o' (V.grew b o' e), fun b o' e => ?_, fun p hp => ?_, fun p hp => ?_⟩⟩ S.nodup
  · by_cases q : b = a
    · subst q; simp only [if_true] at e; rw [← e]; exact ho
    · simp only [if_neg q] at e; exact hk b o' (V.sub b o' e)
  · by_cases q : b = a
    · subst q; exact .inr hs0
    · simp only [if_neg q] at e; exact V.new b o' e
  · rcases List.mem_cons.mp hp with rfl | hp
    · exact his G V _ hle (by simp)
    · exact (V.data p hp).mono hle
  · have ⟨x, y, z⟩ := V.own p hp
    refine ⟨x.move hle fun o e => hk _ o e, ?_, z⟩
    have : p.1 ≠ a := fun q => by obtain ⟨o, ho⟩ := x.live; rw [q, hn] at ho; cases ho
    show (if p.1 = a then some o else G p.1) = none
    rw [if_neg this]; exact y

theorem map_set_fst {M : List (Addr × MO)} {i : Nat} {a : Addr} {mo mo' : MO} (hi : M[i]? = some (a, mo)) : (M.set i (a, mo')).map (·.1) = M.map (·.1) := by
  have hlt := lt_of_getElem? hi
  rw [List.map_set]
  apply List.ext_getElem?
  intro j
  by_cases hj : i = j
  · subst hj
    rw [List.getElem?_set_self (by simpa using hlt), List.getElem?_map, hi]; rfl
  · rw [List.getElem?_set_ne hj]

theorem other_ne {M : List (Addr × MO)} (hd : (M.map (·.1)).Nodup) {i j : Nat} {a : Addr} {mo : MO} {p : Addr × MO} (hi : M[i]? = some (a, mo)) (hj : M[j]? = some p) (hij : i ≠ j) : p.1 ≠ a := fun w => by
  have e1 : (M.map (·.1))[i]? = some a := by rw [List.getElem?_map, hi]; rfl
  have e2 : (M.map (·.1))[j]? = some a := by rw [List.getElem?_map, hj, ← w]; rfl
  exact hij ((List.getElem?_inj (by simpa using lt_of_getElem? hi) hd).mp (e1.trans e2.symm))

/-- one of the things that may change is changed -/
theorem St.setM (S : St H f M D s) {i : Nat} {a : Addr} {mo mo' : MO} (hi : M[i]? = some (a, mo)) (hk : ∀ b o, b ≠ a → s.heap.get? b = some o → h'.get? b = some o)
    (hat : ∀ G, Views f M D s.heap G → mo'.at G h' a) : St H f (M.set i (a, mo')) D { s with heap := h', toks := tk } := by
  obtain ⟨G, V⟩ := S.view
  have hlt := lt_of_getElem? hi
  have hm : (a, mo) ∈ M := List.mem_of_getElem? hi
  have ⟨ha, hG, hB⟩ := V.own _ hm
  have ha' := hat G V
  have hG' : G a = none := hG
  have hB' : f.s0.heap.get? a = none := hB
  refine S.mk' tk (fun b o e => ?_) ⟨G, ⟨fun b o e => ?_, V.grew, V.new, V.data, fun p hp => ?_⟩⟩ (by rw [map_set_fst hi]; exact S.nodup)
  · exact hk b o (fun q => by rw [q, hB'] at e; cases e) (S.keep b o e)
  · exact hk b o (fun q => by rw [q, hG'] at e; cases e) (V.sub b o e)
  · obtain ⟨j, hj⟩ := List.getElem?_of_mem hp
    by_cases q : i = j
    · subst q
      rw [List.getElem?_set_self hlt] at hj
      cases hj
      exact ⟨ha', hG, hB⟩
    · rw [List.getElem?_set_ne q] at hj
      have hp' : p ∈ M := List.mem_of_getElem? hj
      have ⟨x, y, z⟩ := V.own p hp'
      exact ⟨x.move (fun _ _ e => e) fun o e => hk _ o (other_ne S.nodup hi hj q) e, y, z⟩

/-- a list that may change is frozen -/
theorem St.freeze (S : St H f M D s) (i : Nat) {a : Addr} {ds : List PyData} (hi : M[i]? = some (a, .list ds)) : St H f (M.eraseIdx i) ((.ref a, .list ds) :: D) s := by
  obtain ⟨G, V⟩ := S.view
  have hm : (a, MO.list ds) ∈ M := List.mem_of_getElem? hi
  have ⟨⟨vs, n, ho, hr⟩, hG, hB⟩ := V.own _ hm
  have hG' : G a = none := hG
  have hle : VLe G (fun b => if b = a then some (lstObj vs n) else G b) := vle_add hG'
  refine ⟨S.same, S.base, S.keep, ⟨fun b => if b = a then some (lstObj vs n) else G b, ⟨fun b o' e => ?_, fun b o' e => hle b o' (V.grew b o' e), fun b o' e => ?_, fun p hp => ?_, fun p hp => ?_⟩⟩,
    S.nodup.sublist ((List.eraseIdx_sublist M i).map _)⟩
  · by_cases q : b = a
    · subst q; simp only [if_true] at e; rw [← e]; exact ho
    · simp only [if_neg q] at e; exact V.sub b o' e
  · by_cases q : b = a
    · subst q; exact .inr hB
    · simp only [if_neg q] at e; exact V.new b o' e
  · rcases List.mem_cons.mp hp with rfl | hp
    · exact .list (vs := vs) (n := n) (by simp) (hr.mono hle)
    · exact (V.data p hp).mono hle
  · have hp' : p ∈ M := (List.eraseIdx_sublist M i).subset hp
    have ⟨x, y, z⟩ := V.own p hp'
    obtain ⟨j, hj⟩ := List.getElem?_of_mem hp
    have hne : p.1 ≠ a := by
      rw [List.getElem?_eraseIdx] at hj
      split at hj
      · exact other_ne S.nodup hi hj (by omega)
      · exact other_ne S.nodup hi hj (by omega)
    refine ⟨x.move hle fun _ e => e, ?_, z⟩
    show (if p.1 = a then _ else G p.1) = none
    rw [if_neg hne]; exact y
end
end Mine
namespace Mine

noncomputable abbrev KW (w : World) : Frag := hd.heap_1 w.params
/-- the world that the law's call finds -/
structure Wd (w : World) (mg mb : Str → Option Value) (H : Heap) : Prop where
  X : (KW w).In H
  T : TopRead vw (looseW vw []) mg mb H

structure Ok (k : Nat) (A : Around) : Prop where
  h : A.handled = none
  d : A.depth + k < recursionLimit
  u : A.units + 8 * k + 100 < cLine
theorem Ok.deeper {k : Nat} {A : Around} {env : Env} (h : Ok (k + 1) A) : Ok k (A.deeper env) := by
  refine ⟨h.h, ?_, ?_⟩
  · have := h.d; show A.depth + 1 + k < _; omega
  · have := h.u; show A.units + 3 + 8 * k + 100 < _; omega
theorem Ok.mono {k j : Nat} {A : Around} (h : Ok k A) (hj : j ≤ k) : Ok j A := ⟨h.h, by have := h.d; omega, by have := h.u; omega⟩

/-- a value whose datum is known -/
inductive Kn (D : List (Value × PyData)) : Value → PyData → Prop
  | int (i : Int) (t : Tok) : Kn D (.int i t) (.int i)
  | bool (b : Bool) : Kn D (.bool b) (.bool b)
  | mem {v : Value} {d : PyData} : (v, d) ∈ D → Kn D v d
theorem Kn.is {D : List (Value × PyData)} {v : Value} {d : PyData} (h : Kn D v d) {G : View} (hD : ∀ p ∈ D, Is G p.1 p.2) : Is G v d := by
  cases h with
  | int i t => exact .int i t
  | bool b => exact .bool b
  | mem h => exact hD _ h
inductive KnAll (D : List (Value × PyData)) : List Value → List PyData → Prop
  | nil : KnAll D [] []
  | cons {v : Value} {vs : List Value} {d : PyData} {ds : List PyData} : Kn D v d → KnAll D vs ds → KnAll D (v :: vs) (d :: ds)
theorem KnAll.is {D : List (Value × PyData)} {G : View} (hD : ∀ p ∈ D, Is G p.1 p.2) : ∀ {vs : List Value} {ds : List PyData}, KnAll D vs ds → IsAll G vs ds
  | _, _, .nil => .nil
  | _, _, .cons h r => .cons (h.is hD) (KnAll.is hD r)

theorem push_keeps {h : Heap} (o : Obj) : ∀ b o', h.get? b = some o' → (h.push o).get? b = some o' := fun _ _ e => Heap.get?_push_of_some _ e
theorem size_none (h : Heap) : h.get? h.objs.size = none := by
  cases e : h.get? h.objs.size with
  | none => rfl
  | some o => exact absurd (Heap.lt_size e) (Nat.lt_irrefl _)

theorem intBits_small {a : Int} (h : a.natAbs < 2 ^ 63) : Builtin.Int.intBits a ≤ 64 := by
  unfold Builtin.Int.intBits
  split
  · exact Nat.zero_le _
  · rename_i hz
    have hz' : a.natAbs ≠ 0 := fun e => hz (by simpa using e)
    have := (Nat.log2_lt hz').mpr h
    omega

section
variable {prog : Program} {w : World} {A : Around} {E : Value → Shared → Prop} {H : Heap} {f : Fm} {M : List (Addr × MO)} {D : List (Value × PyData)} {s : Shared} {env : Env} {mg mb : Str → Option Value}
  {L : Addr} {l : List (Str × AS)} {x : Str} {pos : Pos} {v : Value} {Q : Value → Shared → Prop}

theorem St.nsAt (S : St H f ((L, .ns l) :: M) D s) : ∃ G m, Views f ((L, .ns l) :: M) D s.heap G ∧ s.heap.Ns L m ∧ ∀ x e, l.lookup x = some e → ∃ v, m x = some v ∧ e.ok G v := by
  obtain ⟨G, V⟩ := S.view
  obtain ⟨m, hn, hl⟩ := (V.own _ (.head _)).1
  exact ⟨G, m, V, hn, hl⟩
theorem St.dat {G : View} (S : St H f M D s) (V : Views f M D s.heap G) {d : PyData} (h : Is G v d) : St H f M ((v, d) :: D) s :=
  ⟨S.same, S.base, S.keep, ⟨G, V.sub, V.grew, V.new, fun p hp => by
    rcases List.mem_cons.mp hp with rfl | hp
    · exact h
    · exact V.data p hp, V.own⟩, S.nodup⟩
theorem St.int (S : St H f M D s) {i : Int} (h : (v, PyData.int i) ∈ D) : ∃ t, v = .int i t := by
  obtain ⟨G, V⟩ := S.view
  have := V.data _ h
  cases this with
  | int i t => exact ⟨t, rfl⟩
theorem St.bool (S : St H f M D s) {b : Bool} (h : (v, PyData.bool b) ∈ D) : v = .bool b := by
  obtain ⟨G, V⟩ := S.view
  have := V.data _ h
  cases this with
  | bool b => rfl
theorem St.ref (S : St H f M D s) {ds : List PyData} (h : (v, PyData.list ds) ∈ D) : ∃ a, v = .ref a := by
  obtain ⟨G, V⟩ := S.view
  have := V.data _ h
  cases this with
  | list _ _ => exact ⟨_, rfl⟩
theorem St.refT (S : St H f M D s) {ds : List PyData} (h : (v, PyData.tuple ds) ∈ D) : ∃ a, v = .ref a := by
  obtain ⟨G, V⟩ := S.view
  have := V.data _ h
  cases this with
  | tuple _ _ => exact ⟨_, rfl⟩

theorem lnE {e : AS} (S : St H f ((L, .ns l) :: M) D s) (hv : l.lookup x = some e) (h : ∀ v G, Views f ((L, .ns l) :: M) D s.heap G → e.ok G v → Q v s)
    (hL : env.locals = L := by rfl) (hk : env.scope.kind = .function := by rfl) (hx : env.kindOf x = some .local := by rfl) :
    wpAny (model prog w) A (loadName env x) Q E s := by
  obtain ⟨G, m, V, hn, hl⟩ := S.nsAt
  obtain ⟨v, h1, h2⟩ := hl x e hv
  exact wpAny_loadName_local hk hx (hL ▸ hn) h1 (h v G V h2)
theorem lnV (S : St H f ((L, .ns l) :: M) D s) (hv : l.lookup x = some (.v v)) (h : Q v s)
    (hL : env.locals = L := by rfl) (hk : env.scope.kind = .function := by rfl) (hx : env.kindOf x = some .local := by rfl) : wpAny (model prog w) A (loadName env x) Q E s :=
  lnE S hv (fun v' G _ e => by rw [show v' = v from e]; exact h) hL hk hx
theorem lnI {n : Int} (S : St H f ((L, .ns l) :: M) D s) (hv : l.lookup x = some (.i n)) (h : ∀ t, Q (.int n t) s)
    (hL : env.locals = L := by rfl) (hk : env.scope.kind = .function := by rfl) (hx : env.kindOf x = some .local := by rfl) : wpAny (model prog w) A (loadName env x) Q E s :=
  lnE S hv (fun v' G _ e => by obtain ⟨t, rfl⟩ := e; exact h t) hL hk hx
theorem lnD {d : PyData} (S : St H f ((L, .ns l) :: M) D s) (hv : l.lookup x = some (.d d)) (h : ∀ v, St H f ((L, .ns l) :: M) ((v, d) :: D) s → Q v s)
    (hL : env.locals = L := by rfl) (hk : env.scope.kind = .function := by rfl) (hx : env.kindOf x = some .local := by rfl) : wpAny (model prog w) A (loadName env x) Q E s :=
  lnE S hv (fun v' G V e => h v' (S.dat V e)) hL hk hx
theorem ldV (S : St H f ((L, .ns l) :: M) D s) (hv : l.lookup x = some (.v v)) (h : Q v s)
    (hL : env.locals = L := by rfl) (hk : env.scope.kind = .function := by rfl) (hx : env.kindOf x = some .local := by rfl) (hd : (x == ("__debug__" : Str)) = false := by decide) :
    wpAny (model prog w) A (eval (.Name x pos) env) Q E s := wpAny_Name (lnV S hv h hL hk hx) hd
theorem ldI {n : Int} (S : St H f ((L, .ns l) :: M) D s) (hv : l.lookup x = some (.i n)) (h : ∀ t, Q (.int n t) s)
    (hL : env.locals = L := by rfl) (hk : env.scope.kind = .function := by rfl) (hx : env.kindOf x = some .local := by rfl) (hd : (x == ("__debug__" : Str)) = false := by decide) :
    wpAny (model prog w) A (eval (.Name x pos) env) Q E s := wpAny_Name (lnI S hv h hL hk hx) hd
theorem ldDL {ds : List PyData} (S : St H f ((L, .ns l) :: M) D s) (hv : l.lookup x = some (.d (.list ds))) (h : ∀ a, St H f ((L, .ns l) :: M) ((.ref a, .list ds) :: D) s → Q (.ref a) s)
    (hL : env.locals = L := by rfl) (hk : env.scope.kind = .function := by rfl) (hx : env.kindOf x = some .local := by rfl) (hd : (x == ("__debug__" : Str)) = false := by decide) :
    wpAny (model prog w) A (eval (.Name x pos) env) Q E s := wpAny_Name (lnD S hv (fun v S' => by obtain ⟨a, rfl⟩ := S'.ref (.head _); exact h a S') hL hk hx) hd
theorem ldDT {ds : List PyData} (S : St H f ((L, .ns l) :: M) D s) (hv : l.lookup x = some (.d (.tuple ds))) (h : ∀ a, St H f ((L, .ns l) :: M) ((.ref a, .tuple ds) :: D) s → Q (.ref a) s)
    (hL : env.locals = L := by rfl) (hk : env.scope.kind = .function := by rfl) (hx : env.kindOf x = some .local := by rfl) (hd : (x == ("__debug__" : Str)) = false := by decide) :
    wpAny (model prog w) A (eval (.Name x pos) env) Q E s := wpAny_Name (lnD S hv (fun v S' => by obtain ⟨a, rfl⟩ := S'.refT (.head _); exact h a S') hL hk hx) hd
theorem ldD {d : PyData} (S : St H f ((L, .ns l) :: M) D s) (hv : l.lookup x = some (.d d)) (h : ∀ v, St H f ((L, .ns l) :: M) ((v, d) :: D) s → Q v s)
    (hL : env.locals = L := by rfl) (hk : env.scope.kind = .function := by rfl) (hx : env.kindOf x = some .local := by rfl) (hd : (x == ("__debug__" : Str)) = false := by decide) :
    wpAny (model prog w) A (eval (.Name x pos) env) Q E s := wpAny_Name (lnD S hv h hL hk hx) hd
theorem ldC {c : Addr} (S : St H f M D s) (hm : (c, .cell (some v)) ∈ M) (h : Q v s)
    (hc : env.cells.lookup x = some c := by rfl) (hk : env.scope.kind = .function := by rfl) (hx : env.kindOf x = some .cell := by rfl) (hd : (x == ("__debug__" : Str)) = false := by decide) :
    wpAny (model prog w) A (eval (.Name x pos) env) Q E s := by
  obtain ⟨G, V⟩ := S.view
  exact wpAny_Name (wpAny_loadName_cell hk hx hc (V.own _ hm).1 h) hd
theorem ldF {c : Addr} (S : St H f M D s) (hm : (c, .cell (some v)) ∈ M) (h : Q v s)
    (hc : env.cells.lookup x = some c := by rfl) (hk : env.scope.kind = .function := by rfl) (hx : env.kindOf x = some .free := by rfl) (hd : (x == ("__debug__" : Str)) = false := by decide) (hn : (x == ("__classdict__" : Str)) = false := by decide) :
    wpAny (model prog w) A (eval (.Name x pos) env) Q E s := by
  obtain ⟨G, V⟩ := S.view
  exact wpAny_Name (wpAny_loadName_free hk hx hc (V.own _ hm).1 h hn) hd
theorem ldG (W : Wd w mg mb H) (S : St H f M D s) (e : nsIn (KW w) mainGlobals x = some (some v)) (h : Q v s)
    (hg : env.globals = mainGlobals := by rfl) (hk : env.scope.kind = .function := by rfl) (hx : env.kindOf x = some .globalImplicit := by rfl) (hd : (x == ("__debug__" : Str)) = false := by decide) :
    wpAny (model prog w) A (eval (.Name x pos) env) Q E s :=
  Name_function_global hk hx (loadGlobal_global (env := env) (hg ▸ W.T.g.keeps S.world) (mg_of W.X W.T.g e) h) hd
theorem ldB (W : Wd w mg mb H) (S : St H f M D s) (e : nsIn (KW w) mainGlobals x = some none) (hv : bootBuiltins x = some v) (h : Q v s)
    (hn : x ≠ "__name__" := by decide) (hg : env.globals = mainGlobals := by rfl) (hb : env.builtins = builtinsNs := by rfl) (hk : env.scope.kind = .function := by rfl) (hx : env.kindOf x = some .globalImplicit := by rfl) (hd : (x == ("__debug__" : Str)) = false := by decide) :
    wpAny (model prog w) A (eval (.Name x pos) env) Q E s :=
  Name_function_global hk hx (loadGlobal_builtin (env := env) (hg ▸ W.T.g.keeps S.world) (mg_none_of W.X W.T.g e) (hb ▸ W.T.b.keeps S.world) ((W.T.builtins x hn).trans hv) h) hd

theorem lookup_put {G : View} {l : List (Str × AS)} {x : Str} {v : Value} {m : Str → Option Value} (hl : ∀ y e, l.lookup y = some e → ∃ u, m y = some u ∧ e.ok G u) :
    ∀ y e, ((x, AS.v v) :: l).lookup y = some e → ∃ u, (if y = x then some v else m y) = some u ∧ e.ok G u := fun y e h => by
  rw [List.lookup_cons] at h
  by_cases q : y = x
  · subst q; rw [if_pos rfl]
    simp at h; subst h
    exact ⟨v, rfl, rfl⟩
  · have : (y == x) = false := by simpa using q
    rw [this] at h; rw [if_neg q]; exact hl y e h

theorem stL {Q : Unit → Shared → Prop} (S : St H f ((L, .ns l) :: M) D s) (h : ∀ s', St H f ((L, .ns ((x, .v v) :: l)) :: M) D s' → Q () s')
    (hL : env.locals = L := by rfl) (hk : env.scope.kind = .function := by rfl) (hx : env.kindOf x = some .local := by rfl) : wpAny (model prog w) A (storeName env x v) Q E s := by
  obtain ⟨G, m, V, hn, hl⟩ := S.nsAt
  refine wpAny_storeName_local hx (hL ▸ hn) (fun h' hn' hs' => h _ ?_) (by rw [hk]; rfl)
  refine S.setM (i := 0) rfl (fun b o hb e => hs'.extBut b o (hL ▸ hb) e) fun G' V' => ?_
  obtain ⟨m', hn2, hl2⟩ := (V'.own _ (.head _)).1
  have : m' = m := by
    obtain ⟨o, es, ep, ho, hd, _, hf⟩ := hn
    obtain ⟨o', es', ep', ho', hd', _, hf'⟩ := hn2
    rw [ho] at ho'; cases ho'
    rw [hd] at hd'; cases hd'
    funext y; rw [← hf, ← hf']
  subst this
  exact ⟨_, hL ▸ hn', lookup_put hl2⟩
theorem stC {Q : Unit → Shared → Prop} {c : Addr} {v₀ : Option Value} (S : St H f M D s) (i : Nat) (hi : M[i]? = some (c, .cell v₀)) (h : ∀ M' s', M.set i (c, .cell (some v)) = M' → St H f M' D s' → Q () s')
    (hc : env.cells.lookup x = some c := by rfl) (hk : env.scope.kind = .function := by rfl) (hx : env.kindOf x = some .cell := by rfl) : wpAny (model prog w) A (storeName env x v) Q E s := by
  obtain ⟨G, V⟩ := S.view
  refine wpAny_storeName_cell hk hx hc (V.own _ (List.mem_of_getElem? hi)).1 fun h' hc' hs' => h _ _ rfl (S.setM hi (fun b o hb e => hs'.extBut b o hb e) fun G _ => hc')

/-- what is said of a value follows from what is known of it -/
inductive Imp (D : List (Value × PyData)) : AS → AS → Prop
  | refl (e : AS) : Imp D e e
  | int {n n' : Int} {t : Tok} (h : n = n') : Imp D (.v (.int n t)) (.i n')
  | ii {n n' : Int} (h : n = n') : Imp D (.i n) (.i n')
  | dat {v : Value} {d : PyData} (h : Kn D v d) : Imp D (.v v) (.d d)
  | id {n n' : Int} (h : n = n') : Imp D (.i n) (.d (.int n'))
theorem Imp.ok {e e' : AS} (h : Imp D e e') {G : View} (hD : ∀ p ∈ D, Is G p.1 p.2) {v : Value} (x : e.ok G v) : e'.ok G v := by
  cases h with
  | refl => exact x
  | int h => subst h; exact ⟨_, x⟩
  | ii h => subst h; exact x
  | dat h => rw [show v = _ from x]; exact h.is hD
  | id h => subst h; obtain ⟨t, rfl⟩ := x; exact .int _ _
/-- the variables of the frame told anew -/
theorem St.vars (S : St H f ((L, .ns l) :: M) D s) {l' : List (Str × AS)} (h : ∀ p ∈ l', ∃ e, l.lookup p.1 = some e ∧ Imp D e p.2) : St H f ((L, .ns l') :: M) D s := by
  obtain ⟨G, V⟩ := S.view
  refine ⟨S.same, S.base, S.keep, ⟨G, V.sub, V.grew, V.new, V.data, fun p hp => ?_⟩, S.nodup⟩
  rcases List.mem_cons.mp hp with rfl | hp
  · obtain ⟨⟨m, hn, hl⟩, r⟩ := V.own _ (.head _)
    refine ⟨⟨m, hn, fun x e he => ?_⟩, r⟩
    obtain ⟨e', h1, h2⟩ := h (x, e) (PySem.mem_of_lookup he)
    obtain ⟨v, h3, h4⟩ := hl x e' h1
    exact ⟨v, h3, h2.ok V.data h4⟩
  · exact V.own p (.tail _ hp)

theorem Kint {i : Int} {k : Nat} (S : St H f M D s) (h : ∀ t s', St H f M D s' → Q (.int i t) s') : wpAny (model prog w) A (eval (.Constant (.int i) k pos) env) Q E s :=
  wpAny_Constant_int (h _ _ (S.tok _))

-- ints
variable {a b : Int} {t u : Tok}
theorem addI (S : St H f M D s) (h : ∀ t s', St H f M D s' → Q (.int (a + b) t) s') : wpAny (model prog w) A (binaryOp .Add (.int a t) (.int b u)) Q E s := add_int (h _ _ (S.tok _))
theorem subI (S : St H f M D s) (h : ∀ t s', St H f M D s' → Q (.int (a - b) t) s') : wpAny (model prog w) A (binaryOp .Sub (.int a t) (.int b u)) Q E s := sub_int (h _ _ (S.tok _))
theorem iaddI (S : St H f M D s) (h : ∀ t s', St H f M D s' → Q (.int (a + b) t) s') : wpAny (model prog w) A (inplaceOp .Add (.int a t) (.int b u)) Q E s := iadd_int (h _ _ (S.tok _))
theorem isubI (S : St H f M D s) (h : ∀ t s', St H f M D s' → Q (.int (a - b) t) s') : wpAny (model prog w) A (inplaceOp .Sub (.int a t) (.int b u)) Q E s := isub_int (h _ _ (S.tok _))
theorem mulI (S : St H f M D s) (hok : a.natAbs < 2 ^ 63) (h : ∀ t s', St H f M D s' → Q (.int (a * b) t) s') : wpAny (model prog w) A (binaryOp .Mult (.int a t) (.int b u)) Q E s :=
  mul_int (h _ _ (S.tok _)) (IntMulOk.of_left (intBits_small hok))
theorem modI (S : St H f M D s) (hb : b ≠ 0) (h : ∀ t s', St H f M D s' → Q (.int (a.fmod b) t) s') : wpAny (model prog w) A (binaryOp .Mod (.int a t) (.int b u)) Q E s := mod_int' hb (h _ _ (S.tok _))
theorem shlI (S : St H f M D s) (h0 : 0 ≤ b) (h1 : b ≤ 1000000) (ha : a.natAbs < 2 ^ 64) (h : ∀ t s', St H f M D s' → Q (.int (a * 2 ^ b.toNat) t) s') : wpAny (model prog w) A (binaryOp .LShift (.int a t) (.int b u)) Q E s :=
  lshift_int_small h0 h1 ha (h _ _ (S.tok _))
theorem ishrI (S : St H f M D s) (h0 : 0 ≤ b) (h : ∀ t s', St H f M D s' → Q (.int (a.fdiv (2 ^ b.toNat)) t) s') : wpAny (model prog w) A (inplaceOp .RShift (.int a t) (.int b u)) Q E s := irshift_int h0 (h _ _ (S.tok _))
theorem andI (S : St H f M D s) (h : ∀ t s', St H f M D s' → Q (.int (Builtin.bitAnd a b) t) s') : wpAny (model prog w) A (binaryOp .BitAnd (.int a t) (.int b u)) Q E s := and_int (h _ _ (S.tok _))
theorem powI (S : St H f M D s) (h0 : 0 ≤ b) (hok : (Builtin.Int.intBits a : Int) * b ≤ 2 ^ 27) (h : ∀ t s', St H f M D s' → Q (.int (a ^ b.toNat) t) s') : wpAny (model prog w) A (binaryOp .Pow (.int a t) (.int b u)) Q E s :=
  pow_int h0 hok (h _ _ (S.tok _))
theorem divI (S : St H f M D s) (hb : b ≠ 0) (hs : b.natAbs < 1073741824) (h : ∀ t s', St H f M D s' → Q (.int (a.fdiv b) t) s') : wpAny (model prog w) A (binaryOp .FloorDiv (.int a t) (.int b u)) Q E s :=
  floordiv_int hb (h _ _ (S.tok _)) (.inl (PyProof.noPylong_small hs))
theorem absI (S : St H f M D s) (h : ∀ t s', St H f M D s' → Q (.int (if a < 0 then -a else a) t) s') : wpAny (model prog w) A (call (.builtin "abs") [.int a t]) Q E s :=
  call_abs_int fun u tk => h u _ (S.tok tk)
theorem negI (S : St H f M D s) (h : ∀ t s', St H f M D s' → Q (.int (-a) t) s') : wpAny (model prog w) A (unaryOp .USub (.int a t)) Q E s := neg_int (h _ _ (S.tok _))
end
end Mine
namespace Mine

def HasL (M : List (Addr × MO)) (D : List (Value × PyData)) (a : Addr) (ds : List PyData) : Prop := (Value.ref a, PyData.list ds) ∈ D ∨ (a, MO.list ds) ∈ M
def HasT (D : List (Value × PyData)) (a : Addr) (ds : List PyData) : Prop := (Value.ref a, PyData.tuple ds) ∈ D

theorem emptyHeap_none (b : Addr) : ({} : Heap).get? b = none := rfl

section
variable {prog : Program} {w : World} {A : Around} {E : Value → Shared → Prop} {H : Heap} {f : Fm} {M : List (Addr × MO)} {D : List (Value × PyData)} {s : Shared} {env : Env} {mg mb : Str → Option Value}
  {L a : Addr} {l : List (Str × AS)} {x : Str} {pos : Pos} {v : Value} {Q : Value → Shared → Prop} {vs : List Value} {ds : List PyData} {p : Addr × MO}

theorem isList_of {h : Heap} {a : Addr} {vs : List Value} {n : Nat} (e : h.get? a = some (lstObj vs n)) : h.IsList a vs.toArray := ⟨_, e, rfl, n, rfl⟩
theorem isTup_of {h : Heap} {a : Addr} {vs : List Value} {n : Nat} (e : h.get? a = some (tupObj vs n)) : IsTup h a vs.toArray := ⟨_, e, rfl, n, rfl⟩

theorem Views.look {h : Heap} {G : View} (V : Views f M D h G) (hl : HasL M D a ds) : ∃ vs n, h.get? a = some (lstObj vs n) ∧ IsAll G vs ds := by
  rcases hl with hl | hl
  · have := V.data _ hl
    cases this with
    | list e r => exact ⟨_, _, V.sub _ _ e, r⟩
  · obtain ⟨⟨vs, n, e, r⟩, _⟩ := V.own _ hl
    exact ⟨vs, n, e, r⟩
theorem lst_inj {vs ws : List Value} {n m : Nat} (h : some (lstObj vs n) = some (lstObj ws m)) : vs = ws := by
  have := congrArg (fun o : Option Obj => match o with | some ⟨_, _, .seq xs _, _⟩ => xs.toList | _ => []) h
  simpa using this
theorem St.look (S : St H f M D s) (h : HasL M D a ds) : ∃ G vs n, Views f M D s.heap G ∧ s.heap.get? a = some (lstObj vs n) ∧ IsAll G vs ds := by
  obtain ⟨G, V⟩ := S.view
  rcases h with h | h
  · have := V.data _ h
    cases this with
    | list e r => exact ⟨G, _, _, V, V.sub _ _ e, r⟩
  · obtain ⟨⟨vs, n, e, r⟩, _⟩ := V.own _ h
    exact ⟨G, vs, n, V, e, r⟩
theorem St.lookT (S : St H f M D s) (h : HasT D a ds) : ∃ G vs n, Views f M D s.heap G ∧ s.heap.get? a = some (tupObj vs n) ∧ IsAll G vs ds := by
  obtain ⟨G, V⟩ := S.view
  have := V.data _ h
  cases this with
  | tuple e r => exact ⟨G, _, _, V, V.sub _ _ e, r⟩
/-- one more datum that the state's view bears -/
theorem St.more (S : St H f M D s) {d : PyData} (h : ∀ G, Views f M D s.heap G → Is G v d) : St H f M ((v, d) :: D) s := by
  obtain ⟨G, V⟩ := S.view
  refine ⟨S.same, S.base, S.keep, ⟨G, V.sub, V.grew, V.new, fun p hp => ?_, V.own⟩, S.nodup⟩
  rcases List.mem_cons.mp hp with rfl | hp
  · exact h G V
  · exact V.data p hp

theorem St.swap {p q : Addr × MO} (S : St H f (p :: q :: M) D s) : St H f (q :: p :: M) D s := S.perm (List.Perm.swap ..)

-- new lists and tuples
theorem newLD (S : St H f M D s) (hv : KnAll D vs ds) (h : ∀ a s', St H f M ((.ref a, .list ds) :: D) s' → Q (.ref a) s') (hsz : vs.length ≤ sizeLine) : wpAny (model prog w) A (newList vs) Q E s := by
  refine wpAny_newObj_type (h _ _ ?_) (by show vs.toArray.size ≤ sizeLine; rw [List.size_toArray]; exact hsz)
  exact S.addD (o := lstObj vs 0) (tk := s.toks) (size_none _) (push_keeps _) (Heap.get?_push_size _ rfl) fun G V G' hle e => .list e ((hv.is V.data).mono hle)
theorem newLM (S : St H f (p :: M) D s) (hv : KnAll D vs ds) (h : ∀ a s', St H f (p :: (a, .list ds) :: M) D s' → Q (.ref a) s') (hsz : vs.length ≤ sizeLine) : wpAny (model prog w) A (newList vs) Q E s := by
  refine wpAny_newObj_type (h _ _ ?_) (by show vs.toArray.size ≤ sizeLine; rw [List.size_toArray]; exact hsz)
  exact (S.addM (mo := .list ds) (tk := s.toks) (size_none _) (push_keeps _) fun G V => ⟨vs, 0, Heap.get?_push_size _ rfl, hv.is V.data⟩).swap
theorem newTD (S : St H f M D s) (hv : KnAll D vs ds) (h : ∀ a s', St H f M ((.ref a, .tuple ds) :: D) s' → Q (.ref a) s') (hsz : vs.length ≤ sizeLine) : wpAny (model prog w) A (newTuple vs) Q E s := by
  refine wpAny_newObj_type (h _ _ ?_) (by show vs.toArray.size ≤ sizeLine; rw [List.size_toArray]; exact hsz)
  exact S.addD (o := tupObj vs 0) (tk := s.toks) (size_none _) (push_keeps _) (Heap.get?_push_size _ rfl) fun G V G' hle e => .tuple e ((hv.is V.data).mono hle)
/-- a tuple that is only taken apart: its places may be anything -/
theorem newTR (S : St H f (p :: M) D s) (h : ∀ a s', St H f (p :: (a, .raw (tupObj vs 0)) :: M) D s' → Q (.ref a) s') (hsz : vs.length ≤ sizeLine) : wpAny (model prog w) A (newTuple vs) Q E s := by
  refine wpAny_newObj_type (h _ _ ?_) (by show vs.toArray.size ≤ sizeLine; rw [List.size_toArray]; exact hsz)
  exact (S.addM (mo := .raw (tupObj vs 0)) (tk := s.toks) (size_none _) (push_keeps _) fun G V => Heap.get?_push_size _ rfl).swap

-- len
theorem lenL {n : Nat} (S : St H f M D s) (hl : HasL M D a ds) (hn : ds.length = n) (hsz : n ≤ 2 ^ 24) (h : ∀ t s', St H f M D s' → Q (.int n t) s') : wpAny (model prog w) A (call (.builtin "len") [.ref a]) Q E s := by
  obtain ⟨G, vs, n, V, e, r⟩ := S.look hl
  have hlen := r.length
  refine call_len_list (isList_of e) (by rw [List.size_toArray]; omega) ?_
  rw [List.size_toArray, hlen, hn]
  exact h _ _ (S.tok _)

-- items
variable {value slice : Expr} {k : Int} {t : Tok} {d : PyData}
theorem itemV (S : St H f M D s) (hl : HasL M D a ds) (h0 : 0 ≤ k) (hk : ds[k.toNat]? = some d) (h1 : k < 2 ^ 63) (h : ∀ v, St H f M ((v, d) :: D) s → Q v s)
    (hs : subscripted slice false (.ref a) (.int k t) = operate [.ref a, .int k t] (getItem (.ref a) (.int k t)) := by with_unfolding_all rfl) :
    wpAny (model prog w) A (subscriptTail value slice (.ref a) (.int k t)) Q E s := by
  obtain ⟨G, vs, n, V, e, r⟩ := S.look hl
  obtain ⟨v, hv, hd⟩ := r.get hk
  refine tail_any (isList_of e).typeIs slot_list_getitem.lookup (wpAny_getItem_list (isList_of e) h0 h1 (x := v) (by simpa using hv) (h v ?_)) hs
  exact ⟨S.same, S.base, S.keep, ⟨G, V.sub, V.grew, V.new, fun p hp => by
    rcases List.mem_cons.mp hp with rfl | hp
    · exact hd
    · exact V.data p hp, V.own⟩, S.nodup⟩
theorem itemI {i : Int} (S : St H f M D s) (hl : HasL M D a ds) (h0 : 0 ≤ k) (hk : ds[k.toNat]? = some (.int i)) (h1 : k < 2 ^ 63) (h : ∀ t, Q (.int i t) s)
    (hs : subscripted slice false (.ref a) (.int k t) = operate [.ref a, .int k t] (getItem (.ref a) (.int k t)) := by with_unfolding_all rfl) :
    wpAny (model prog w) A (subscriptTail value slice (.ref a) (.int k t)) Q E s :=
  itemV S hl h0 hk h1 (fun v S' => by obtain ⟨t, rfl⟩ := S'.int (.head _); exact h t) hs
theorem itemB {b : Bool} (S : St H f M D s) (hl : HasL M D a ds) (h0 : 0 ≤ k) (hk : ds[k.toNat]? = some (.bool b)) (h1 : k < 2 ^ 63) (h : Q (.bool b) s)
    (hs : subscripted slice false (.ref a) (.int k t) = operate [.ref a, .int k t] (getItem (.ref a) (.int k t)) := by with_unfolding_all rfl) :
    wpAny (model prog w) A (subscriptTail value slice (.ref a) (.int k t)) Q E s :=
  itemV S hl h0 hk h1 (fun v S' => by obtain rfl := S'.bool (.head _); exact h) hs
theorem itemR {es : List PyData} (S : St H f M D s) (hl : HasL M D a ds) (h0 : 0 ≤ k) (hk : ds[k.toNat]? = some (.list es)) (h1 : k < 2 ^ 63) (h : ∀ b, St H f M ((.ref b, .list es) :: D) s → Q (.ref b) s)
    (hs : subscripted slice false (.ref a) (.int k t) = operate [.ref a, .int k t] (getItem (.ref a) (.int k t)) := by with_unfolding_all rfl) :
    wpAny (model prog w) A (subscriptTail value slice (.ref a) (.int k t)) Q E s :=
  itemV S hl h0 hk h1 (fun v S' => by obtain ⟨b, rfl⟩ := S'.ref (.head _); exact h b S') hs
theorem itemRT {es : List PyData} (S : St H f M D s) (hl : HasL M D a ds) (h0 : 0 ≤ k) (hk : ds[k.toNat]? = some (.tuple es)) (h1 : k < 2 ^ 63) (h : ∀ b, St H f M ((.ref b, .tuple es) :: D) s → Q (.ref b) s)
    (hs : subscripted slice false (.ref a) (.int k t) = operate [.ref a, .int k t] (getItem (.ref a) (.int k t)) := by with_unfolding_all rfl) :
    wpAny (model prog w) A (subscriptTail value slice (.ref a) (.int k t)) Q E s :=
  itemV S hl h0 hk h1 (fun v S' => by obtain ⟨b, rfl⟩ := S'.refT (.head _); exact h b S') hs
/-- the last item -/
theorem itemLast (S : St H f M D s) (hl : HasL M D a ds) (hk : ds[ds.length - 1]? = some d) (hsz : ds.length ≤ 2 ^ 24) (h : ∀ v, St H f M ((v, d) :: D) s → Q v s)
    (hs : subscripted slice false (.ref a) (.int (-1) t) = operate [.ref a, .int (-1) t] (getItem (.ref a) (.int (-1) t)) := by with_unfolding_all rfl) :
    wpAny (model prog w) A (subscriptTail value slice (.ref a) (.int (-1) t)) Q E s := by
  obtain ⟨G, vs, n, V, e, r⟩ := S.look hl
  obtain ⟨v, hv, hd⟩ := r.get hk
  have hlen := r.length
  have hlt := lt_of_getElem? hk
  refine tail_any (isList_of e).typeIs slot_list_getitem.lookup (wpAny_getItem_list_neg (isList_of e) (k := -1) (by decide) (by simp; omega) (by decide) (x := v) ?_ (h v ?_)) hs
  · have e1 : (-1 + (vs.toArray.size : Int)).toNat = ds.length - 1 := by rw [List.size_toArray]; omega
    rw [e1]; simpa using hv
  exact ⟨S.same, S.base, S.keep, ⟨G, V.sub, V.grew, V.new, fun p hp => by
    rcases List.mem_cons.mp hp with rfl | hp
    · exact hd
    · exact V.data p hp, V.own⟩, S.nodup⟩

theorem seqIndex_pos {n j : Nat} (h : j < n) : seqIndex? (j : Int) n = some j := by
  unfold seqIndex?
  have h0 : ¬ ((j : Int) < 0) := by omega
  simp only [h0, if_false]
  rw [if_pos]
  · simp
  · simp; omega
theorem itemTV {j : Nat} (S : St H f M D s) (hl : HasT D a ds) (hk : ds[j]? = some d) (hsm : j < 1000) (h : ∀ v, St H f M ((v, d) :: D) s → Q v s)
    (hs : subscripted slice false (.ref a) (.int (j : Int) t) = operate [.ref a, .int (j : Int) t] (getItem (.ref a) (.int (j : Int) t)) := by with_unfolding_all rfl) :
    wpAny (model prog w) A (subscriptTail value slice (.ref a) (.int (j : Int) t)) Q E s := by
  obtain ⟨G, vs, n, V, e, r⟩ := S.lookT hl
  obtain ⟨v, hv, hd⟩ := r.get hk
  have hlt := lt_of_getElem? hv
  refine item_tupleT (isTup_of e) (by omega) (by omega) (seqIndex_pos hlt) hv (h v ?_) hs
  exact ⟨S.same, S.base, S.keep, ⟨G, V.sub, V.grew, V.new, fun p hp => by
    rcases List.mem_cons.mp hp with rfl | hp
    · exact hd
    · exact V.data p hp, V.own⟩, S.nodup⟩
theorem itemT0 (S : St H f M D s) {e : PyData} {es : List PyData} (hl : HasT D a (e :: es)) (h : ∀ v, St H f M ((v, e) :: D) s → Q v s)
    (hs : subscripted slice false (.ref a) (.int 0 t) = operate [.ref a, .int 0 t] (getItem (.ref a) (.int 0 t)) := by with_unfolding_all rfl) :
    wpAny (model prog w) A (subscriptTail value slice (.ref a) (.int 0 t)) Q E s := itemTV (j := 0) S hl rfl (by decide) h hs
theorem itemT1 (S : St H f M D s) {e e' : PyData} {es : List PyData} (hl : HasT D a (e :: e' :: es)) (h : ∀ v, St H f M ((v, e') :: D) s → Q v s)
    (hs : subscripted slice false (.ref a) (.int 1 t) = operate [.ref a, .int 1 t] (getItem (.ref a) (.int 1 t)) := by with_unfolding_all rfl) :
    wpAny (model prog w) A (subscriptTail value slice (.ref a) (.int 1 t)) Q E s := itemTV (j := 1) S hl rfl (by decide) h hs

-- slices
/-- the slice object: its parts are told where it stands -/
theorem sliceE {lower upper step : Option Expr} {p : Pos} (h : wpAny (model prog w) A (evalPart lower env) (fun l s₁ => wpAny (model prog w) A (evalPart upper env) (fun u s₂ => wpAny (model prog w) A (evalPart step env) (fun st s₃ =>
      ∃ (H : Heap) (f : Fm) (M : List (Addr × MO)) (D : List (Value × PyData)), St H f M D s₃ ∧ ∀ sl s', St H f M D s' → s'.heap.IsSliceOf sl l u st → Q (.ref sl) s') E s₂) E s₁) E s) :
    wpAny (model prog w) A (eval (.Slice lower upper step p) env) Q E s := by
  refine wpAny_Slice (wpAny_mono h (fun l s₁ h₁ => wpAny_mono h₁ (fun u s₂ h₂ => wpAny_mono h₂ (fun st s₃ h₃ => ?_) fun _ _ e => e) fun _ _ e => e) fun _ _ e => e)
  obtain ⟨H, f, M, D, S, h⟩ := h₃
  exact h _ _ (S.grow (tk := s₃.toks) (push_keeps _)) (Heap.IsSliceOf.new ..)
theorem partN {Q : Value → Shared → Prop} (h : Q .none s) : wpAny (model prog w) A (evalPart none env) Q E s := wpAny_pure h
theorem partS {e : Expr} {Q : Value → Shared → Prop} (h : wpAny (model prog w) A (eval e env) Q E s) : wpAny (model prog w) A (evalPart (some e) env) Q E s := h

theorem slice_any {sl : Addr} {vl vu st : Value} {lo hi stp : Option Int} {es : List PyData} (S : St H f M D s) (hl : HasL M D a ds) (hsl : s.heap.IsSliceOf sl vl vu st) (pl : IsPart vl lo) (pu : IsPart vu hi) (pst : IsPart st stp) (hst : stp ≠ some 0)
    (hsz : ds.length ≤ sizeLine) (hpick : ∀ G (vs : List Value), IsAll G vs ds → ∃ ws, slicePick vs.toArray lo hi stp = ws.toArray ∧ IsAll G ws es) (h : ∀ b s', St H f M ((.ref b, .list es) :: D) s' → Q (.ref b) s')
    (hs : subscripted slice false (.ref a) (.ref sl) = operate [.ref sl, .ref a] (getItem (.ref a) (.ref sl)) := by with_unfolding_all rfl)
    (ht : ∀ r, letTemporaryGo value (.ref a) r = pure () := by intro _; with_unfolding_all rfl) :
    wpAny (model prog w) A (subscriptTail value slice (.ref a) (.ref sl)) Q E s := by
  obtain ⟨G, vs, n, V, e, r⟩ := S.look hl
  obtain ⟨ws, hw, _⟩ := hpick G vs r
  refine subscriptTail_ops (isList_of e).typeIs list_getitem_lookup (wpAny_getItem_list_slice (isList_of e) hsl pl pu pst hst (h _ _ ?_) (by rw [List.size_toArray, r.length]; exact hsz)) hs ht
  rw [hw]
  refine S.addD (o := lstObj ws 0) (tk := s.toks) (size_none _) (push_keeps _) (Heap.get?_push_size _ rfl) fun G' V' G'' hle e'' => ?_
  obtain ⟨vs', n', e', r'⟩ := V'.look hl
  have := lst_inj (e.symm.trans e')
  subst this
  obtain ⟨ws', hw', hr'⟩ := hpick G' vs r'
  have : ws = ws' := by simpa using hw.symm.trans hw'
  subst this
  exact .list e'' (hr'.mono hle)
theorem slice_upto {sl : Addr} {b : Nat} {t : Tok} (S : St H f M D s) (hl : HasL M D a ds) (hsl : s.heap.IsSliceOf sl .none (.int b t) .none) (hsz : ds.length ≤ sizeLine) (h : ∀ c s', St H f M ((.ref c, .list (ds.take b)) :: D) s' → Q (.ref c) s')
    (hs : subscripted slice false (.ref a) (.ref sl) = operate [.ref sl, .ref a] (getItem (.ref a) (.ref sl)) := by with_unfolding_all rfl)
    (ht : ∀ r, letTemporaryGo value (.ref a) r = pure () := by intro _; with_unfolding_all rfl) : wpAny (model prog w) A (subscriptTail value slice (.ref a) (.ref sl)) Q E s :=
  slice_any S hl hsl .none (.int _ _) .none (by simp) hsz (fun G vs r => ⟨vs.take b, by rw [slicePick_upto'], r.take b⟩) h hs ht
theorem slice_from {sl : Addr} {b : Nat} {t : Tok} (S : St H f M D s) (hl : HasL M D a ds) (hsl : s.heap.IsSliceOf sl (.int b t) .none .none) (hsz : ds.length ≤ sizeLine) (h : ∀ c s', St H f M ((.ref c, .list (ds.drop b)) :: D) s' → Q (.ref c) s')
    (hs : subscripted slice false (.ref a) (.ref sl) = operate [.ref sl, .ref a] (getItem (.ref a) (.ref sl)) := by with_unfolding_all rfl)
    (ht : ∀ r, letTemporaryGo value (.ref a) r = pure () := by intro _; with_unfolding_all rfl) : wpAny (model prog w) A (subscriptTail value slice (.ref a) (.ref sl)) Q E s :=
  slice_any S hl hsl (.int _ _) .none .none (by simp) hsz (fun G vs r => ⟨vs.drop b, by rw [slicePick_from'], r.drop b⟩) h hs ht
theorem filterMap_some {α β : Type} {f : α → Option β} {g : α → β} : ∀ l : List α, (∀ k ∈ l, f k = some (g k)) → l.filterMap f = l.map g
  | [], _ => rfl
  | a :: r, h => by rw [List.filterMap_cons, h a (.head _), List.map_cons, filterMap_some r fun k hk => h k (.tail _ hk)]
theorem slicePick_rev (vs : List Value) : slicePick vs.toArray none none (some (-1)) = vs.reverse.toArray := by
  have e : sliceBounds none none (some (-1)) vs.toArray.size = ((vs.length : Int) - 1, -1, -1) := by simp [sliceBounds]
  unfold slicePick
  rw [e]
  simp only [sliceRange]
  have h1 : ¬ ((-1 : Int) > 0) := by decide
  simp only [h1, if_false]
  congr 1
  by_cases hv : vs.length = 0
  · have : vs = [] := List.length_eq_zero_iff.mp hv
    subst this; simp
  · have hlt : ((vs.length : Int) - 1 > -1) := by omega
    simp only [hlt, if_true]
    have hc : (((vs.length : Int) - 1 - -1 - -1 - 1) / - -1).toNat = vs.length := by simp
    rw [hc]
    apply List.ext_getElem?
    intro j
    rw [List.filterMap_map]
    have hf : ∀ k ∈ List.range vs.length, ((fun i : Nat => vs.toArray[i]?) ∘ fun k : Nat => ((vs.length : Int) - 1 + -1 * (k : Int)).toNat) k = some (vs.getD (vs.length - 1 - k) .none) := by
      intro k hk
      have hk' := List.mem_range.mp hk
      show vs.toArray[((vs.length : Int) - 1 + -1 * (k : Int)).toNat]? = _
      have e2 : ((vs.length : Int) - 1 + -1 * (k : Int)).toNat = vs.length - 1 - k := by omega
      rw [e2]
      have : vs.length - 1 - k < vs.length := by omega
      simp [List.getD, this]
    have : List.filterMap ((fun i : Nat => vs.toArray[i]?) ∘ fun k : Nat => ((vs.length : Int) - 1 + -1 * (k : Int)).toNat) (List.range vs.length) = (List.range vs.length).map fun k => vs.getD (vs.length - 1 - k) .none := by
      exact filterMap_some _ hf
    rw [this, List.getElem?_map]
    by_cases hj : j < vs.length
    · rw [List.getElem?_range hj]
      have h2 : j < vs.reverse.length := by simpa using hj
      rw [List.getElem?_eq_getElem h2, List.getElem_reverse]
      have h3 : vs.length - 1 - j < vs.length := by omega
      simp [List.getD, h3]
    · rw [List.getElem?_eq_none (by simpa using hj), List.getElem?_eq_none (by simpa using hj)]; rfl
theorem slice_rev {sl : Addr} {t : Tok} (S : St H f M D s) (hl : HasL M D a ds) (hsl : s.heap.IsSliceOf sl .none .none (.int (-1) t)) (hsz : ds.length ≤ sizeLine) (h : ∀ c s', St H f M ((.ref c, .list ds.reverse) :: D) s' → Q (.ref c) s')
    (hs : subscripted slice false (.ref a) (.ref sl) = operate [.ref sl, .ref a] (getItem (.ref a) (.ref sl)) := by with_unfolding_all rfl)
    (ht : ∀ r, letTemporaryGo value (.ref a) r = pure () := by intro _; with_unfolding_all rfl) : wpAny (model prog w) A (subscriptTail value slice (.ref a) (.ref sl)) Q E s :=
  slice_any S hl hsl .none .none (.int _ _) (by simp) hsz (fun G vs r => ⟨vs.reverse, slicePick_rev vs, r.reverse⟩) h hs ht

-- changes of a list
theorem appL {Q : Value → Shared → Prop} (S : St H f M D s) (i : Nat) (hi : M[i]? = some (a, .list ds)) (hv : Kn D v d) (hsz : ds.length ≤ sizeLine) (h : ∀ M' s', M.set i (a, .list (ds ++ [d])) = M' → St H f M' D s' → Q .none s') :
    wpAny (model prog w) A (call (.builtin "list.append") [.ref a, v]) Q E s := by
  obtain ⟨G, V⟩ := S.view
  obtain ⟨⟨vs, n, e, r⟩, _⟩ := V.own _ (List.mem_of_getElem? hi)
  refine wpAny_list_append_plain (items := vs.toArray) ⟨n, e⟩ (fun h' hp hs => h _ _ rfl (S.setM hi (fun b o hb e => hs.extBut b o hb e) fun G' V' => ?_)) (by rw [List.size_toArray, r.length]; exact hsz)
  obtain ⟨⟨vs', n', e', r'⟩, _⟩ := V'.own _ (List.mem_of_getElem? hi)
  have := lst_inj (e.symm.trans e')
  subst this
  obtain ⟨m, em⟩ := hp
  refine ⟨vs ++ [v], m, ?_, IsAll.append r' (.cons (hv.is V'.data) .nil)⟩
  rw [em]; simp
theorem methL {pl : Sem Bool} {Q : Value × List Value → Shared → Prop} (S : St H f M D s) (hm : (a, MO.list ds) ∈ M) (h : Q (.builtin "list.append", [.ref a]) s) : wpAny (model prog w) A (getMethod (.ref a) (Str.ofString "append") pl) Q E s := by
  obtain ⟨G, vs, n, V, e, r⟩ := S.look (.inr hm)
  exact getMethod_list_append e rfl rfl h
theorem setL {Q : Unit → Shared → Prop} (S : St H f M D s) (i : Nat) (hi : M[i]? = some (a, .list ds)) (hv : Kn D v d) (h0 : 0 ≤ k) (h1 : k < ds.length) (hsz : ds.length ≤ sizeLine) (h : ∀ M' s', M.set i (a, .list (ds.set k.toNat d)) = M' → St H f M' D s' → Q () s') :
    wpAny (model prog w) A (setItem (.ref a) (.int k t) v) Q E s := by
  obtain ⟨G, V⟩ := S.view
  obtain ⟨⟨vs, n, e, r⟩, _⟩ := V.own _ (List.mem_of_getElem? hi)
  have hlen := r.length
  have hz : sizeLine = 2 ^ 24 := rfl
  refine ki_setAt (items := vs.toArray) (n := n) e h0 (by omega) (by rw [List.size_toArray]; omega) (h _ _ rfl (S.setM hi (fun b o hb e => (Heap.SameBut.update ..).extBut b o hb e) fun G' V' => ?_))
  obtain ⟨⟨vs', n', e', r'⟩, _⟩ := V'.own _ (List.mem_of_getElem? hi)
  have := lst_inj (e.symm.trans e')
  subst this
  refine ⟨vs.set k.toNat v, n, ?_, IsAll.set (hv.is V'.data) r' _⟩
  rw [Heap.get?_update_self _ e (by simp [Obj.mapSeq, Obj.isFreed])]
  simp [Obj.mapSeq]
end
end Mine
namespace Mine

section
variable {prog : Program} {w : World} {A : Around} {E : Value → Shared → Prop} {H : Heap} {f : Fm} {M : List (Addr × MO)} {D : List (Value × PyData)} {s : Shared} {env : Env} {mg mb : Str → Option Value}
  {L a b : Addr} {l : List (Str × AS)} {x : Str} {pos : Pos} {v : Value} {Q : Value → Shared → Prop} {vs : List Value} {ds es : List PyData} {p : Addr × MO} {h' : Heap} {tk : Nat}

theorem ns_unique {h : Heap} {a : Addr} {m m' : Str → Option Value} (hn : h.Ns a m) (hn2 : h.Ns a m') : m = m' := by
  obtain ⟨o, es, ep, ho, hd, _, hf⟩ := hn
  obtain ⟨o', es', ep', ho', hd', _, hf'⟩ := hn2
  rw [ho] at ho'; cases ho'
  rw [hd] at hd'; cases hd'
  funext y; rw [← hf, ← hf']
theorem St.addML (S : St H f ((L, .ns l) :: M) D s) {a : Addr} {mo : MO} (hn : s.heap.get? a = none) (hk : ∀ b o, b ≠ L → s.heap.get? b = some o → h'.get? b = some o) (hns : ∀ m, s.heap.Ns L m → h'.Ns L m)
    (hat : ∀ G, Views f ((L, .ns l) :: M) D s.heap G → mo.at G h' a) : St H f ((L, .ns l) :: (a, mo) :: M) D { s with heap := h', toks := tk } := by
  obtain ⟨G, V⟩ := S.view
  have hG : G a = none := by cases e : G a with | none => rfl | some o => rw [V.sub a o e] at hn; cases hn
  have hB : f.s0.heap.get? a = none := by cases e : f.s0.heap.get? a with | none => rfl | some o => rw [S.keep a o e] at hn; cases hn
  have ⟨hL1, hL2, hL3⟩ := V.own _ (.head _)
  have hL2' : G L = none := hL2
  have hL3' : f.s0.heap.get? L = none := hL3
  have hne : ∀ p ∈ (L, MO.ns l) :: M, p.1 ≠ a := fun p hp q => by obtain ⟨o, ho⟩ := (V.own p hp).1.live; rw [q, hn] at ho; cases ho
  have hnd := S.nodup
  rw [List.map_cons, List.nodup_cons] at hnd
  refine S.mk' tk (fun b o e => hk b o (fun q => by rw [q, hL3'] at e; cases e) (S.keep b o e))
    ⟨G, ⟨fun b o e => hk b o (fun q => by rw [q, hL2'] at e; cases e) (V.sub b o e), V.grew, V.new, V.data, fun p hp => ?_⟩⟩ ?_
  · rcases List.mem_cons.mp hp with rfl | hp
    · obtain ⟨m, hm, hl⟩ := hL1
      exact ⟨⟨m, hns m hm, hl⟩, hL2, hL3⟩
    · rcases List.mem_cons.mp hp with rfl | hp
      · exact ⟨hat G V, hG, hB⟩
      · have ⟨x, y, z⟩ := V.own p (.tail _ hp)
        exact ⟨x.move (fun _ _ e => e) fun o e => hk _ o (fun q => hnd.1 (List.mem_map.mpr ⟨p, hp, q⟩)) e, y, z⟩
  · rw [List.map_cons, List.map_cons, List.nodup_cons, List.nodup_cons]
    refine ⟨fun hm => ?_, fun hm => ?_, hnd.2⟩
    · rcases List.mem_cons.mp hm with q | hm
      · exact hne _ (.head _) q
      · exact hnd.1 hm
    · obtain ⟨p, hp, q⟩ := List.mem_map.mp hm
      exact hne p (.tail _ hp) q

theorem St.fr (S : St H f ((L, .ns l) :: M) D s) : ∃ m news, Fr {} L s.heap m ∧ News {} L s.heap news ∧ (∀ b o, b ≠ L → s.heap.get? b = some o → (b, o) ∈ news) ∧ ∀ m', s.heap.Ns L m' → m' = m := by
  obtain ⟨G, m, V, hn, hl⟩ := S.nsAt
  refine ⟨m, (List.range s.heap.objs.size).filterMap (fun b => if b = L then none else (s.heap.get? b).map fun o => (b, o)), ⟨hn, fun b o e => (by cases e), Nat.zero_le _⟩, fun p hp => ?_, fun b o hb e => ?_, fun m' hm' => ns_unique hm' hn⟩
  · obtain ⟨b, hb, e⟩ := List.mem_filterMap.mp hp
    split at e
    · cases e
    · rename_i hne
      cases q : s.heap.get? b with
      | none => rw [q] at e; cases e
      | some o => rw [q] at e; cases e; exact ⟨q, hne, rfl⟩
  · refine List.mem_filterMap.mpr ⟨b, List.mem_range.mpr (Heap.lt_size e), ?_⟩
    rw [if_neg hb, e]; rfl

theorem foldl_append_replicate (items : Array Value) : ∀ (n : Nat) (acc : Array Value), List.foldl (fun x1 x2 => x1 ++ x2) acc (List.replicate n items) = acc ++ (List.replicate n items.toList).flatten.toArray
  | 0, acc => by simp
  | n + 1, acc => by
    rw [List.replicate_succ, List.foldl_cons, foldl_append_replicate items n, List.replicate_succ, List.flatten_cons]
    apply Array.toList_inj.mp
    simp
/-- [..] * n -/
theorem mulL {k : Int} {t : Tok} (S : St H f ((L, .ns l) :: M) D s) (hl : HasL ((L, .ns l) :: M) D a ds) (hlo : -(2 ^ 63) ≤ k) (hhi : k < 2 ^ 63) (hsz : ds.length * k.toNat ≤ 2 ^ 24)
    (h : ∀ c s', St H f ((L, .ns l) :: (c, .list (List.replicate k.toNat ds).flatten) :: M) D s' → Q (.ref c) s') : wpAny (model prog w) A (binaryOp .Mult (.ref a) (.int k t)) Q E s := by
  obtain ⟨G, vs, n, V, e, r⟩ := S.look hl
  obtain ⟨m, news, F, N, hin, hl'⟩ := S.fr
  refine mul_list F N (items := vs.toArray) (k := n) e hlo hhi (by rw [List.size_toArray, r.length]; exact hsz) fun h' F' N' => h _ _ ?_
  refine S.addML (mo := .list (List.replicate k.toNat ds).flatten) (tk := s.toks) (size_none _) (fun b o hb e => (N' (b, o) (.tail _ (hin b o hb e))).1) (fun m' hm' => hl' m' hm' ▸ F'.ns) fun G' V' => ?_
  obtain ⟨vs', n', e', r'⟩ := V'.look hl
  have := lst_inj (e.symm.trans e')
  subst this
  refine ⟨(List.replicate k.toNat vs).flatten, 0, (N' _ (.head _)).1.trans ?_, r'.replicate _⟩
  rw [foldl_append_replicate]
  by_cases hv : vs = []
  · subst hv; simp
  · have : vs.toArray.isEmpty = false := by simpa using hv
    rw [this]; simp
/-- a + b of lists -/
theorem catL (S : St H f ((L, .ns l) :: M) D s) (hl : HasL ((L, .ns l) :: M) D a ds) (hb : HasL ((L, .ns l) :: M) D b es) (hsz : ds.length + es.length ≤ sizeLine)
    (h : ∀ c s', St H f ((L, .ns l) :: (c, .list (ds ++ es)) :: M) D s' → Q (.ref c) s') : wpAny (model prog w) A (binaryOp .Add (.ref a) (.ref b)) Q E s := by
  obtain ⟨G, vs, n, V, e, r⟩ := S.look hl
  obtain ⟨G2, ws, n2, V2, e2, r2⟩ := S.look hb
  obtain ⟨m, news, F, N, hin, hl'⟩ := S.fr
  refine add_lists F N (isList_of e) (isList_of e2) (fun h' F' N' => h _ _ ?_) (by rw [r.length, r2.length]; exact hsz)
  refine S.addML (mo := .list (ds ++ es)) (tk := s.toks) (size_none _) (fun b o hb e => (N' (b, o) (.tail _ (hin b o hb e))).1) (fun m' hm' => hl' m' hm' ▸ F'.ns) fun G' V' => ?_
  obtain ⟨vs', n', e', r'⟩ := V'.look hl
  obtain ⟨ws', n2', e2', r2'⟩ := V'.look hb
  have := lst_inj (e.symm.trans e')
  subst this
  have := lst_inj (e2.symm.trans e2')
  subst this
  exact ⟨vs ++ ws, 0, (N' _ (.head _)).1, r'.append r2'⟩

-- == and != of data
theorem Kn.reads {d : PyData} (S : St H f M D s) (h : Kn D v d) : ∃ as, Reads s.heap v d as := by
  obtain ⟨G, V⟩ := S.view
  exact (h.is V.data).reads V.sub
theorem eqD {v u : Value} {d e : PyData} {k : Nat} (hA : Ok k A) (S : St H f M D s) (hv : Kn D v d) (hu : Kn D u e) (sd : SeqAt.shaped d = true) (se : SeqAt.shaped e = true) (h : Q (.bool (PyData.eqv d e)) s) : wpAny (model prog w) A (compareOp .Eq v u) Q E s := by
  obtain ⟨as, r⟩ := hv.reads S
  obtain ⟨bs, q⟩ := hu.reads S
  exact eq_dataH r q sd se (by have := hA.u; omega) h
theorem neD {v u : Value} {d e : PyData} {k : Nat} (hA : Ok k A) (S : St H f M D s) (hv : Kn D v d) (hu : Kn D u e) (sd : SeqAt.shaped d = true) (se : SeqAt.shaped e = true) (h : Q (.bool (!PyData.eqv d e)) s) : wpAny (model prog w) A (compareOp .NotEq v u) Q E s := by
  obtain ⟨as, r⟩ := hv.reads S
  obtain ⟨bs, q⟩ := hu.reads S
  exact ne_dataH r q sd se (by have := hA.u; omega) h

-- taking a tuple apart
theorem isTup_raw {n : Nat} (S : St H f M D s) (hm : (a, MO.raw (tupObj vs n)) ∈ M) : s.heap.IsTuple a vs.toArray := by
  obtain ⟨G, V⟩ := S.view
  exact ⟨_, (V.own _ hm).1, rfl, n, rfl⟩
theorem St.grow1 (S : St H f M D s) (he : Heap.ExtBut s.heap.objs.size s.heap h') : St H f M D { s with heap := h', toks := tk } :=
  S.grow fun b o e => he b o (Nat.ne_of_lt (Heap.lt_size e)) e
theorem unpT {Q : Unit → Shared → Prop} {elts : List Expr} {k n : Nat} (hA : Ok k A) {x1 : Nat} (S : St H f M D s) (hm : (a, MO.raw (tupObj vs n)) ∈ M) (hlen : (assignEach elts env).length = vs.length) (hst : List.findIdx? (fun x => x.1) (assignEach elts env) = none)
    (h : ∀ s', St H f M D s' → wpAny (model prog w) A (assignInOrder ((assignEach elts env).map (·.2)) vs) Q E s') : wpAny (model prog w) A (assign (.Tuple elts x1 pos) env (.ref a)) Q E s :=
  wpAny_assign_Tuple hA.h (isTup_raw S hm) (by rw [List.size_toArray]; exact hlen) hst fun h' he => h _ (S.grow1 (tk := s.toks) he)
theorem unpI {Q : List Value → Shared → Prop} {k n j : Nat} (hA : Ok k A) (S : St H f M D s) (hm : (a, MO.raw (tupObj vs n)) ∈ M) (hj : j = vs.length) (h : ∀ s', St H f M D s' → Q vs s') : wpAny (model prog w) A (unpackItems (.ref a) j none) Q E s := by
  have e : j = vs.toArray.size := by rw [List.size_toArray]; exact hj
  subst e
  exact wpAny_unpackItems_tuple hA.h (isTup_raw S hm) fun h' he => h _ (S.grow1 (tk := s.toks) he)
end

inductive Args (G : View) : List Value → List AS → Prop
  | nil : Args G [] []
  | v (x : Value) {vs : List Value} {as : List AS} : Args G vs as → Args G (x :: vs) (.v x :: as)
  | i (n : Int) (t : Tok) {vs : List Value} {as : List AS} : Args G vs as → Args G (.int n t :: vs) (.i n :: as)
  | d {u : Value} {d : PyData} {vs : List Value} {as : List AS} : Is G u d → Args G vs as → Args G (u :: vs) (.d d :: as)
inductive KArgs (D : List (Value × PyData)) : List Value → List AS → Prop
  | nil : KArgs D [] []
  | v (x : Value) {vs : List Value} {as : List AS} : KArgs D vs as → KArgs D (x :: vs) (.v x :: as)
  | i (n : Int) (t : Tok) {vs : List Value} {as : List AS} : KArgs D vs as → KArgs D (.int n t :: vs) (.i n :: as)
  | d {u : Value} {d : PyData} {vs : List Value} {as : List AS} : Kn D u d → KArgs D vs as → KArgs D (u :: vs) (.d d :: as)
theorem KArgs.args {D : List (Value × PyData)} {G : View} (hD : ∀ p ∈ D, Is G p.1 p.2) : ∀ {vs : List Value} {as : List AS}, KArgs D vs as → Args G vs as
  | _, _, .nil => .nil
  | _, _, .v x r => .v x (KArgs.args hD r)
  | _, _, .i n t r => .i n t (KArgs.args hD r)
  | _, _, .d h r => .d (h.is hD) (KArgs.args hD r)

/-- the contract of a def that changes nothing that stands: from such arguments it comes back with this datum (none: None) -/
def Spec (prog : Program) (w : World) (H : Heap) (k : Nat) (fa : Addr) (as : List AS) (d : Option PyData) : Prop :=
  ∀ (A : Around) (s : Shared) (G : View) (vs : List Value) (Q E : Value → Shared → Prop), Ok k A → (∀ b o, H.get? b = some o → s.heap.get? b = some o) → Sub G s.heap → Args G vs as →
    (∀ r G' h' tk, (∀ b o, s.heap.get? b = some o → h'.get? b = some o) → VLe G G' → Sub G' h' → (∀ b o, G' b = some o → G b = some o ∨ s.heap.get? b = none) → (match d with | some d => Is G' r d | none => r = .none) → Q r { s with heap := h', toks := tk }) →
    wpAny (model prog w) A (call (.ref fa) vs) Q E s

section
variable {prog : Program} {w : World} {A : Around} {E : Value → Shared → Prop} {H : Heap} {f : Fm} {M : List (Addr × MO)} {D : List (Value × PyData)} {s : Shared} {Q : Value → Shared → Prop} {fa : Addr} {as : List AS} {vs : List Value} {k : Nat} {d : PyData}

theorem callAny {d : Option PyData} (sp : Spec prog w H k fa as d) (S : St H f M D s) (hA : Ok k A) (ha : KArgs D vs as) (h : ∀ r s', St H f M (match d with | some d => (r, d) :: D | none => D) s' → (d = none → r = .none) → Q r s') : wpAny (model prog w) A (call (.ref fa) vs) Q E s := by
  obtain ⟨G, V⟩ := S.view
  refine sp A s G vs Q E hA S.world V.sub (ha.args V.data) fun r G' h' tk hk hle hs hnew hr => h r _ ?_ ?_
  · refine S.mk' tk (fun b o e => hk b o (S.keep b o e)) ⟨G', ⟨hs, fun b o e => hle b o (V.grew b o e), fun b o e => ?_, fun p hp => ?_, fun p hp => ?_⟩⟩ S.nodup
    · rcases hnew b o e with h1 | h1
      · exact V.new b o h1
      · right
        cases e2 : f.s0.heap.get? b with
        | none => rfl
        | some o2 => rw [S.keep b o2 e2] at h1; cases h1
    · cases d with
      | none => exact (V.data p hp).mono hle
      | some d =>
        rcases List.mem_cons.mp hp with rfl | hp
        · exact hr
        · exact (V.data p hp).mono hle
    · have ⟨x, y, z⟩ := V.own p hp
      refine ⟨x.move hle fun o e => hk _ o e, ?_, z⟩
      cases e : G' p.1 with
      | none => rfl
      | some o =>
        rcases hnew _ o e with h1 | h1
        · rw [y] at h1; cases h1
        · obtain ⟨o2, ho2⟩ := x.live; rw [h1] at ho2; cases ho2
  · intro e; subst e; exact hr
theorem callD (sp : Spec prog w H k fa as (some d)) (S : St H f M D s) (hA : Ok k A) (ha : KArgs D vs as) (h : ∀ r s', St H f M ((r, d) :: D) s' → Q r s') : wpAny (model prog w) A (call (.ref fa) vs) Q E s :=
  callAny sp S hA ha fun r s' S' _ => h r s' S'
theorem callR {ds : List PyData} (sp : Spec prog w H k fa as (some (.list ds))) (S : St H f M D s) (hA : Ok k A) (ha : KArgs D vs as) (h : ∀ a s', St H f M ((.ref a, .list ds) :: D) s' → Q (.ref a) s') : wpAny (model prog w) A (call (.ref fa) vs) Q E s :=
  callD sp S hA ha fun r s' S' => by obtain ⟨a, rfl⟩ := S'.ref (.head _); exact h a s' S'
theorem callT {ds : List PyData} (sp : Spec prog w H k fa as (some (.tuple ds))) (S : St H f M D s) (hA : Ok k A) (ha : KArgs D vs as) (h : ∀ a s', St H f M ((.ref a, .tuple ds) :: D) s' → Q (.ref a) s') : wpAny (model prog w) A (call (.ref fa) vs) Q E s :=
  callD sp S hA ha fun r s' S' => by obtain ⟨a, rfl⟩ := S'.refT (.head _); exact h a s' S'
theorem callI {i : Int} (sp : Spec prog w H k fa as (some (.int i))) (S : St H f M D s) (hA : Ok k A) (ha : KArgs D vs as) (h : ∀ t s', St H f M D s' → Q (.int i t) s') : wpAny (model prog w) A (call (.ref fa) vs) Q E s :=
  callD sp S hA ha fun r s' S' => by obtain ⟨t, rfl⟩ := S'.int (.head _); exact h t s' (S'.less (List.Sublist.refl _) fun p hp => .tail _ hp)
theorem callN (sp : Spec prog w H k fa as none) (S : St H f M D s) (hA : Ok k A) (ha : KArgs D vs as) (h : ∀ s', St H f M D s' → Q .none s') : wpAny (model prog w) A (call (.ref fa) vs) Q E s :=
  callAny sp S hA ha fun r s' S' e => by rw [e rfl]; exact h s' S'
end

/-- how a def's body ends -/
def Ret (H : Heap) (f : Fm) (d : Option PyData) (fl : Flow) (s : Shared) : Prop :=
  match d with
  | some d => ∃ v M D, fl = .ret v ∧ St H f M D s ∧ Kn D v d
  | none => (fl = .next ∨ fl = .ret .none) ∧ ∃ M D, St H f M D s

section
variable {prog : Program} {w : World} {A : Around} {E : Value → Shared → Prop} {H : Heap} {D : List (Value × PyData)} {s : Shared} {Q : Value → Shared → Prop} {fa : Addr} {vs : List Value} {k : Nat} {mg mb : Str → Option Value} {G : View}
  {name qual : Str} {params : Arguments} {body : List Stmt} {scope : Scope} {dV kV doc pm cdv ct oc : Value} {an od : Option Addr} {osl : Array (Option Value)} {binds : List (Str × Value)} {d : Option PyData}

def retVal : Flow → Value
  | .ret v => v
  | _ => .none
theorem ret_post {f : Fm} {fl : Flow} {s' : Shared} (hf : f = ⟨s, G⟩) (hr : Ret H f d fl s')
    (hQ : ∀ r G' h' tk, (∀ b o, s.heap.get? b = some o → h'.get? b = some o) → VLe G G' → Sub G' h' → (∀ b o, G' b = some o → G b = some o ∨ s.heap.get? b = none) → (match d with | some d => Is G' r d | none => r = .none) → Q r { s with heap := h', toks := tk }) :
    Q (retVal fl) s' := by
  subst hf
  cases d with
  | some d =>
    obtain ⟨v, M, D, rfl, S, hv⟩ := hr
    obtain ⟨G', V⟩ := S.view
    obtain ⟨h, tk, e⟩ := S.same
    subst e
    exact hQ v G' h tk (fun b o e => S.keep b o e) V.grew V.sub V.new (hv.is V.data)
  | none =>
    obtain ⟨hfl, M, D, S⟩ := hr
    obtain ⟨G', V⟩ := S.view
    obtain ⟨h, tk, e⟩ := S.same
    subst e
    have e2 : retVal fl = .none := by rcases hfl with rfl | rfl <;> rfl
    rw [e2]
    exact hQ _ G' h tk (fun b o e => S.keep b o e) V.grew V.sub V.new rfl

theorem lookup_map {G : View} {x : Str} {e : AS} : ∀ {l : List (Str × Value)}, (l.map fun p => (p.1, AS.v p.2)).lookup x = some e → ∃ v, l.lookup x = some v ∧ e.ok G v
  | (y, v) :: r, he => by
    rw [List.map_cons, List.lookup_cons] at he
    rw [List.lookup_cons]
    cases hb : x == y with
    | true => rw [hb] at he; cases he; exact ⟨v, rfl, rfl⟩
    | false => rw [hb] at he; exact lookup_map he
theorem enter (W : Wd w mg mb H) (hA : Ok (k + 1) A) (hH : ∀ b o, H.get? b = some o → s.heap.get? b = some o) (hs : Sub G s.heap) (hD : ∀ p ∈ D, Is G p.1 p.2)
    (ho : (KW w).lookup fa = some ⟨oc, od, .func (fnOf name qual params body scope dV kV doc pm an cdv ct), osl⟩) (hcd : codeIn (KW w) cdv qual = true)
    (hbind : bindArgs (fnOf name qual params body scope dV kV doc pm an cdv ct) ⟨vs, []⟩ = pure binds) (hloc : ∀ y ∈ binds, scope.names.lookup y.1 = some .local) (hcell : ∀ x ∈ scope.names, x.2 ≠ .cell)
    (hQ : ∀ r G' h' tk, (∀ b o, s.heap.get? b = some o → h'.get? b = some o) → VLe G G' → Sub G' h' → (∀ b o, G' b = some o → G b = some o ∨ s.heap.get? b = none) → (match d with | some d => Is G' r d | none => r = .none) → Q r { s with heap := h', toks := tk })
    (h : ∀ A f L s', Ok k A → St H f [(L, .ns (binds.reverse.map fun p => (p.1, AS.v p.2)))] D s' → wpAny (model prog w) A (execs body (envX qual scope L fa cdv [])) (fun fl s'' => Ret H f d fl s'') (fun _ _ => False) s')
    (hco : scope.isCoroutine = false := by rfl) (hgen : scope.isGenerator = false := by rfl) (hk : scope.kind = .function := by rfl) :
    wpAny (model prog w) A (call (.ref fa) vs) Q E s := by
  have hg := hH _ _ (W.X _ _ ho)
  refine wpAny_call (codeAny_call_def (fd := fnOf name qual params body scope dV kV doc pm an cdv ct) (body := body) (binds := binds) (by have := hA.d; omega) hg rfl (W.T.nolimit.keeps hH) ((codeRec_of W.X hcd).keeps hH) rfl (BindsTo.of_eq hbind) hcell hloc (fun h₀ hns hk₀ => ?_) hco hgen hk)
  refine wpAny_mono (h _ ⟨s, G⟩ s.heap.objs.size _ hA.deeper ⟨⟨h₀, s.toks + binds.length, rfl⟩, hH, hk₀, ⟨G, ⟨fun b o e => hk₀ b o (hs b o e), fun _ _ e => e, fun _ _ e => .inl e, hD, fun p hp => ?_⟩⟩, ?_⟩) (fun fl s'' hr => by have := ret_post rfl hr hQ; cases fl <;> exact this) (fun _ _ x => x.elim)
  · rcases List.mem_cons.mp hp with rfl | hp
    · refine ⟨⟨_, hns, fun x e he => lookup_map he⟩, ?_, size_none _⟩
      cases e : G s.heap.objs.size with
      | none => rfl
      | some o => have := hs _ _ e; rw [size_none] at this; cases this
    · cases hp
  · simp
end
end Mine
namespace Mine

abbrev rangeObj (a b c : Int) (t u v : Tok) : Obj := { cls := .type "range", dict := none, data := .fields #[.int a t, .int b u, .int c v], slots := #[] }
abbrev rgObj (x left step : Int) : Obj := { cls := .type "range_iterator", dict := none, data := .fields #[rawInt x, rawInt left, rawInt step], slots := #[] }
/-- what a loop's code is to leave behind -/
def RQ (Q : Flow → Shared → Prop) (E : Value → Shared → Prop) (r : Result) (s : Shared) : Prop := match r with | .ok f => Q f s | .error e => E e s
def IsLI (o : Obj) (l : Addr) (i : Nat) : Prop := o.cls = .type "list_iterator" ∧ o.data = .fields #[.ref l, .int i 0]

section
variable {prog : Program} {w : World} {A : Around} {E : Value → Shared → Prop} {H : Heap} {f : Fm} {M : List (Addr × MO)} {D : List (Value × PyData)} {s : Shared} {env : Env} {mg mb : Str → Option Value}
  {L a b I : Addr} {l : List (Str × AS)} {x : Str} {pos : Pos} {v : Value} {vs : List Value} {ds es : List PyData} {p : Addr × MO} {k : Nat}

theorem While_ {Q : Flow → Shared → Prop} {test : Expr} {body : List Stmt} (J : Nat → Shared → Prop) (n : Nat) (h0 : J n s)
    (turn : ∀ n s, J n s → ∀ E', wpAny (model prog w) A (isTrue test env (eval test env)) (fun b s₂ => if b then wpAny (model prog w) A (execs body env) (fun fl s₃ => match fl with
      | .next | .cont => ∃ m, m < n ∧ J m s₃ | .brk => Q .next s₃ | .ret v => Q (.ret v) s₃) E' s₂ else Q .next s₂) E' s) : wpAny (model prog w) A (exec (.While test body [] pos) env) Q E s := by
  refine wpAny_While (codeAny_whileLoop J (fun n s hJ => wpAny_mono (turn n s hJ _) (fun b s₂ h => ?_) fun _ _ e => e) n h0)
  cases b with
  | true => exact wpAny_mono h (fun fl s₃ h₃ => by cases fl <;> exact h₃) fun _ _ e => e
  | false => exact wpAny_execs_nil h

theorem For_ {Q : Flow → Shared → Prop} {target iter : Expr} {body : List Stmt}
    (h : wpAny (model prog w) A (eval iter env) (fun x s₁ => wpAny (model prog w) A (pyIter x) (fun it s₂ => codeAny (model prog w) A (.forLoop target it body [] env) (RQ Q (cameBackBy (model prog w) A env E)) s₂) E s₁) E s)
    (hs : ∀ x, foldedSetIterable iter env x = pure x := by intro _; rfl) : wpAny (model prog w) A (exec (.For target iter body [] pos) env) Q E s :=
  wpAny_For (wpAny_mono h (fun x s₁ h₁ => wpAny_mono h₁ (fun it s₂ h₂ => codeAny_mono h₂ fun r s' hr => by cases r <;> exact hr) fun _ _ e => e) fun _ _ e => e) hs
theorem Loop_ {Q : Flow → Shared → Prop} {Er : Value → Shared → Prop} {target : Expr} {body : List Stmt} {it : Value} (J : Nat → Shared → Prop) (n : Nat) (h0 : J n s)
    (turn : ∀ n s, J n s → ∀ E', wpAny (model prog w) A (pyNext it) (fun r s₁ => match r with
      | none => Q .next s₁
      | some v => wpAny (model prog w) A (assign target env v) (fun _ s₂ => wpAny (model prog w) A (execs body env) (fun fl s₃ => match fl with
          | .next | .cont => ∃ m, m < n ∧ J m s₃ | .brk => Q .next s₃ | .ret v => Q (.ret v) s₃) E' s₂) E' s₁) E' s)
    (ht : ∀ v, letOwnedTupleGo target it v = pure () := by intro _; rfl) :
    codeAny (model prog w) A (.forLoop target it body [] env) (RQ Q Er) s := by
  refine codeAny_forLoop J (fun n s hJ => wpAny_mono (turn n s hJ _) (fun r s₁ h => ?_) fun _ _ e => e) n h0 ht
  cases r with
  | none => exact wpAny_execs_nil h
  | some v => exact wpAny_mono h (fun _ s₂ h₂ => wpAny_mono h₂ (fun fl s₃ h₃ => by cases fl <;> exact h₃) fun _ _ e => e) fun _ _ e => e

theorem St.pushRaw (S : St H f (p :: M) D s) (o : Obj) (tk : Nat) (ho : o.isFreed = false := by rfl) : St H f (p :: (s.heap.objs.size, .raw o) :: M) D { s with heap := s.heap.push o, toks := tk } :=
  (S.addM (mo := .raw o) (tk := tk) (size_none _) (push_keeps _) fun G V => Heap.get?_push_size _ ho).swap
-- range
theorem range1 {Q : Value → Shared → Prop} {n : Int} {t : Tok} (S : St H f (p :: M) D s) (h : ∀ r t₁ t₃ s', St H f (p :: (r, .raw (rangeObj 0 n 1 t₁ t t₃)) :: M) D s' → Q (.ref r) s') : wpAny (model prog w) A (call (.type "range") [.int n t]) Q E s :=
  call_range_1 (h _ _ _ _ (S.pushRaw _ (s.toks + 1 + 1)))
theorem range2 {Q : Value → Shared → Prop} {n m : Int} {t u : Tok} (S : St H f (p :: M) D s) (h : ∀ r t₃ s', St H f (p :: (r, .raw (rangeObj n m 1 t u t₃)) :: M) D s' → Q (.ref r) s') : wpAny (model prog w) A (call (.type "range") [.int n t, .int m u]) Q E s :=
  call_range_2 (h _ _ _ (S.pushRaw _ (s.toks + 1)))
theorem range3 {Q : Value → Shared → Prop} {n m c : Int} {t u v : Tok} (S : St H f (p :: M) D s) (hc : c ≠ 0) (hcs : c.natAbs < 1073741824) (h : ∀ r s', St H f (p :: (r, .raw (rangeObj n m c t u v)) :: M) D s' → Q (.ref r) s') :
    wpAny (model prog w) A (call (.type "range") [.int n t, .int m u, .int c v]) Q E s :=
  call_range_3 hc (h _ _ (S.pushRaw _ s.toks)) (.inl (PyProof.noPylong_small hcs))
theorem iterR {Q : Value → Shared → Prop} {n m c : Int} {t u v : Tok} {r : Addr} (S : St H f (p :: (r, .raw (rangeObj n m c t u v)) :: M) D s) (hs : Builtin.Range.small n m c = true)
    (h : ∀ I s', St H f (p :: (I, .raw (rgObj n (Builtin.Range.rangeSize n m c) c)) :: M) D s' → Q (.ref I) s') : wpAny (model prog w) A (pyIter (.ref r)) Q E s := by
  obtain ⟨G, V⟩ := S.view
  have hr : IsRange s.heap r n m c t u v := (V.own _ (.tail _ (.head _))).1
  refine wpAny_pyIter_range hr hs (h _ _ ?_)
  have S1 := (S.addM (mo := .raw (rgObj n (Builtin.Range.rangeSize n m c) c)) (tk := s.toks) (size_none _) (push_keeps _) fun G V => Heap.get?_push_size _ rfl).swap
  exact S1.less (by refine .cons_cons _ (.cons_cons _ (.cons _ (List.Sublist.refl _))) ) fun _ h => h
theorem nextR {Q : Option Value → Shared → Prop} {x left step : Int} (S : St H f M D s) (j : Nat) (hj : M[j]? = some (I, .raw (rgObj x left step))) (hl : 0 < left)
    (h : ∀ t M' s', M.set j (I, .raw (rgObj (x + step) (left - 1) step)) = M' → St H f M' D s' → Q (some (.int x t)) s') : wpAny (model prog w) A (pyNext (.ref I)) Q E s := by
  obtain ⟨G, V⟩ := S.view
  exact wpAny_pyNext_range_item (V.own _ (List.mem_of_getElem? hj)).1 hl fun h' hi hs => h _ _ _ rfl (S.setM (tk := s.toks + 1) hj (fun b o hb e => hs.extBut b o hb e) fun G V => hi)
theorem St.dropM (S : St H f M D s) {h' : Heap} {tk : Nat} (j : Nat) {mo : MO} (hj : M[j]? = some (I, mo)) (hk : ∀ b o, b ≠ I → s.heap.get? b = some o → h'.get? b = some o) : St H f (M.eraseIdx j) D { s with heap := h', toks := tk } := by
  obtain ⟨G, V⟩ := S.view
  have ⟨x, hG, hB⟩ := V.own _ (List.mem_of_getElem? hj)
  have hG' : G I = none := hG
  have hB' : f.s0.heap.get? I = none := hB
  refine S.mk' tk (fun b o e => hk b o (fun q => by rw [q, hB'] at e; cases e) (S.keep b o e)) ⟨G, ⟨fun b o e => hk b o (fun q => by rw [q, hG'] at e; cases e) (V.sub b o e), V.grew, V.new, V.data, fun p hp => ?_⟩⟩ (S.nodup.sublist ((List.eraseIdx_sublist M j).map _))
  have hp' : p ∈ M := (List.eraseIdx_sublist M j).subset hp
  have ⟨x, y, z⟩ := V.own p hp'
  obtain ⟨i, hi⟩ := List.getElem?_of_mem hp
  have hne : p.1 ≠ I := by
    rw [List.getElem?_eraseIdx] at hi
    split at hi
    · exact other_ne S.nodup hj hi (by omega)
    · exact other_ne S.nodup hj hi (by omega)
  exact ⟨x.move (fun _ _ e => e) fun o e => hk _ o hne e, y, z⟩
theorem nextRend {Q : Option Value → Shared → Prop} {x left step : Int} (hA : Ok k A) (S : St H f M D s) (j : Nat) (hj : M[j]? = some (I, .raw (rgObj x left step))) (hl : left ≤ 0) (h : ∀ M' s', M.eraseIdx j = M' → St H f M' D s' → Q none s') : wpAny (model prog w) A (pyNext (.ref I)) Q E s := by
  obtain ⟨G, V⟩ := S.view
  exact wpAny_pyNext_range_end hA.h (V.own _ (List.mem_of_getElem? hj)).1 hl fun h' he => h _ _ rfl (S.dropM (tk := s.toks) j hj fun b o hb e => he b o hb e)

-- lists
theorem iterL {Q : Value → Shared → Prop} (S : St H f (p :: M) D s) (hl : HasL (p :: M) D a ds) (h : ∀ I o s', IsLI o a 0 → St H f (p :: (I, .raw o) :: M) D s' → Q (.ref I) s') : wpAny (model prog w) A (pyIter (.ref a)) Q E s := by
  obtain ⟨G, vs, n, V, e, r⟩ := S.look hl
  exact wpAny_pyIter_list (isList_of e) (h _ _ _ ⟨rfl, rfl⟩ (S.addM (mo := .raw { cls := .type "list_iterator", data := .fields #[.ref a, .int 0 0] }) (tk := s.toks) (size_none _) (push_keeps _) fun G V => Heap.get?_push_size _ rfl).swap)
theorem nextL {Q : Option Value → Shared → Prop} {o : Obj} {i : Nat} {d : PyData} (S : St H f M D s) (j : Nat) (hj : M[j]? = some (I, .raw o)) (ho : IsLI o a i) (hl : HasL M D a ds) (hd : ds[i]? = some d)
    (h : ∀ v o' M' s', IsLI o' a (i + 1) → M.set j (I, .raw o') = M' → St H f M' ((v, d) :: D) s' → Q (some v) s') : wpAny (model prog w) A (pyNext (.ref I)) Q E s := by
  obtain ⟨G, vs, n, V, e, r⟩ := S.look hl
  obtain ⟨v, hv, hvd⟩ := r.get hd
  have hI : s.heap.get? I = some o := (V.own _ (List.mem_of_getElem? hj)).1
  refine wpAny_pyNext_list_item (x := v) ⟨o, hI, ho⟩ (isList_of e) (by simpa using hv) fun h' hi hs => ?_
  obtain ⟨o', ho', hc', hd'⟩ := hi
  have S1 : St H f (M.set j (I, .raw o')) D { s with heap := h' } := S.setM (tk := s.toks) hj (fun b o hb e => hs.extBut b o hb e) fun G V => ho'
  refine h v o' _ _ ⟨hc', hd'⟩ rfl ?_
  have S0 : St H f M ((v, d) :: D) s := S.more fun G' V' => by
    obtain ⟨vs', n', e', r'⟩ := V'.look hl
    have := lst_inj (e.symm.trans e')
    subst this
    obtain ⟨v', hv', hvd'⟩ := r'.get hd
    rw [hv] at hv'; cases hv'
    exact hvd'
  exact S0.setM (tk := s.toks) hj (fun b o hb e => hs.extBut b o hb e) fun G V => ho'
theorem nextLend {Q : Option Value → Shared → Prop} {o : Obj} {i : Nat} (hA : Ok k A) (S : St H f M D s) (j : Nat) (hj : M[j]? = some (I, .raw o)) (ho : IsLI o a i) (hl : HasL M D a ds) (hd : ds.length ≤ i)
    (h : ∀ M' s', M.eraseIdx j = M' → St H f M' D s' → Q none s') : wpAny (model prog w) A (pyNext (.ref I)) Q E s := by
  obtain ⟨G, vs, n, V, e, r⟩ := S.look hl
  have hI : s.heap.get? I = some o := (V.own _ (List.mem_of_getElem? hj)).1
  have hlen := r.length
  exact wpAny_pyNext_list_end hA.h ⟨o, hI, ho⟩ (isList_of e) (by simp; omega) fun h' he => h _ _ rfl (S.dropM (tk := s.toks) j hj fun b o hb e => he b o hb e)
end
end Mine
namespace Mine

theorem cut {M : Model} {A : Around} {t : Sem Flow} {Q : Flow → Shared → Prop} {E : Value → Shared → Prop} {s : Shared} (P : Shared → Prop) (h1 : wpAny M A t (fun fl s' => fl = .next ∧ P s') E s) (h2 : ∀ s', P s' → Q .next s') : wpAny M A t Q E s :=
  wpAny_mono h1 (fun _ s' h => h.1 ▸ h2 s' h.2) fun _ _ e => e

/-- the iterator of a range, i of its n turns taken -/
abbrev rgs (a c : Int) (n i : Nat) : Obj := rgObj (a + i * c) ((n : Int) - i) c

section
variable {prog : Program} {w : World} {A : Around} {E : Value → Shared → Prop} {H : Heap} {f : Fm} {M : List (Addr × MO)} {D : List (Value × PyData)} {s : Shared} {env : Env} {mg mb : Str → Option Value}
  {L a b I : Addr} {x : Str} {pos px : Pos} {v : Value} {ds es : List PyData} {p : Addr × MO} {k : Nat}

theorem St.eqM {M' : List (Addr × MO)} (S : St H f M D s) (h : M = M') : St H f M' D s := h ▸ S
theorem St.lessD {D' : List (Value × PyData)} (S : St H f M D s) (h : ∀ p ∈ D', p ∈ D) : St H f M D' s := S.less (List.Sublist.refl _) h

theorem iterR1 {Q : Value → Shared → Prop} {n m : Int} {t u v : Tok} {r : Addr} (c : Nat) (S : St H f (p :: (r, .raw (rangeObj n m 1 t u v)) :: M) D s) (hc : (c : Int) = m - n ∨ (c = 0 ∧ m ≤ n)) (h0 : -(2 ^ 62) ≤ n) (h1 : n < 2 ^ 62) (h2 : -(2 ^ 62) ≤ m) (h3 : m < 2 ^ 62)
    (h : ∀ I s', St H f (p :: (I, .raw (rgs n 1 c 0)) :: M) D s' → Q (.ref I) s') : wpAny (model prog w) A (pyIter (.ref r)) Q E s := by
  refine iterR S (small_one h0 h1 h2 h3) fun I s' S' => h I s' ?_
  have e : Builtin.Range.rangeSize n m 1 = (c : Int) := by
    rw [rangeSize_one]
    split <;> omega
  rw [e] at S'
  have e2 : rgs n 1 c 0 = rgObj n c 1 := by simp [rgs]
  rw [e2]; exact S'
theorem small_any {n m c : Int} (hc : c ≠ 0) (h0 : -(2 ^ 40) ≤ n) (h1 : n < 2 ^ 40) (h2 : -(2 ^ 40) ≤ m) (h3 : m < 2 ^ 40) (h4 : -(2 ^ 40) ≤ c) (h5 : c < 2 ^ 40) (hs0 : 0 ≤ Builtin.Range.rangeSize n m c) (hs : Builtin.Range.rangeSize n m c < 2 ^ 42) : Builtin.Range.small n m c = true := by
  unfold Builtin.Range.small Builtin.Range.rangeFitsLong
  simp only [Bool.and_eq_true, Bool.or_eq_true, decide_eq_true_eq]
  refine ⟨⟨⟨⟨?_, ?_⟩, ?_⟩, ?_⟩, .inr ?_⟩
  all_goals (try split)
  all_goals (try simp only [decide_eq_true_eq, Bool.and_eq_true])
  all_goals omega
theorem iterRs {Q : Value → Shared → Prop} {n m cc : Int} {t u v : Tok} {r : Addr} (c : Nat) (S : St H f (p :: (r, .raw (rangeObj n m cc t u v)) :: M) D s) (hcc : cc ≠ 0) (hc : Builtin.Range.rangeSize n m cc = c) (hcs : c < 2 ^ 40)
    (h0 : -(2 ^ 40) ≤ n) (h1 : n < 2 ^ 40) (h2 : -(2 ^ 40) ≤ m) (h3 : m < 2 ^ 40) (h4 : -(2 ^ 40) ≤ cc) (h5 : cc < 2 ^ 40)
    (h : ∀ I s', St H f (p :: (I, .raw (rgs n cc c 0)) :: M) D s' → Q (.ref I) s') : wpAny (model prog w) A (pyIter (.ref r)) Q E s := by
  refine iterR S (small_any hcc h0 h1 h2 h3 h4 h5 (by omega) (by omega)) fun I s' S' => h I s' ?_
  rw [hc] at S'
  have e2 : rgs n cc c 0 = rgObj n c cc := by simp [rgs]
  rw [e2]; exact S'

theorem LoopR0 {Q : Flow → Shared → Prop} {Er : Value → Shared → Prop} {body : List Stmt} (hA : Ok k A) (n : Nat) (a c : Int) (P : Nat → Prop) (l : Nat → List (Str × AS)) (Mr : Nat → List (Addr × MO)) (hP : P 0)
    (S : St H f ((L, .ns (l 0)) :: (I, .raw (rgs a c n 0)) :: Mr 0) D s)
    (turn : ∀ i s t, i < n → P i → St H f ((L, .ns ((x, .v (.int (a + i * c) t)) :: l i)) :: (I, .raw (rgs a c n (i + 1))) :: Mr i) D s → ∀ E', wpAny (model prog w) A (execs body env) (fun fl s' => match fl with
      | .next | .cont => P (i + 1) ∧ St H f ((L, .ns (l (i + 1))) :: (I, .raw (rgs a c n (i + 1))) :: Mr (i + 1)) D s' | .brk => Q .next s' | .ret v => Q (.ret v) s') E' s)
    (fin : ∀ s, P n → St H f ((L, .ns (l n)) :: Mr n) D s → Q .next s)
    (hL : env.locals = L := by rfl) (hk : env.scope.kind = .function := by rfl) (hx : env.kindOf x = some .local := by rfl) :
    codeAny (model prog w) A (.forLoop (.Name x px) (.ref I) body [] env) (RQ Q Er) s := by
  refine Loop_ (fun k s => ∃ i, k = n - i ∧ i ≤ n ∧ P i ∧ St H f ((L, .ns (l i)) :: (I, .raw (rgs a c n i)) :: Mr i) D s) n ⟨0, rfl, Nat.zero_le _, hP, S⟩ ?_
  rintro k' s ⟨i, rfl, hi, hPi, S⟩ E'
  by_cases hlt : i < n
  · refine nextR S 1 rfl (by omega) fun t M' s' hM S' => ?_
    have e1 : rgObj (a + i * c + c) ((n : Int) - i - 1) c = rgs a c n (i + 1) := by
      have e2 : a + (i : Int) * c + c = a + ((i + 1 : Nat) : Int) * c := by push_cast; rw [Int.add_mul]; omega
      have e3 : (n : Int) - i - 1 = (n : Int) - ((i + 1 : Nat) : Int) := by omega
      rw [e2, e3]
    rw [e1] at hM
    simp only [List.set_cons_succ, List.set_cons_zero] at hM
    subst hM
    refine PyProof.Rows.assign_Name (stL S' (fun s₂ S₂ => ?_) hL hk hx)
    refine wpAny_mono (turn i s₂ t hlt hPi S₂ E') (fun fl s₃ h => ?_) fun _ _ e => e
    cases fl with
    | next => exact ⟨n - (i + 1), by omega, i + 1, rfl, hlt, h.1, h.2⟩
    | cont => exact ⟨n - (i + 1), by omega, i + 1, rfl, hlt, h.1, h.2⟩
    | brk => exact h
    | ret v => exact h
  · have hin : i = n := by omega
    subst hin
    refine nextRend hA S 1 rfl (by omega) fun M' s' hM S' => ?_
    simp only [List.eraseIdx_cons_succ, List.eraseIdx_cons_zero] at hM
    subst hM
    exact fin s' hPi S'

theorem LoopL0 {Q : Flow → Shared → Prop} {Er : Value → Shared → Prop} {body : List Stmt} {o : Obj} (hA : Ok k A) (ho : IsLI o a 0) (hl : (Value.ref a, PyData.list ds) ∈ D) (P : Nat → Prop) (l : Nat → List (Str × AS)) (Mr : Nat → List (Addr × MO)) (hP : P 0)
    (S : St H f ((L, .ns (l 0)) :: (I, .raw o) :: Mr 0) D s)
    (turn : ∀ i s v d o', ds[i]? = some d → P i → St H f ((L, .ns ((x, .v v) :: l i)) :: (I, .raw o') :: Mr i) ((v, d) :: D) s → ∀ E', wpAny (model prog w) A (execs body env) (fun fl s' => match fl with
      | .next | .cont => P (i + 1) ∧ St H f ((L, .ns (l (i + 1))) :: (I, .raw o') :: Mr (i + 1)) D s' | .brk => Q .next s' | .ret v => Q (.ret v) s') E' s)
    (fin : ∀ s, P ds.length → St H f ((L, .ns (l ds.length)) :: Mr ds.length) D s → Q .next s)
    (hL : env.locals = L := by rfl) (hk : env.scope.kind = .function := by rfl) (hx : env.kindOf x = some .local := by rfl) :
    codeAny (model prog w) A (.forLoop (.Name x px) (.ref I) body [] env) (RQ Q Er) s := by
  refine Loop_ (fun k s => ∃ i o, k = ds.length - i ∧ i ≤ ds.length ∧ P i ∧ IsLI o a i ∧ St H f ((L, .ns (l i)) :: (I, .raw o) :: Mr i) D s) ds.length ⟨0, o, rfl, Nat.zero_le _, hP, ho, S⟩ ?_
  rintro k' s ⟨i, o, rfl, hi, hPi, ho, S⟩ E'
  by_cases hlt : i < ds.length
  · refine nextL S 1 rfl ho (.inl hl) (List.getElem?_eq_getElem hlt) fun v o' M' s' ho' hM S' => ?_
    simp only [List.set_cons_succ, List.set_cons_zero] at hM
    subst hM
    refine PyProof.Rows.assign_Name (stL S' (fun s₂ S₂ => ?_) hL hk hx)
    refine wpAny_mono (turn i s₂ v _ o' (List.getElem?_eq_getElem hlt) hPi S₂ E') (fun fl s₃ h => ?_) fun _ _ e => e
    cases fl with
    | next => exact ⟨ds.length - (i + 1), by omega, i + 1, o', rfl, hlt, h.1, ho', h.2⟩
    | cont => exact ⟨ds.length - (i + 1), by omega, i + 1, o', rfl, hlt, h.1, ho', h.2⟩
    | brk => exact h
    | ret v => exact h
  · have hin : i = ds.length := by omega
    subst hin
    refine nextLend hA S 1 rfl ho (.inl hl) (Nat.le_refl _) fun M' s' hM S' => ?_
    simp only [List.eraseIdx_cons_succ, List.eraseIdx_cons_zero] at hM
    subst hM
    exact fin s' hPi S'
theorem LoopR {Q : Flow → Shared → Prop} {Er : Value → Shared → Prop} {body : List Stmt} {n : Nat} {a c : Int} {l0 : List (Str × AS)} {M0 : List (Addr × MO)} (hA : Ok k A) (P : Nat → Prop) (l : Nat → List (Str × AS)) (Mr : Nat → List (Addr × MO)) (hP : P 0)
    (S : St H f ((L, .ns l0) :: (I, .raw (rgs a c n 0)) :: M0) D s) (hl0 : ∀ p ∈ l 0, ∃ e, l0.lookup p.1 = some e ∧ Imp D e p.2) (hM0 : (Mr 0).Sublist M0)
    (turn : ∀ i s t, i < n → P i → St H f ((L, .ns ((x, .v (.int (a + i * c) t)) :: l i)) :: (I, .raw (rgs a c n (i + 1))) :: Mr i) D s → ∀ E', wpAny (model prog w) A (execs body env) (fun fl s' => match fl with
      | .next | .cont => P (i + 1) ∧ St H f ((L, .ns (l (i + 1))) :: (I, .raw (rgs a c n (i + 1))) :: Mr (i + 1)) D s' | .brk => Q .next s' | .ret v => Q (.ret v) s') E' s)
    (fin : ∀ s, P n → St H f ((L, .ns (l n)) :: Mr n) D s → Q .next s)
    (hL : env.locals = L := by rfl) (hk : env.scope.kind = .function := by rfl) (hx : env.kindOf x = some .local := by rfl) :
    codeAny (model prog w) A (.forLoop (.Name x px) (.ref I) body [] env) (RQ Q Er) s :=
  LoopR0 hA n a c P l Mr hP ((S.vars hl0).less (.cons_cons _ (.cons_cons _ hM0)) fun _ h => h) turn fin hL hk hx
theorem LoopL {Q : Flow → Shared → Prop} {Er : Value → Shared → Prop} {body : List Stmt} {o : Obj} {l0 : List (Str × AS)} {M0 : List (Addr × MO)} (hA : Ok k A) (P : Nat → Prop) (l : Nat → List (Str × AS)) (Mr : Nat → List (Addr × MO)) (hP : P 0)
    (ho : IsLI o a 0) (S : St H f ((L, .ns l0) :: (I, .raw o) :: M0) D s) (hl : (Value.ref a, PyData.list ds) ∈ D) (hl0 : ∀ p ∈ l 0, ∃ e, l0.lookup p.1 = some e ∧ Imp D e p.2) (hM0 : (Mr 0).Sublist M0)
    (turn : ∀ i s v d o', ds[i]? = some d → P i → St H f ((L, .ns ((x, .v v) :: l i)) :: (I, .raw o') :: Mr i) ((v, d) :: D) s → ∀ E', wpAny (model prog w) A (execs body env) (fun fl s' => match fl with
      | .next | .cont => P (i + 1) ∧ St H f ((L, .ns (l (i + 1))) :: (I, .raw o') :: Mr (i + 1)) D s' | .brk => Q .next s' | .ret v => Q (.ret v) s') E' s)
    (fin : ∀ s, P ds.length → St H f ((L, .ns (l ds.length)) :: Mr ds.length) D s → Q .next s)
    (hL : env.locals = L := by rfl) (hk : env.scope.kind = .function := by rfl) (hx : env.kindOf x = some .local := by rfl) :
    codeAny (model prog w) A (.forLoop (.Name x px) (.ref I) body [] env) (RQ Q Er) s :=
  LoopL0 hA ho hl P l Mr hP ((S.vars hl0).less (.cons_cons _ (.cons_cons _ hM0)) fun _ h => h) turn fin hL hk hx
end

section
variable {G : View} {vs : List Value} {as : List AS}
theorem Args.nl (h : Args G vs []) : vs = [] := by cases h; rfl
theorem Args.vv {x : Value} (h : Args G vs (.v x :: as)) : ∃ vs', vs = x :: vs' ∧ Args G vs' as := by cases h with | v _ r => exact ⟨_, rfl, r⟩
theorem Args.ii {n : Int} (h : Args G vs (.i n :: as)) : ∃ t vs', vs = .int n t :: vs' ∧ Args G vs' as := by cases h with | i _ t r => exact ⟨t, _, rfl, r⟩
theorem Args.dd {d : PyData} (h : Args G vs (.d d :: as)) : ∃ v vs', vs = v :: vs' ∧ Is G v d ∧ Args G vs' as := by cases h with | d e r => exact ⟨_, _, rfl, e, r⟩
theorem Args.dl {ds : List PyData} (h : Args G vs (.d (.list ds) :: as)) : ∃ a vs', vs = .ref a :: vs' ∧ Is G (.ref a) (.list ds) ∧ Args G vs' as := by
  obtain ⟨v, vs', rfl, e, r⟩ := h.dd
  cases id e with
  | list _ _ => exact ⟨_, _, rfl, e, r⟩
theorem Args.dt {ds : List PyData} (h : Args G vs (.d (.tuple ds) :: as)) : ∃ a vs', vs = .ref a :: vs' ∧ Is G (.ref a) (.tuple ds) ∧ Args G vs' as := by
  obtain ⟨v, vs', rfl, e, r⟩ := h.dd
  cases id e with
  | tuple _ _ => exact ⟨_, _, rfl, e, r⟩
theorem Args.db {b : Bool} (h : Args G vs (.d (.bool b) :: as)) : ∃ vs', vs = .bool b :: vs' ∧ Args G vs' as := by
  obtain ⟨v, vs', rfl, e, r⟩ := h.dd
  cases e with
  | bool _ => exact ⟨_, rfl, r⟩
end
end Mine
namespace Mine
section
variable (w : World)
theorem g46 : nsIn (KW w) mainGlobals (Str.ofString "normal") = some (some (.ref 46)) := by rfl
theorem g53 : nsIn (KW w) mainGlobals (Str.ofString "nat_of") = some (some (.ref 53)) := by rfl
theorem g60 : nsIn (KW w) mainGlobals (Str.ofString "compare") = some (some (.ref 60)) := by rfl
theorem g67 : nsIn (KW w) mainGlobals (Str.ofString "add") = some (some (.ref 67)) := by rfl
theorem g74 : nsIn (KW w) mainGlobals (Str.ofString "sub") = some (some (.ref 74)) := by rfl
theorem g81 : nsIn (KW w) mainGlobals (Str.ofString "sieve") = some (some (.ref 81)) := by rfl
theorem g88 : nsIn (KW w) mainGlobals (Str.ofString "need_count") = some (some (.ref 88)) := by rfl
theorem g95 : nsIn (KW w) mainGlobals (Str.ofString "power_of_count") = some (some (.ref 95)) := by rfl
theorem g102 : nsIn (KW w) mainGlobals (Str.ofString "product_of_powers") = some (some (.ref 102)) := by rfl
theorem g109 : nsIn (KW w) mainGlobals (Str.ofString "swing_exponent") = some (some (.ref 109)) := by rfl
theorem g114 : nsIn (KW w) mainGlobals (Str.ofString "swing") = some (some (.ref 114)) := by rfl
theorem g121 : nsIn (KW w) mainGlobals (Str.ofString "factorial") = some (some (.ref 121)) := by rfl
theorem g128 : nsIn (KW w) mainGlobals (Str.ofString "factorial_exponent") = some (some (.ref 128)) := by rfl
theorem g135 : nsIn (KW w) mainGlobals (Str.ofString "binomial") = some (some (.ref 135)) := by rfl
theorem g142 : nsIn (KW w) mainGlobals (Str.ofString "mul_school") = some (some (.ref 142)) := by rfl
theorem g149 : nsIn (KW w) mainGlobals (Str.ofString "signed") = some (some (.ref 149)) := by rfl
theorem g156 : nsIn (KW w) mainGlobals (Str.ofString "s_neg") = some (some (.ref 156)) := by rfl
theorem g163 : nsIn (KW w) mainGlobals (Str.ofString "s_add") = some (some (.ref 163)) := by rfl
theorem g170 : nsIn (KW w) mainGlobals (Str.ofString "s_sub") = some (some (.ref 170)) := by rfl
theorem g177 : nsIn (KW w) mainGlobals (Str.ofString "s_mul") = some (some (.ref 177)) := by rfl
theorem g184 : nsIn (KW w) mainGlobals (Str.ofString "_law_sifted") = some (some (.ref 184)) := by rfl
theorem g191 : nsIn (KW w) mainGlobals (Str.ofString "_law_limbs") = some (some (.ref 191)) := by rfl
theorem g198 : nsIn (KW w) mainGlobals (Str.ofString "_law_signed") = some (some (.ref 198)) := by rfl
theorem g205 : nsIn (KW w) mainGlobals (Str.ofString "_law_worth") = some (some (.ref 205)) := by rfl
theorem g210 : nsIn (KW w) mainGlobals (Str.ofString "_law_levels") = some (some (.ref 210)) := by rfl
theorem g217 : nsIn (KW w) mainGlobals (Str.ofString "_law_times") = some (some (.ref 217)) := by rfl
theorem gLen : nsIn (KW w) mainGlobals (Str.ofString "len") = some none := by rfl
theorem gAbs : nsIn (KW w) mainGlobals (Str.ofString "abs") = some none := by rfl
theorem gInt : nsIn (KW w) mainGlobals (Str.ofString "int") = some none := by rfl
theorem gRange : nsIn (KW w) mainGlobals (Str.ofString "range") = some none := by rfl
theorem gEnum : nsIn (KW w) mainGlobals (Str.ofString "enumerate") = some none := by rfl
theorem bLen : bootBuiltins (Str.ofString "len") = some (.builtin "len") := by boot_fast
theorem bAbs : bootBuiltins (Str.ofString "abs") = some (.builtin "abs") := by boot_fast
theorem bInt : bootBuiltins (Str.ofString "int") = some (.type "int") := by boot_fast
theorem bRange : bootBuiltins (Str.ofString "range") = some (.type "range") := by boot_fast
theorem bEnum : bootBuiltins (Str.ofString "enumerate") = some (.type "enumerate") := by boot_fast
theorem keepDef {fa : Addr} {name qual : Str} {params : Arguments} {body : List Stmt} {scope : Scope} {dV kV doc pm cdv ct oc : Value} {an od : Option Addr} {osl : Array (Option Value)}
    (ho : (KW w).lookup fa = some ⟨oc, od, .func (fnOf name qual params body scope dV kV doc pm an cdv ct), osl⟩) : keepIn (KW w) (.ref fa) = true := by
  unfold keepIn; dsimp only; rw [ho]
end
theorem nameNe {x : Str} (h : (x == ("__name__" : Str)) = false) : x ≠ "__name__" := fun e => by rw [e] at h; simp at h
end Mine
namespace Mine
abbrev enObj (it : Addr) (i : Int) (old : Value) : Obj := { cls := .type "enumerate", dict := none, data := .fields #[.none, .bool false, .ref it, rawInt i, .none, old], slots := #[] }
section
variable {prog : Program} {w : World} {A : Around} {E : Value → Shared → Prop} {H : Heap} {f : Fm} {M : List (Addr × MO)} {D : List (Value × PyData)} {s : Shared} {env : Env} {mg mb : Str → Option Value}
  {L a b I : Addr} {x : Str} {pos px : Pos} {v : Value} {ds es : List PyData} {p : Addr × MO} {k : Nat}

/-- the state told anew: only own things were changed, what is new was not there -/
theorem St.re {h' : Heap} {tk : Nat} (S : St H f M D s) (M' : List (Addr × MO)) (hold : ∀ b o, (∀ p ∈ M, p.1 ≠ b) → s.heap.get? b = some o → h'.get? b = some o)
    (hown : ∀ G, Views f M D s.heap G → ∀ p ∈ M', p.2.at G h' p.1 ∧ ((∃ q ∈ M, q.1 = p.1) ∨ s.heap.get? p.1 = none)) (nd : (M'.map (·.1)).Nodup) : St H f M' D { s with heap := h', toks := tk } := by
  obtain ⟨G, V⟩ := S.view
  refine S.mk' tk (fun b o e => hold b o (fun p hp q => ?_) (S.keep b o e)) ⟨G, ⟨fun b o e => hold b o (fun p hp q => ?_) (V.sub b o e), V.grew, V.new, V.data, fun p hp => ?_⟩⟩ nd
  · have := (V.own p hp).2.2; rw [q, e] at this; cases this
  · have := (V.own p hp).2.1; rw [q, e] at this; cases this
  · obtain ⟨h1, h2⟩ := hown G V p hp
    refine ⟨h1, ?_⟩
    rcases h2 with ⟨q, hq, e⟩ | h2
    · rw [← e]; exact (V.own q hq).2
    · constructor
      · cases e : G p.1 with
        | none => rfl
        | some o => rw [V.sub _ o e] at h2; cases h2
      · cases e : f.s0.heap.get? p.1 with
        | none => rfl
        | some o => rw [S.keep _ o e] at h2; cases h2
theorem St.notIn (S : St H f M D s) {a : Addr} (h : s.heap.get? a = none) : ∀ p ∈ M, p.1 ≠ a := fun p hp q => by
  obtain ⟨G, V⟩ := S.view
  obtain ⟨o, ho⟩ := (V.own p hp).1.live
  rw [q, h] at ho; cases ho

theorem enumL {Q : Value → Shared → Prop} (S : St H f (p :: M) D s) (hl : HasL (p :: M) D a ds) (h : ∀ e it o s', IsLI o a 0 → St H f (p :: (e, .raw (enObj it 0 .none)) :: (it, .raw o) :: M) D s' → Q (.ref e) s') :
    wpAny (model prog w) A (call (.type "enumerate") [.ref a]) Q E s := by
  obtain ⟨G, vs, n, V, e, r⟩ := S.look hl
  refine call_enumerate_list (isList_of e) fun h' he hit hz hk => ?_
  obtain ⟨o, ho, hc, hd⟩ := hit
  have n1 : s.heap.get? s.heap.objs.size = none := size_none _
  have n2 : s.heap.get? (s.heap.objs.size + 1) = none := by
    cases e : s.heap.get? (s.heap.objs.size + 1) with
    | none => rfl
    | some o => exact absurd (Heap.lt_size e) (Nat.not_lt.mpr (Nat.le_succ _))
  have S2 : St H f (p :: (s.heap.objs.size + 1, .raw (enObj s.heap.objs.size 0 .none)) :: (s.heap.objs.size, .raw o) :: M) D { s with heap := h', toks := s.toks } := by
   refine S.re (tk := s.toks) _ (fun b o _ e => hk b o e) (fun G V q hq => ?_) ?_
   · rcases List.mem_cons.mp hq with rfl | hq
     · exact ⟨(V.own _ (.head _)).1.move (fun _ _ e => e) (fun o e => hk _ o e), .inl ⟨_, .head _, rfl⟩⟩
     rcases List.mem_cons.mp hq with rfl | hq
     · exact ⟨he, .inr n2⟩
     rcases List.mem_cons.mp hq with rfl | hq
     · exact ⟨ho, .inr n1⟩
     · exact ⟨(V.own _ (.tail _ hq)).1.move (fun _ _ e => e) (fun o e => hk _ o e), .inl ⟨_, .tail _ hq, rfl⟩⟩
   · have nd := S.nodup
     have i1 := S.notIn n1
     have i2 := S.notIn n2
     simp only [List.map_cons, List.nodup_cons, List.mem_cons, List.mem_map, not_or] at nd ⊢
     refine ⟨⟨i2 _ (.head _), i1 _ (.head _), nd.1⟩, ⟨fun (w : s.heap.objs.size + 1 = s.heap.objs.size) => Nat.succ_ne_self _ w, fun ⟨q, hq, e⟩ => i2 q (.tail _ hq) e⟩, fun ⟨q, hq, e⟩ => i1 q (.tail _ hq) e, nd.2⟩
  exact h _ _ o _ ⟨hc, hd⟩ S2

theorem LoopE0 {Q : Flow → Shared → Prop} {Er : Value → Shared → Prop} {body : List Stmt} {o : Obj} {e it : Addr} {xi xv : Str} {pi pv pt : Pos} {x1 : Nat} (hA : Ok k A) (ho : IsLI o a 0) (hl : (Value.ref a, PyData.list ds) ∈ D) (P : Nat → Prop) (l : Nat → List (Str × AS)) (Mr : Nat → List (Addr × MO)) (hP : P 0)
    (S : St H f ((L, .ns (l 0)) :: (e, .raw (enObj it 0 .none)) :: (it, .raw o) :: Mr 0) D s)
    (turn : ∀ i s v d t old o', ds[i]? = some d → P i → St H f ((L, .ns ((xv, .v v) :: (xi, .v (.int (i : Nat) t)) :: l i)) :: (e, .raw (enObj it ((i + 1 : Nat) : Int) old)) :: (it, .raw o') :: Mr i) ((v, d) :: D) s → ∀ E', wpAny (model prog w) A (execs body env) (fun fl s' => match fl with
      | .next | .cont => P (i + 1) ∧ St H f ((L, .ns (l (i + 1))) :: (e, .raw (enObj it ((i + 1 : Nat) : Int) old)) :: (it, .raw o') :: Mr (i + 1)) D s' | .brk => Q .next s' | .ret v => Q (.ret v) s') E' s)
    (fin : ∀ s, P ds.length → St H f ((L, .ns (l ds.length)) :: Mr ds.length) D s → Q .next s)
    (hL : env.locals = L := by rfl) (hk : env.scope.kind = .function := by rfl) (hxi : env.kindOf xi = some .local := by rfl) (hxv : env.kindOf xv = some .local := by rfl) :
    codeAny (model prog w) A (.forLoop (.Tuple [.Name xi pi, .Name xv pv] x1 pt) (.ref e) body [] env) (RQ Q Er) s := by
  refine codeAny_forLoop_any (fun k s => ∃ i o old, k = ds.length - i ∧ i ≤ ds.length ∧ P i ∧ IsLI o a i ∧ St H f ((L, .ns (l i)) :: (e, .raw (enObj it ((i : Nat) : Int) old)) :: (it, .raw o) :: Mr i) D s) ?_ ds.length ⟨0, o, .none, rfl, Nat.zero_le _, hP, ho, S⟩
  clear S
  rintro k' s ⟨i, o, old, rfl, hi, hPi, ho, S⟩
  obtain ⟨G, vs, n, V, ea, r⟩ := S.look (.inl hl)
  have he : IsEnum s.heap e it i old := (V.own _ (.tail _ (.head _))).1
  have hit : s.heap.get? it = some o := (V.own _ (.tail _ (.tail _ (.head _)))).1
  have nd := S.nodup
  simp only [List.map_cons, List.nodup_cons, List.mem_cons, List.mem_map, not_or] at nd
  by_cases hlt : i < ds.length
  · obtain ⟨v, hv, hvd⟩ := r.get (List.getElem?_eq_getElem hlt)
    refine wpAny_pyNext_enum_item (x := v) he ⟨o, hit, ho⟩ (isList_of ea) (by simpa using hv) nd.2.1.1 fun h₁ heo hit₁ ht₁ hz₁ hk₁ => ?_
    refine wpAny_letOwnedTupleGo_enum heo fun h₂ he₂ hs₂ => ?_
    replace hs₂ : Heap.SameBut e h₁ h₂ := hs₂
    obtain ⟨o', ho', hc', hd'⟩ := hit₁
    have S0 : St H f ((L, .ns (l i)) :: (e, .raw (enObj it ((i : Nat) : Int) old)) :: (it, .raw o) :: Mr i) ((v, ds[i]) :: D) s := S.more fun G' V' => by
      obtain ⟨vs', n', e', r'⟩ := V'.look (.inl hl)
      have := lst_inj (ea.symm.trans e')
      subst this
      obtain ⟨v', hv', hvd'⟩ := r'.get (List.getElem?_eq_getElem hlt)
      rw [hv] at hv'; cases hv'
      exact hvd'
    have hne : s.heap.objs.size ≠ e := fun q => absurd (q ▸ Heap.lt_size he) (Nat.lt_irrefl _)
    have key : ∀ b o, b ≠ e → b ≠ it → s.heap.get? b = some o → h₂.get? b = some o := fun b o h1 h2 x => hs₂.extBut b o h1 (hk₁ b o h1 h2 x)
    have S2 : St H f ((L, .ns (l i)) :: (s.heap.objs.size, .raw (tupObj [.int i s.toks, v] 0)) :: (e, .raw (enObj it ((i + 1 : Nat) : Int) v)) :: (it, .raw o') :: Mr i) ((v, ds[i]) :: D) { s with heap := h₂, toks := s.toks + 1 } := by
      refine S0.re (tk := s.toks + 1) _ (fun b o hb x => key b o (fun q => hb _ (.tail _ (.head _)) q.symm) (fun q => hb _ (.tail _ (.tail _ (.head _))) q.symm) x) (fun G V q hq => ?_) ?_
      · rcases List.mem_cons.mp hq with rfl | hq
        · exact ⟨(V.own _ (.head _)).1.move (fun _ _ e => e) (fun o x => key _ o nd.1.1 nd.1.2.1 x), .inl ⟨_, .head _, rfl⟩⟩
        rcases List.mem_cons.mp hq with rfl | hq
        · refine ⟨?_, .inr (size_none _)⟩
          show h₂.get? _ = _
          rw [hs₂.2 _ hne]; exact ht₁
        rcases List.mem_cons.mp hq with rfl | hq
        · refine ⟨?_, .inl ⟨_, .tail _ (.head _), rfl⟩⟩
          show h₂.get? _ = _
          have : ((i + 1 : Nat) : Int) = (i : Int) + 1 := by push_cast; rfl
          rw [this]; exact he₂
        rcases List.mem_cons.mp hq with rfl | hq
        · refine ⟨?_, .inl ⟨_, .tail _ (.tail _ (.head _)), rfl⟩⟩
          show h₂.get? _ = _
          rw [hs₂.2 _ (fun q => nd.2.1.1 q.symm)]; exact ho'
        · refine ⟨(V.own _ (.tail _ (.tail _ (.tail _ hq)))).1.move (fun _ _ e => e) (fun o x => key _ o (fun w => nd.2.1.2 ⟨_, hq, w⟩) (fun w => nd.2.2.1 ⟨_, hq, w⟩) x), .inl ⟨_, .tail _ (.tail _ (.tail _ hq)), rfl⟩⟩
      · have i1 := S.notIn (size_none s.heap)
        simp only [List.map_cons, List.nodup_cons, List.mem_cons, List.mem_map, not_or]
        exact ⟨⟨i1 _ (.head _), nd.1.1, nd.1.2.1, nd.1.2.2⟩, ⟨fun w => i1 _ (.tail _ (.head _)) w.symm, fun w => i1 _ (.tail _ (.tail _ (.head _))) w.symm, fun ⟨q, hq, w⟩ => i1 _ (.tail _ (.tail _ (.tail _ hq))) w⟩, nd.2.1, nd.2.2⟩
    refine unpT hA S2 (.tail _ (.head _)) rfl rfl fun s₃ S3 => ?_
    refine assignInOrder_cons ?_
    refine PyProof.Rows.assign_Name (stL S3 (fun s₄ S4 => ?_) hL hk hxi)
    refine assignInOrder_cons ?_
    refine PyProof.Rows.assign_Name (stL S4 (fun s₅ S5 => ?_) hL hk hxv)
    refine assignInOrder_nil ?_
    have S6 := S5.less (M' := (L, .ns ((xv, .v v) :: (xi, .v (.int i s.toks)) :: l i)) :: (e, .raw (enObj it ((i + 1 : Nat) : Int) v)) :: (it, .raw o') :: Mr i) (.cons_cons _ (.cons _ (List.Sublist.refl _))) (fun _ h => h)
    refine wpAny_mono (turn i s₅ v _ s.toks v o' (List.getElem?_eq_getElem hlt) hPi S6 _) (fun fl s₃ h => ?_) fun _ _ e => e
    cases fl with
    | next => exact ⟨ds.length - (i + 1), by omega, i + 1, o', v, rfl, hlt, h.1, ⟨hc', hd'⟩, h.2⟩
    | cont => exact ⟨ds.length - (i + 1), by omega, i + 1, o', v, rfl, hlt, h.1, ⟨hc', hd'⟩, h.2⟩
    | brk => exact h
    | ret v => exact h
  · have hin : i = ds.length := by omega
    subst hin
    have hlen := r.length
    refine wpAny_pyNext_enum_end hA.h he ⟨o, hit, ho⟩ (isList_of ea) (by simp; omega) fun h' he' => wpAny_execs_nil ?_
    have S1 := S.dropM (h' := h') (tk := s.toks) 2 rfl fun b o hb e => he' b o hb e
    exact fin _ hPi (S1.less (.cons_cons _ (.cons _ (List.Sublist.refl _))) fun _ h => h)
theorem LoopE {Q : Flow → Shared → Prop} {Er : Value → Shared → Prop} {body : List Stmt} {o : Obj} {e it : Addr} {xi xv : Str} {pi pv pt : Pos} {x1 : Nat} {l0 : List (Str × AS)} {M0 : List (Addr × MO)} (hA : Ok k A) (P : Nat → Prop) (l : Nat → List (Str × AS)) (Mr : Nat → List (Addr × MO)) (hP : P 0)
    (ho : IsLI o a 0) (S : St H f ((L, .ns l0) :: (e, .raw (enObj it 0 .none)) :: (it, .raw o) :: M0) D s) (hl : (Value.ref a, PyData.list ds) ∈ D) (hl0 : ∀ p ∈ l 0, ∃ e, l0.lookup p.1 = some e ∧ Imp D e p.2) (hM0 : (Mr 0).Sublist M0)
    (turn : ∀ i s v d t old o', ds[i]? = some d → P i → St H f ((L, .ns ((xv, .v v) :: (xi, .v (.int (i : Nat) t)) :: l i)) :: (e, .raw (enObj it ((i + 1 : Nat) : Int) old)) :: (it, .raw o') :: Mr i) ((v, d) :: D) s → ∀ E', wpAny (model prog w) A (execs body env) (fun fl s' => match fl with
      | .next | .cont => P (i + 1) ∧ St H f ((L, .ns (l (i + 1))) :: (e, .raw (enObj it ((i + 1 : Nat) : Int) old)) :: (it, .raw o') :: Mr (i + 1)) D s' | .brk => Q .next s' | .ret v => Q (.ret v) s') E' s)
    (fin : ∀ s, P ds.length → St H f ((L, .ns (l ds.length)) :: Mr ds.length) D s → Q .next s)
    (hL : env.locals = L := by rfl) (hk : env.scope.kind = .function := by rfl) (hxi : env.kindOf xi = some .local := by rfl) (hxv : env.kindOf xv = some .local := by rfl) :
    codeAny (model prog w) A (.forLoop (.Tuple [.Name xi pi, .Name xv pv] x1 pt) (.ref e) body [] env) (RQ Q Er) s :=
  LoopE0 hA ho hl P l Mr hP ((S.vars hl0).less (.cons_cons _ (.cons_cons _ (.cons_cons _ hM0))) fun _ h => h) turn fin hL hk hxi hxv
end
theorem St.tell {H : Heap} {f : Fm} {L : Addr} {l l' : List (Str × AS)} {M M' : List (Addr × MO)} {D D' : List (Value × PyData)} {s : Shared} (S : St H f ((L, .ns l) :: M) D s) (h : ∀ p ∈ l', ∃ e, l.lookup p.1 = some e ∧ Imp D e p.2) (hM : M'.Sublist M) (hD : ∀ p ∈ D', p ∈ D) : St H f ((L, .ns l') :: M') D' s :=
  (S.vars h).less (.cons_cons _ hM) hD
theorem St.own1 {H : Heap} {f : Fm} {M : List (Addr × MO)} {D : List (Value × PyData)} {s : Shared} (S : St H f M D s) (i : Nat) {a : Addr} {o : Obj} (hi : M[i]? = some (a, .raw o)) : s.heap.get? a = some o := by
  obtain ⟨G, V⟩ := S.view
  exact (V.own _ (List.mem_of_getElem? hi)).1
end Mine
namespace Mine

theorem none_ge {h : Heap} {a : Addr} (ha : h.objs.size ≤ a) : h.get? a = none := by
  cases e : h.get? a with
  | none => rfl
  | some o => exact absurd (Heap.lt_size e) (Nat.not_lt.mpr ha)

section
variable {prog : Program} {w : World} {A : Around} {E : Value → Shared → Prop} {H : Heap} {D : List (Value × PyData)} {s : Shared} {Q : Value → Shared → Prop} {fa : Addr} {vs : List Value} {k : Nat} {mg mb : Str → Option Value} {G : View}
  {name qual : Str} {params : Arguments} {body : List Stmt} {scope : Scope} {dV kV doc pm cdv ct oc : Value} {an od : Option Addr} {osl : Array (Option Value)} {binds : List (Str × Value)} {d : Option PyData}

theorem enterC (W : Wd w mg mb H) (hA : Ok (k + 1) A) (hH : ∀ b o, H.get? b = some o → s.heap.get? b = some o) (hs : Sub G s.heap) (hD : ∀ p ∈ D, Is G p.1 p.2)
    (ho : (KW w).lookup fa = some ⟨oc, od, .func (fnOf name qual params body scope dV kV doc pm an cdv ct), osl⟩) (hcd : codeIn (KW w) cdv qual = true)
    (hbind : bindArgs (fnOf name qual params body scope dV kV doc pm an cdv ct) ⟨vs, []⟩ = pure binds)
    (hkind : ∀ n, ∀ x ∈ binds, scope.names.lookup x.1 = some .local ∨ (scope.names.lookup x.1 = some .cell ∧ ((cellsFrom n scope.names []).lookup x.1).isSome = true))
    (hnd : ((cellsFrom 0 scope.names []).map (·.1)).Nodup) (lm : List (Str × AS)) (cs : Addr → List (Str × Addr)) (Mc : Addr → List (Addr × MO))
    (hlm : ∀ p ∈ lm, ∃ v, bindL (fun x => scope.names.lookup x) binds (fun _ => none) p.1 = some v ∧ p.2 = .v v) (hcs : ∀ L, cellsFrom (L + 1) scope.names [] = cs L)
    (hMc : ∀ L, (cs L).map (fun p => (p.2, MO.cell (bindC (fun x => scope.names.lookup x) binds (fun _ => none) p.1))) = Mc L)
    (hQ : ∀ r G' h' tk, (∀ b o, s.heap.get? b = some o → h'.get? b = some o) → VLe G G' → Sub G' h' → (∀ b o, G' b = some o → G b = some o ∨ s.heap.get? b = none) → (match d with | some d => Is G' r d | none => r = .none) → Q r { s with heap := h', toks := tk })
    (h : ∀ A f L s', Ok k A → St H f ((L, .ns lm) :: Mc L) D s' → wpAny (model prog w) A (execs body (envX qual scope L fa cdv (cs L))) (fun fl s'' => Ret H f d fl s'') (fun _ _ => False) s')
    (hco : scope.isCoroutine = false := by rfl) (hgen : scope.isGenerator = false := by rfl) (hk : scope.kind = .function := by rfl) :
    wpAny (model prog w) A (call (.ref fa) vs) Q E s := by
  have hg := hH _ _ (W.X _ _ ho)
  refine wpAny_call (codeAny_call_cells (fd := fnOf name qual params body scope dV kV doc pm an cdv ct) (body := body) (binds := binds) (by have := hA.d; omega) hg rfl (W.T.nolimit.keeps hH) ((codeRec_of W.X hcd).keeps hH) rfl hbind rfl (hkind _) (fun s₁ x => ?_) hco hgen hk)
  have hh := h (A.deeper (callEnvC (fnOf name qual params body scope dV kV doc pm an cdv ct) s.heap.objs.size fa)) ⟨s, G⟩ s.heap.objs.size s₁ hA.deeper ?_
  · rw [← hcs] at hh
    refine wpAny_mono hh (fun fl s'' hr => by have := ret_post rfl hr hQ; cases fl <;> exact this) (fun _ _ x => x.elim)
  · have hsame := x.toInCall.same
    have hns : s₁.heap.Ns s.heap.objs.size (bindL (fun x => scope.names.lookup x) binds (fun _ => none)) := x.toInCall.ns
    have hkeep := x.toInCall.keep
    have hcell : ∀ n c, (n, c) ∈ cs s.heap.objs.size → s₁.heap.IsCell c (bindC (fun x => scope.names.lookup x) binds (fun _ => none) n) ∧ s.heap.objs.size < c := fun n c hm => by
      rw [← hcs] at hm
      exact ⟨x.cell n c (lookup_of_mem_nodup (cellsFrom_names scope.names 0 (s.heap.objs.size + 1) [] [] rfl ▸ hnd) hm), x.above n c hm⟩
    have hap : (cs s.heap.objs.size).Pairwise fun x y => x.2 ≠ y.2 := by rw [← hcs]; exact x.apart
    have gn : ∀ a, s.heap.objs.size ≤ a → G a = none ∧ s.heap.get? a = none := fun a ha => by
      refine ⟨?_, none_ge ha⟩
      cases e : G a with
      | none => rfl
      | some o => have := hs _ _ e; rw [none_ge ha] at this; cases this
    have hm2 : (Mc s.heap.objs.size).map (·.1) = (cs s.heap.objs.size).map (·.2) := by rw [← hMc, List.map_map]; rfl
    refine ⟨hsame, hH, hkeep, ⟨G, ⟨fun b o e => hkeep b o (hs b o e), fun _ _ e => e, fun _ _ e => .inl e, hD, fun p hp => ?_⟩⟩, ?_⟩
    · rcases List.mem_cons.mp hp with rfl | hp
      · refine ⟨⟨_, hns, fun x e he => ?_⟩, gn _ (Nat.le_refl _)⟩
        obtain ⟨v, h1, h2⟩ := hlm (x, e) (PySem.mem_of_lookup he)
        exact ⟨v, h1, by rw [show e = .v v from h2]; rfl⟩
      · rw [← hMc] at hp
        obtain ⟨q, hq, rfl⟩ := List.mem_map.mp hp
        obtain ⟨h1, h2⟩ := hcell q.1 q.2 hq
        exact ⟨h1, gn _ (Nat.le_of_lt h2)⟩
    · rw [List.map_cons, List.nodup_cons, hm2]
      refine ⟨fun hm => ?_, ?_⟩
      · obtain ⟨q, hq, e⟩ := List.mem_map.mp hm
        have := (hcell q.1 q.2 hq).2
        exact absurd (e ▸ this) (Nat.lt_irrefl _)
      · exact List.pairwise_map.mpr hap
end

section
variable {prog : Program} {w : World} {A : Around} {E : Value → Shared → Prop} {H : Heap} {f : Fm} {M : List (Addr × MO)} {D : List (Value × PyData)} {s : Shared} {env : Env} {mg mb : Str → Option Value}
  {L C a b I acc : Addr} {x : Str} {pos px : Pos} {v : Value} {ds es : List PyData} {p : Addr × MO} {k : Nat} {l lc : List (Str × AS)} {elt iter : Expr} {ifs : List Expr} {scope : Scope} {cl : List (Str × Addr)} {R : Result → Shared → Prop} {cenv : Env}

theorem cpost {Q : Value → Shared → Prop} (S : St H f ((C, .ns lc) :: M) D s) (h : ∀ s', St H f M D s' → Q (.ref acc) s') : compPost (model prog w) A E none Q (.ref acc) C (.ok .next) s := by
  obtain ⟨G, m, V, hn, _⟩ := S.nsAt
  exact ⟨m, hn, fun h' hs' => h _ (S.dropM (tk := s.toks) 0 rfl fun b o hb e => hs'.extBut b o hb e)⟩
theorem cpostA {y : Str} {py : Pos} {Q : Value → Shared → Prop} (S : St H f ((C, .ns lc) :: (L, .ns l) :: M) D s) (h : ∀ s', St H f ((L, .ns ((y, .v (.ref acc)) :: l)) :: M) D s' → Q .none s')
    (hL : env.locals = L := by rfl) (hk : env.scope.kind = .function := by rfl) (hy : env.kindOf y = some .local := by rfl) : compPost (model prog w) A E (some (assign (.Name y py) env)) Q (.ref acc) C (.ok .next) s := by
  show wpAny _ A (assign (.Name y py) env (.ref acc)) _ _ _
  refine PyProof.Rows.assign_Name (stL S.swap (fun s₂ S₂ => ?_) hL hk hy)
  have S3 := S₂.swap
  obtain ⟨G, m, V, hn, _⟩ := S3.nsAt
  exact ⟨m, hn, fun h' hs' => h _ (S3.dropM (tk := s₂.toks) 0 rfl fun b o hb e => hs'.extBut b o hb e)⟩

/-- the block of a comprehension -/
theorem comp_block {use : Option (Value → Sem Unit)} {Q : Value → Shared → Prop} {e : Expr} {tgt : Expr} {pos2 : Pos} (he : e = .ListComp elt [⟨tgt, iter, ifs, 0⟩] scope pos2)
    (hclos : closureFor scope env = pure cl) (hcell : ∀ y ∈ scope.names, y.2 ≠ .cell) (hkind : scope.kind = .function) (hnames : ∀ y ∈ scope.names, y.2 = .local → scope.names.lookup y.1 = some .local)
    (hs : ∀ x, foldedSetIterable iter env x = pure x)
    (h : wpAny (model prog w) A (eval iter env) (fun xv s₁ => wpAny (model prog w) A (pyIter xv) (fun it s₂ => ∃ I H f L l M D, it = .ref I ∧ St H f ((L, .ns l) :: M) D s₂ ∧
      (∀ s₃ (Q' Er : Value → Shared → Prop), St H f ((L, .ns l) :: M) D s₃ → Q' (.ref I) s₃ → wpAny (model prog w) A (pyIter (.ref I)) Q' Er s₃) ∧
      (∀ acc C s₃, St H f ((C, .ns []) :: (L, .ns l) :: (acc, .list []) :: M) D s₃ →
        codeAny (model prog w) A (.compLoop e 0 (.ref I) (.ref acc) (compEnvC scope cl C env)) (compPost (model prog w) A E use Q (.ref acc) C) s₃)) E s₁) E s) :
    wpAny (model prog w) A (comprehension e scope env pos (newList []) false (eval iter env) use) Q E s := by
  subst he
  refine wpAny_comprehension_free (use := use) rfl hs hclos hkind hnames (wpAny_mono h (fun xv s₁ h₁ => wpAny_mono h₁ (fun it s₂ h₂ => ?_) fun _ _ e => e) fun _ _ e => e)
  obtain ⟨I, H, f, L, l, M, D, rfl, S, hit, hgo⟩ := h₂
  refine newLM S .nil (fun acc s₃ S₃ => ?_) (Nat.le_of_ble_eq_true rfl)
  refine wpAny_newFunctionEnv hcell (by intro y hy; simp at hy) (fun h₁ hns₁ hsb₁ => ?_) hkind
  have n0 := size_none s₃.heap
  have hk1 : ∀ b o, s₃.heap.get? b = some o → h₁.get? b = some o := fun b o e => hsb₁.extBut b o (fun q => by subst q; rw [n0] at e; cases e) (Heap.get?_push_of_some _ e)
  have S4 : St H f ((s₃.heap.objs.size, .ns []) :: (L, .ns l) :: (acc, .list []) :: M) D { s₃ with heap := h₁, toks := s₃.toks + ([] : List (Str × Value)).length } :=
    S₃.addM n0 hk1 fun G V => ⟨_, hns₁, fun x e he => by cases he⟩
  have S5 : St H f ((L, .ns l) :: M) D { s₃ with heap := h₁, toks := s₃.toks + ([] : List (Str × Value)).length } := S4.less (.cons _ (.cons_cons _ (.cons _ (List.Sublist.refl _)))) fun _ h => h
  exact codeAny_compStart_list (hgo _ _ _ S4) (hit _ _ _ S5 (hgo _ _ _ S4))

abbrev tests (ifs : List Expr) (cenv : Env) : Sem Bool := forIn ifs true fun c r => if r = true then do let ok ← isTrue c cenv (eval c cenv); pure (ForInStep.yield ok) else pure (ForInStep.yield r)
/-- what one turn of a comprehension is to leave -/
def CStep (prog : Program) (w : World) (A : Around) (H : Heap) (f : Fm) (L C acc I : Addr) (l : List (Str × AS)) (D : List (Value × PyData)) (elt : Expr) (ifs : List Expr) (cenv : Env) (as as' : List PyData) (o : Obj) (Mr' : List (Addr × MO)) (s : Shared) (E : Value → Shared → Prop) : Prop :=
  wpAny (model prog w) A (tests ifs cenv) (fun ok s₃ => if ok = true then wpAny (model prog w) A (eval elt cenv) (fun y s₄ => ∃ e lc D', as' = as ++ [e] ∧ (∀ p ∈ D, p ∈ D') ∧ Kn D' y e ∧ St H f ((C, .ns lc) :: (L, .ns l) :: (acc, .list as) :: (I, .raw o) :: Mr') D' s₄) E s₃
    else as' = as ∧ ∃ lc D', (∀ p ∈ D, p ∈ D') ∧ St H f ((C, .ns lc) :: (L, .ns l) :: (acc, .list as) :: (I, .raw o) :: Mr') D' s₃) E s

theorem CStep.run {Q : Shared → Prop} {as as' : List PyData} {o : Obj} {Mr' : List (Addr × MO)} (h : CStep prog w A H f L C acc I l D elt ifs cenv as as' o Mr' s E) (hsz : as.length ≤ sizeLine)
    (hQ : ∀ s', St H f ((C, .ns []) :: (L, .ns l) :: (acc, .list as') :: (I, .raw o) :: Mr') D s' → Q s') :
    wpAny (model prog w) A (tests ifs cenv) (fun ok s₃ => if ok = true then wpAny (model prog w) A (eval elt cenv) (fun x s₄ => wpAny (model prog w) A (call (.builtin "list.append") [.ref acc, x]) (fun _ s₅ => Q s₅) E s₄) E s₃ else Q s₃) E s := by
  refine wpAny_mono h (fun ok s₃ h₃ => ?_) fun _ _ e => e
  cases ok with
  | false =>
    obtain ⟨rfl, lc, D', hD, S⟩ := h₃
    exact hQ _ ((S.vars (l' := []) fun p hp => by cases hp).lessD hD)
  | true =>
    refine wpAny_mono (show wpAny _ _ _ _ _ _ from h₃) (fun y s₄ h₄ => ?_) fun _ _ e => e
    obtain ⟨e, lc, D', rfl, hD, hy, S⟩ := h₄
    refine appL S 2 rfl hy hsz fun M' s' hM S' => ?_
    simp only [List.set_cons_succ, List.set_cons_zero] at hM
    subst hM
    exact hQ _ ((S'.vars (l' := []) fun p hp => by cases hp).lessD hD)

theorem CompR (hA : Ok k A) (n : Nat) (a c : Int) (as : Nat → List PyData) (Mr : Nat → List (Addr × MO)) (h0 : as 0 = [])
    (S : St H f ((C, .ns []) :: (L, .ns l) :: (acc, .list []) :: (I, .raw (rgs a c n 0)) :: Mr 0) D s) (hsz : ∀ i, i < n → (as i).length ≤ sizeLine)
    (turn : ∀ i s t, i < n → St H f ((C, .ns [(x, .v (.int (a + i * c) t))]) :: (L, .ns l) :: (acc, .list (as i)) :: (I, .raw (rgs a c n (i + 1))) :: Mr i) D s → ∀ E', CStep prog w A H f L C acc I l D elt ifs cenv (as i) (as (i + 1)) (rgs a c n (i + 1)) (Mr (i + 1)) s E')
    (fin : ∀ s, St H f ((C, .ns []) :: (L, .ns l) :: (acc, .list (as n)) :: Mr n) D s → R (.ok .next) s)
    (hL : cenv.locals = C := by rfl) (hk : cenv.scope.kind = .function := by rfl) (hx : cenv.kindOf x = some .local := by rfl) :
    codeAny (model prog w) A (.compLoop (.ListComp elt [⟨.Name x px, iter, ifs, 0⟩] scope pos) 0 (.ref I) (.ref acc) cenv) R s := by
  refine codeAny_compLoop_tests (fun k s => ∃ i, k = n - i ∧ i ≤ n ∧ St H f ((C, .ns []) :: (L, .ns l) :: (acc, .list (as i)) :: (I, .raw (rgs a c n i)) :: Mr i) D s) ?_ n ⟨0, rfl, Nat.zero_le _, by rw [h0]; exact S⟩
  clear S
  rintro k' s ⟨i, rfl, hi, S⟩
  by_cases hlt : i < n
  · refine nextR S 3 rfl (by omega) fun t M' s' hM S' => ?_
    have e1 : rgObj (a + i * c + c) ((n : Int) - i - 1) c = rgs a c n (i + 1) := by
      have e2 : a + (i : Int) * c + c = a + ((i + 1 : Nat) : Int) * c := by push_cast; rw [Int.add_mul]; omega
      have e3 : (n : Int) - i - 1 = (n : Int) - ((i + 1 : Nat) : Int) := by omega
      rw [e2, e3]
    rw [e1] at hM
    simp only [List.set_cons_succ, List.set_cons_zero] at hM
    subst hM
    refine PyProof.Rows.assign_Name (stL S' (fun s₂ S₂ => ?_) hL hk hx)
    exact (turn i s₂ t hlt S₂ _).run (hsz i hlt) fun s' S' => ⟨n - (i + 1), by omega, i + 1, rfl, hlt, S'⟩
  · have hin : i = n := by omega
    subst hin
    refine nextRend hA S 3 rfl (by omega) fun M' s' hM S' => ?_
    simp only [List.eraseIdx_cons_succ, List.eraseIdx_cons_zero] at hM
    subst hM
    exact fin s' S'
theorem CompL {o : Obj} (hA : Ok k A) (hl : (Value.ref a, PyData.list ds) ∈ D) (as : Nat → List PyData) (Mr : Nat → List (Addr × MO)) (h0 : as 0 = []) (ho : IsLI o a 0)
    (S : St H f ((C, .ns []) :: (L, .ns l) :: (acc, .list []) :: (I, .raw o) :: Mr 0) D s) (hsz : ∀ i, i < ds.length → (as i).length ≤ sizeLine)
    (turn : ∀ i s v d o', ds[i]? = some d → St H f ((C, .ns [(x, .v v)]) :: (L, .ns l) :: (acc, .list (as i)) :: (I, .raw o') :: Mr i) ((v, d) :: D) s → ∀ E', CStep prog w A H f L C acc I l D elt ifs cenv (as i) (as (i + 1)) o' (Mr (i + 1)) s E')
    (fin : ∀ s, St H f ((C, .ns []) :: (L, .ns l) :: (acc, .list (as ds.length)) :: Mr ds.length) D s → R (.ok .next) s)
    (hL : cenv.locals = C := by rfl) (hk : cenv.scope.kind = .function := by rfl) (hx : cenv.kindOf x = some .local := by rfl) :
    codeAny (model prog w) A (.compLoop (.ListComp elt [⟨.Name x px, iter, ifs, 0⟩] scope pos) 0 (.ref I) (.ref acc) cenv) R s := by
  refine codeAny_compLoop_tests (fun k s => ∃ i o, k = ds.length - i ∧ i ≤ ds.length ∧ IsLI o a i ∧ St H f ((C, .ns []) :: (L, .ns l) :: (acc, .list (as i)) :: (I, .raw o) :: Mr i) D s) ?_ ds.length ⟨0, o, rfl, Nat.zero_le _, ho, by rw [h0]; exact S⟩
  clear S
  rintro k' s ⟨i, o, rfl, hi, ho, S⟩
  by_cases hlt : i < ds.length
  · refine nextL S 3 rfl ho (.inl hl) (List.getElem?_eq_getElem hlt) fun v o' M' s' ho' hM S' => ?_
    simp only [List.set_cons_succ, List.set_cons_zero] at hM
    subst hM
    refine PyProof.Rows.assign_Name (stL S' (fun s₂ S₂ => ?_) hL hk hx)
    exact (turn i s₂ v _ o' (List.getElem?_eq_getElem hlt) S₂ _).run (hsz i hlt) fun s' S' => ⟨ds.length - (i + 1), by omega, i + 1, o', rfl, hlt, ho', S'⟩
  · have hin : i = ds.length := by omega
    subst hin
    refine nextLend hA S 3 rfl ho (.inl hl) (Nat.le_refl _) fun M' s' hM S' => ?_
    simp only [List.eraseIdx_cons_succ, List.eraseIdx_cons_zero] at hM
    subst hM
    exact fin s' S'
theorem CStep.plain {as as' : List PyData} {o : Obj} {Mr' : List (Addr × MO)} (h : wpAny (model prog w) A (eval elt cenv) (fun y s₄ => ∃ e lc D', as' = as ++ [e] ∧ (∀ p ∈ D, p ∈ D') ∧ Kn D' y e ∧ St H f ((C, .ns lc) :: (L, .ns l) :: (acc, .list as) :: (I, .raw o) :: Mr') D' s₄) E s) :
    CStep prog w A H f L C acc I l D elt [] cenv as as' o Mr' s E := wpAny_tests_nil h
theorem CStep.one {as as' : List PyData} {o : Obj} {Mr' : List (Addr × MO)} {c : Expr} (h : wpAny (model prog w) A (isTrue c cenv (eval c cenv)) (fun ok s₃ => if ok = true then wpAny (model prog w) A (eval elt cenv) (fun y s₄ => ∃ e lc D', as' = as ++ [e] ∧ (∀ p ∈ D, p ∈ D') ∧ Kn D' y e ∧ St H f ((C, .ns lc) :: (L, .ns l) :: (acc, .list as) :: (I, .raw o) :: Mr') D' s₄) E s₃
    else as' = as ∧ ∃ lc D', (∀ p ∈ D, p ∈ D') ∧ St H f ((C, .ns lc) :: (L, .ns l) :: (acc, .list as) :: (I, .raw o) :: Mr') D' s₃) E s) :
    CStep prog w A H f L C acc I l D elt [c] cenv as as' o Mr' s E := wpAny_tests_one h

theorem ListComp_ {Q : Value → Shared → Prop} {tgt : Expr} 
    (hclos : closureFor scope env = pure cl)
    (h : wpAny (model prog w) A (eval iter env) (fun xv s₁ => wpAny (model prog w) A (pyIter xv) (fun it s₂ => ∃ I H f L l M D, it = .ref I ∧ St H f ((L, .ns l) :: M) D s₂ ∧
      (∀ s₃ (Q' Er : Value → Shared → Prop), St H f ((L, .ns l) :: M) D s₃ → Q' (.ref I) s₃ → wpAny (model prog w) A (pyIter (.ref I)) Q' Er s₃) ∧
      (∀ acc C s₃, St H f ((C, .ns []) :: (L, .ns l) :: (acc, .list []) :: M) D s₃ →
        codeAny (model prog w) A (.compLoop (.ListComp elt [⟨tgt, iter, ifs, 0⟩] scope pos) 0 (.ref I) (.ref acc) (compEnvC scope cl C env)) (compPost (model prog w) A E none Q (.ref acc) C) s₃)) E s₁) E s)
    (hcell : ∀ y ∈ scope.names, y.2 ≠ .cell := by decide) (hnames : ∀ y ∈ scope.names, y.2 = .local → scope.names.lookup y.1 = some .local := by decide) (hkind : scope.kind = .function := by rfl)
    (hs : ∀ x, foldedSetIterable iter env x = pure x := by intro _; rfl) :
    wpAny (model prog w) A (eval (.ListComp elt [⟨tgt, iter, ifs, 0⟩] scope pos) env) Q E s := by
  rw [eval_ListComp]
  exact comp_block rfl hclos hcell hkind hnames hs h
theorem AssignComp_ {Q : Flow → Shared → Prop} {tgt : Expr} {y : Str} {py spos : Pos}
    (hclos : closureFor scope env = pure cl)
    (h : wpAny (model prog w) A (eval iter env) (fun xv s₁ => wpAny (model prog w) A (pyIter xv) (fun it s₂ => ∃ I H f L l M D, it = .ref I ∧ St H f ((L, .ns l) :: M) D s₂ ∧
      (∀ s₃ (Q' Er : Value → Shared → Prop), St H f ((L, .ns l) :: M) D s₃ → Q' (.ref I) s₃ → wpAny (model prog w) A (pyIter (.ref I)) Q' Er s₃) ∧
      (∀ acc C s₃, St H f ((C, .ns []) :: (L, .ns l) :: (acc, .list []) :: M) D s₃ →
        codeAny (model prog w) A (.compLoop (.ListComp elt [⟨tgt, iter, ifs, 0⟩] scope pos) 0 (.ref I) (.ref acc) (compEnvC scope cl C env)) (compPost (model prog w) A E (some (assign (.Name y py) env)) (fun _ s' => Q .next s') (.ref acc) C) s₃)) E s₁) E s)
    (hsw : swapsWith (.ListComp elt [⟨tgt, iter, ifs, 0⟩] scope pos) (some (.Name y py)) spos.line env = pure true := by rfl)
    (hcell : ∀ y ∈ scope.names, y.2 ≠ .cell := by decide) (hnames : ∀ y ∈ scope.names, y.2 = .local → scope.names.lookup y.1 = some .local := by decide) (hkind : scope.kind = .function := by rfl)
    (hs : ∀ x, foldedSetIterable iter env x = pure x := by intro _; rfl) :
    wpAny (model prog w) A (exec (.Assign [.Name y py] (.ListComp elt [⟨tgt, iter, ifs, 0⟩] scope pos) spos) env) Q E s := by
  rw [exec_Assign_Name_used _ _ _ _ hsw]
  refine wpAny_bind (wpAny_standAt (wpAny_bind ?_))
  show wpAny _ A (do let _ ← comprehension (.ListComp elt [⟨tgt, iter, ifs, 0⟩] scope pos) scope env _ (newList []) false (eval iter env) (some (assign (.Name y py) env))) _ _ s
  exact wpAny_bind (wpAny_mono (comp_block (use := some (assign (.Name y py) env)) (Q := fun _ s' => Q .next s') rfl hclos hcell hkind hnames hs h) (fun _ s' hq => wpAny_pure (wpAny_pure hq)) fun _ _ e => e)
theorem selfR {p : Addr × MO} {x left step : Int} (S : St H f (p :: (I, .raw (rgObj x left step)) :: M) D s) {Q' Er : Value → Shared → Prop} (h : Q' (.ref I) s) : wpAny (model prog w) A (pyIter (.ref I)) Q' Er s :=
  wpAny_pyIter_rangeiter (S.own1 1 rfl) h
theorem selfL {p : Addr × MO} {o : Obj} (ho : IsLI o a 0) (S : St H f (p :: (I, .raw o) :: M) D s) {Q' Er : Value → Shared → Prop} (h : Q' (.ref I) s) : wpAny (model prog w) A (pyIter (.ref I)) Q' Er s :=
  wpAny_pyIter_listiter ⟨o, S.own1 1 rfl, ho⟩ h
end
end Mine
namespace Mine
section
variable {prog : Program} {w : World} {A : Around} {E : Value → Shared → Prop} {H : Heap} {f : Fm} {M : List (Addr × MO)} {s : Shared} {env : Env} {mg mb : Str → Option Value}
  {L a b I : Addr} {x : Str} {pos px : Pos} {v : Value} {ds es : List PyData} {p : Addr × MO} {k : Nat}
theorem LoopX {β : Type} {Q : Flow → Shared → Prop} {Er : Value → Shared → Prop} {body : List Stmt} {n : Nat} {a c : Int} {l0 : List (Str × AS)} {M0 : List (Addr × MO)} {D0 : List (Value × PyData)} (hA : Ok k A) (l : Nat → β → List (Str × AS)) (Mr : Nat → β → List (Addr × MO)) (D : Nat → β → List (Value × PyData)) (b0 : β)
    (S : St H f ((L, .ns l0) :: (I, .raw (rgs a c n 0)) :: M0) D0 s) (hl0 : ∀ p ∈ l 0 b0, ∃ e, l0.lookup p.1 = some e ∧ Imp D0 e p.2) (hM0 : (Mr 0 b0).Sublist M0) (hD0 : ∀ p ∈ D 0 b0, p ∈ D0)
    (turn : ∀ i b s t, i < n → St H f ((L, .ns ((x, .v (.int (a + i * c) t)) :: l i b)) :: (I, .raw (rgs a c n (i + 1))) :: Mr i b) (D i b) s → ∀ E', wpAny (model prog w) A (execs body env) (fun fl s' => match fl with
      | .next | .cont => ∃ b', St H f ((L, .ns (l (i + 1) b')) :: (I, .raw (rgs a c n (i + 1))) :: Mr (i + 1) b') (D (i + 1) b') s' | .brk => Q .next s' | .ret v => Q (.ret v) s') E' s)
    (fin : ∀ b s, St H f ((L, .ns (l n b)) :: Mr n b) (D n b) s → Q .next s)
    (hL : env.locals = L := by rfl) (hk : env.scope.kind = .function := by rfl) (hx : env.kindOf x = some .local := by rfl) :
    codeAny (model prog w) A (.forLoop (.Name x px) (.ref I) body [] env) (RQ Q Er) s := by
  refine Loop_ (fun k s => ∃ i b, k = n - i ∧ i ≤ n ∧ St H f ((L, .ns (l i b)) :: (I, .raw (rgs a c n i)) :: Mr i b) (D i b) s) n ⟨0, b0, rfl, Nat.zero_le _, (S.vars hl0).less (.cons_cons _ (.cons_cons _ hM0)) hD0⟩ ?_
  rintro k' s ⟨i, b, rfl, hi, S⟩ E'
  by_cases hlt : i < n
  · refine nextR S 1 rfl (by omega) fun t M' s' hM S' => ?_
    have e1 : rgObj (a + i * c + c) ((n : Int) - i - 1) c = rgs a c n (i + 1) := by
      have e2 : a + (i : Int) * c + c = a + ((i + 1 : Nat) : Int) * c := by push_cast; rw [Int.add_mul]; omega
      have e3 : (n : Int) - i - 1 = (n : Int) - ((i + 1 : Nat) : Int) := by omega
      rw [e2, e3]
    rw [e1] at hM
    simp only [List.set_cons_succ, List.set_cons_zero] at hM
    subst hM
    refine PyProof.Rows.assign_Name (stL S' (fun s₂ S₂ => ?_) hL hk hx)
    refine wpAny_mono (turn i b s₂ t hlt S₂ E') (fun fl s₃ h => ?_) fun _ _ e => e
    cases fl with
    | next => obtain ⟨b', h⟩ := h; exact ⟨n - (i + 1), by omega, i + 1, b', rfl, hlt, h⟩
    | cont => obtain ⟨b', h⟩ := h; exact ⟨n - (i + 1), by omega, i + 1, b', rfl, hlt, h⟩
    | brk => exact h
    | ret v => exact h
  · have hin : i = n := by omega
    subst hin
    refine nextRend hA S 1 rfl (by omega) fun M' s' hM S' => ?_
    simp only [List.eraseIdx_cons_succ, List.eraseIdx_cons_zero] at hM
    subst hM
    exact fin b s' S'
end
end Mine
namespace Mine
section
variable {prog : Program} {w : World} {A : Around} {E : Value → Shared → Prop} {H : Heap} {f : Fm} {M : List (Addr × MO)} {D : List (Value × PyData)} {s : Shared} {Q : Value → Shared → Prop} {fa : Addr} {vs : List Value} {k : Nat} {mg mb : Str → Option Value}
  {name qual : Str} {params : Arguments} {body : List Stmt} {scope : Scope} {dV kV doc pm cdv ct oc : Value} {an od : Option Addr} {osl : Array (Option Value)} {binds : List (Str × Value)}
/-- a call of a def that changes one list of ours -/
theorem callM (W : Wd w mg mb H) (hA : Ok (k + 1) A) (S : St H f M D s) {i : Nat} {tb : Addr} {ds ds' : List PyData} (hi : M[i]? = some (tb, .list ds)) (R : Value → Prop)
    (ho : (KW w).lookup fa = some ⟨oc, od, .func (fnOf name qual params body scope dV kV doc pm an cdv ct), osl⟩) (hcd : codeIn (KW w) cdv qual = true)
    (hbind : bindArgs (fnOf name qual params body scope dV kV doc pm an cdv ct) ⟨vs, []⟩ = pure binds) (hloc : ∀ y ∈ binds, scope.names.lookup y.1 = some .local) (hcell : ∀ x ∈ scope.names, x.2 ≠ .cell)
    (hQ : ∀ v M' s', R v → M.set i (tb, .list ds') = M' → St H f M' D s' → Q v s')
    (h : ∀ A f' L s', Ok k A → St H f' [(L, .ns (binds.reverse.map fun p => (p.1, AS.v p.2))), (tb, .list ds)] D s' → wpAny (model prog w) A (execs body (envX qual scope L fa cdv [])) (fun fl s'' => ∃ v l D', fl = .ret v ∧ R v ∧ St H f' [(L, .ns l), (tb, .list ds')] D' s'') (fun _ _ => False) s')
    (hco : scope.isCoroutine = false := by rfl) (hgen : scope.isGenerator = false := by rfl) (hk : scope.kind = .function := by rfl) :
    wpAny (model prog w) A (call (.ref fa) vs) Q E s := by
  have hg := S.world _ _ (W.X _ _ ho)
  obtain ⟨G, V⟩ := S.view
  have ⟨hat, hGt, hBt⟩ := V.own _ (List.mem_of_getElem? hi)
  have hGt' : G tb = none := hGt
  have hBt' : f.s0.heap.get? tb = none := hBt
  have hnt : ∀ b o, f.s0.heap.get? b = some o → b ≠ tb := fun b o e q => by rw [q, hBt'] at e; cases e
  have hGn : ∀ b o, G b = some o → b ≠ tb := fun b o e q => by rw [q, hGt'] at e; cases e
  have hid : ∀ b o, (s.heap.hide tb).get? b = some o → b ≠ tb ∧ s.heap.get? b = some o := fun b o e => by
    by_cases q : b = tb
    · subst q; rw [Heap.hide_self] at e; cases e
    · exact ⟨q, by rwa [Heap.hide_ne _ q] at e⟩
  have hst : St H ⟨{ s with heap := s.heap.hide tb }, G⟩ [(tb, .list ds)] D s := by
    refine ⟨⟨s.heap, s.toks, rfl⟩, fun b o e => ?_, fun b o e => (hid b o e).2, ⟨G, V.sub, fun _ _ e => e, fun _ _ e => .inl e, V.data, fun p hp => ?_⟩, by simp⟩
    · have hb := S.base b o e
      show (s.heap.hide tb).get? b = some o
      rw [Heap.hide_ne _ (hnt _ _ hb)]; exact S.keep _ _ hb
    · rcases List.mem_cons.mp hp with rfl | hp
      · exact ⟨hat, hGt', Heap.hide_self _ _⟩
      · cases hp
  refine wpAny_call (codeAny_call_def (fd := fnOf name qual params body scope dV kV doc pm an cdv ct) (body := body) (binds := binds) (by have := hA.d; omega) hg rfl (W.T.nolimit.keeps S.world) ((codeRec_of W.X hcd).keeps S.world) rfl (BindsTo.of_eq hbind) hcell hloc (fun h₀ hns hk₀ => ?_) hco hgen hk)
  have S1 : St H ⟨{ s with heap := s.heap.hide tb }, G⟩ ((s.heap.objs.size, .ns (binds.reverse.map fun p => (p.1, AS.v p.2))) :: [(tb, .list ds)]) D { s with heap := h₀, toks := s.toks + binds.length } :=
    hst.addM (mo := .ns (binds.reverse.map fun p => (p.1, AS.v p.2))) (size_none _) hk₀ fun G V => ⟨_, hns, fun x e he => lookup_map he⟩
  refine wpAny_mono (h _ _ _ _ hA.deeper S1) (fun fl s'' hr => ?_) (fun _ _ x => x.elim)
  obtain ⟨v, l, D', rfl, hR, S2⟩ := hr
  show Q v s''
  obtain ⟨G2, V2⟩ := S2.view
  have ⟨hat2, hG2, _⟩ := V2.own (tb, .list ds') (.tail _ (.head _))
  have hG2' : G2 tb = none := hG2
  have keep2 : ∀ b o, b ≠ tb → s.heap.get? b = some o → s''.heap.get? b = some o := fun b o q e => S2.keep b o (by show (s.heap.hide tb).get? b = some o; rw [Heap.hide_ne _ q]; exact e)
  have hle : VLe G G2 := V2.grew
  refine hQ v _ s'' hR rfl ⟨?_, S.base, fun b o e => keep2 b o (hnt _ _ e) (S.keep b o e), ⟨G2, V2.sub, fun b o e => hle b o (V.grew b o e), fun b o e => ?_, fun p hp => (V.data p hp).mono hle, fun p hp => ?_⟩, by rw [map_set_fst hi]; exact S.nodup⟩
  · obtain ⟨h1, t1, e1⟩ := S.same
    obtain ⟨h2, t2, e2⟩ := S2.same
    refine ⟨h2, t2, ?_⟩
    rw [e2, e1]
  · rcases V2.new b o e with e1 | e1
    · exact V.new b o e1
    · right
      have e1' : (s.heap.hide tb).get? b = none := e1
      have hb : b ≠ tb := fun q => by rw [q, hG2'] at e; cases e
      rw [Heap.hide_ne _ hb] at e1'
      cases e3 : f.s0.heap.get? b with
      | none => rfl
      | some o3 => rw [S.keep b o3 e3] at e1'; cases e1'
  · obtain ⟨j, hj⟩ := List.getElem?_of_mem hp
    have hlt := lt_of_getElem? hi
    by_cases q : i = j
    · subst q
      rw [List.getElem?_set_self hlt] at hj
      cases hj
      exact ⟨hat2, hG2', hBt'⟩
    · rw [List.getElem?_set_ne q] at hj
      have ⟨x, y, z⟩ := V.own p (List.mem_of_getElem? hj)
      have hne := other_ne S.nodup hi hj q
      refine ⟨x.move hle fun o e => keep2 _ o hne e, ?_, z⟩
      cases e : G2 p.1 with
      | none => rfl
      | some o =>
        rcases V2.new _ o e with e1 | e1
        · have e1' : G p.1 = some o := e1
          rw [y] at e1'; cases e1'
        · have e1' : (s.heap.hide tb).get? p.1 = none := e1
          rw [Heap.hide_ne _ hne] at e1'
          obtain ⟨o2, ho2⟩ := x.live
          rw [ho2] at e1'; cases e1'
end
end Mine
namespace Mine
section
variable {prog : Program} {w : World} {A : Around} {E : Value → Shared → Prop} {H : Heap} {f : Fm} {M : List (Addr × MO)} {D : List (Value × PyData)} {s : Shared} {env : Env} {mg mb : Str → Option Value}
  {L C a b I acc : Addr} {x : Str} {pos px : Pos} {v : Value} {ds es : List PyData} {p : Addr × MO} {k : Nat} {l lc : List (Str × AS)} {elt iter : Expr} {ifs : List Expr} {scope : Scope} {cl : List (Str × Addr)} {R : Result → Shared → Prop} {cenv : Env}
theorem enumStep {Qn K : Shared → Prop} {o : Obj} {e it : Addr} {xi xv : Str} {pi pv pt : Pos} {x1 i : Nat} {old : Value} (hA : Ok k A) (ho : IsLI o a i) (hl : (Value.ref a, PyData.list ds) ∈ D) (hi : i ≤ ds.length)
    (S : St H f ((L, .ns l) :: (e, .raw (enObj it ((i : Nat) : Int) old)) :: (it, .raw o) :: M) D s)
    (turn : ∀ s v d t old o', ds[i]? = some d → IsLI o' a (i + 1) → St H f ((L, .ns ((xv, .v v) :: (xi, .v (.int (i : Nat) t)) :: l)) :: (e, .raw (enObj it ((i + 1 : Nat) : Int) old)) :: (it, .raw o') :: M) ((v, d) :: D) s → K s)
    (fin : ∀ s, i = ds.length → St H f ((L, .ns l) :: M) D s → Qn s)
    (hL : env.locals = L := by rfl) (hk : env.scope.kind = .function := by rfl) (hxi : env.kindOf xi = some .local := by rfl) (hxv : env.kindOf xv = some .local := by rfl) :
    wpAny (model prog w) A (pyNext (.ref e)) (fun r s₁ => match r with
      | none => Qn s₁
      | some v => wpAny (model prog w) A (letOwnedTupleGo (.Tuple [.Name xi pi, .Name xv pv] x1 pt) (.ref e) v) (fun _ s₀ => wpAny (model prog w) A (assign (.Tuple [.Name xi pi, .Name xv pv] x1 pt) env v) (fun _ s₂ => K s₂) E s₀) E s₁) E s := by
  obtain ⟨G, vs, n, V, ea, r⟩ := S.look (.inl hl)
  have he : IsEnum s.heap e it i old := (V.own _ (.tail _ (.head _))).1
  have hit : s.heap.get? it = some o := (V.own _ (.tail _ (.tail _ (.head _)))).1
  have nd := S.nodup
  simp only [List.map_cons, List.nodup_cons, List.mem_cons, List.mem_map, not_or] at nd
  by_cases hlt : i < ds.length
  · obtain ⟨v, hv, hvd⟩ := r.get (List.getElem?_eq_getElem hlt)
    refine wpAny_pyNext_enum_item (x := v) he ⟨o, hit, ho⟩ (isList_of ea) (by simpa using hv) nd.2.1.1 fun h₁ heo hit₁ ht₁ hz₁ hk₁ => ?_
    refine wpAny_letOwnedTupleGo_enum heo fun h₂ he₂ hs₂ => ?_
    replace hs₂ : Heap.SameBut e h₁ h₂ := hs₂
    obtain ⟨o', ho', hc', hd'⟩ := hit₁
    have S0 : St H f ((L, .ns l) :: (e, .raw (enObj it ((i : Nat) : Int) old)) :: (it, .raw o) :: M) ((v, ds[i]) :: D) s := S.more fun G' V' => by
      obtain ⟨vs', n', e', r'⟩ := V'.look (.inl hl)
      have := lst_inj (ea.symm.trans e')
      subst this
      obtain ⟨v', hv', hvd'⟩ := r'.get (List.getElem?_eq_getElem hlt)
      rw [hv] at hv'; cases hv'
      exact hvd'
    have hne : s.heap.objs.size ≠ e := fun q => absurd (q ▸ Heap.lt_size he) (Nat.lt_irrefl _)
    have key : ∀ b o, b ≠ e → b ≠ it → s.heap.get? b = some o → h₂.get? b = some o := fun b o h1 h2 x => hs₂.extBut b o h1 (hk₁ b o h1 h2 x)
    have S2 : St H f ((L, .ns l) :: (s.heap.objs.size, .raw (tupObj [.int i s.toks, v] 0)) :: (e, .raw (enObj it ((i + 1 : Nat) : Int) v)) :: (it, .raw o') :: M) ((v, ds[i]) :: D) { s with heap := h₂, toks := s.toks + 1 } := by
      refine S0.re (tk := s.toks + 1) _ (fun b o hb x => key b o (fun q => hb _ (.tail _ (.head _)) q.symm) (fun q => hb _ (.tail _ (.tail _ (.head _))) q.symm) x) (fun G V q hq => ?_) ?_
      · rcases List.mem_cons.mp hq with rfl | hq
        · exact ⟨(V.own _ (.head _)).1.move (fun _ _ e => e) (fun o x => key _ o nd.1.1 nd.1.2.1 x), .inl ⟨_, .head _, rfl⟩⟩
        rcases List.mem_cons.mp hq with rfl | hq
        · refine ⟨?_, .inr (size_none _)⟩
          show h₂.get? _ = _
          rw [hs₂.2 _ hne]; exact ht₁
        rcases List.mem_cons.mp hq with rfl | hq
        · refine ⟨?_, .inl ⟨_, .tail _ (.head _), rfl⟩⟩
          show h₂.get? _ = _
          have : ((i + 1 : Nat) : Int) = (i : Int) + 1 := by push_cast; rfl
          rw [this]; exact he₂
        rcases List.mem_cons.mp hq with rfl | hq
        · refine ⟨?_, .inl ⟨_, .tail _ (.tail _ (.head _)), rfl⟩⟩
          show h₂.get? _ = _
          rw [hs₂.2 _ (fun q => nd.2.1.1 q.symm)]; exact ho'
        · refine ⟨(V.own _ (.tail _ (.tail _ (.tail _ hq)))).1.move (fun _ _ e => e) (fun o x => key _ o (fun w => nd.2.1.2 ⟨_, hq, w⟩) (fun w => nd.2.2.1 ⟨_, hq, w⟩) x), .inl ⟨_, .tail _ (.tail _ (.tail _ hq)), rfl⟩⟩
      · have i1 := S.notIn (size_none s.heap)
        simp only [List.map_cons, List.nodup_cons, List.mem_cons, List.mem_map, not_or]
        exact ⟨⟨i1 _ (.head _), nd.1.1, nd.1.2.1, nd.1.2.2⟩, ⟨fun w => i1 _ (.tail _ (.head _)) w.symm, fun w => i1 _ (.tail _ (.tail _ (.head _))) w.symm, fun ⟨q, hq, w⟩ => i1 _ (.tail _ (.tail _ (.tail _ hq))) w⟩, nd.2.1, nd.2.2⟩
    refine unpT hA S2 (.tail _ (.head _)) rfl rfl fun s₃ S3 => ?_
    refine assignInOrder_cons ?_
    refine PyProof.Rows.assign_Name (stL S3 (fun s₄ S4 => ?_) hL hk hxi)
    refine assignInOrder_cons ?_
    refine PyProof.Rows.assign_Name (stL S4 (fun s₅ S5 => ?_) hL hk hxv)
    refine assignInOrder_nil ?_
    exact turn s₅ v _ s.toks v o' (List.getElem?_eq_getElem hlt) ⟨hc', hd'⟩ (S5.less (.cons_cons _ (.cons _ (List.Sublist.refl _))) (fun _ h => h))
  · have hin : i = ds.length := by omega
    subst hin
    have hlen := r.length
    refine wpAny_pyNext_enum_end hA.h he ⟨o, hit, ho⟩ (isList_of ea) (by simp; omega) fun h' he' => ?_
    have S1 := S.dropM (h' := h') (tk := s.toks) 2 rfl fun b o hb e => he' b o hb e
    exact fin _ rfl (S1.less (.cons_cons _ (.cons _ (List.Sublist.refl _))) fun _ h => h)

theorem CompE {o : Obj} {e it : Addr} {xi xv : Str} {pi pv pt : Pos} {x1 : Nat} (hA : Ok k A) (hl : (Value.ref a, PyData.list ds) ∈ D) (as : Nat → List PyData) (h0 : as 0 = []) (ho : IsLI o a 0)
    (S : St H f ((C, .ns []) :: (L, .ns l) :: (acc, .list []) :: (e, .raw (enObj it 0 .none)) :: (it, .raw o) :: M) D s) (hsz : ∀ i, i < ds.length → (as i).length ≤ sizeLine)
    (turn : ∀ i s v d t, ds[i]? = some d → ∀ M', St H f ((C, .ns [(xv, .v v), (xi, .v (.int (i : Nat) t))]) :: (L, .ns l) :: (acc, .list (as i)) :: (M ++ M')) ((v, d) :: D) s → ∀ E',
      wpAny (model prog w) A (eval elt cenv) (fun y s₄ => ∃ e' lc D', as (i + 1) = as i ++ [e'] ∧ (∀ p ∈ D, p ∈ D') ∧ Kn D' y e' ∧ St H f ((C, .ns lc) :: (L, .ns l) :: (acc, .list (as i)) :: (M ++ M')) D' s₄) E' s)
    (fin : ∀ s, St H f ((C, .ns []) :: (L, .ns l) :: (acc, .list (as ds.length)) :: M) D s → R (.ok .next) s)
    (hL : cenv.locals = C := by rfl) (hk : cenv.scope.kind = .function := by rfl) (hxi : cenv.kindOf xi = some .local := by rfl) (hxv : cenv.kindOf xv = some .local := by rfl) :
    codeAny (model prog w) A (.compLoop (.ListComp elt [⟨.Tuple [.Name xi pi, .Name xv pv] x1 pt, iter, [], 0⟩] scope pos) 0 (.ref e) (.ref acc) cenv) R s := by
  refine kcp_loop (fun k s => ∃ i o old, k = ds.length - i ∧ i ≤ ds.length ∧ IsLI o a i ∧ St H f ((C, .ns []) :: (e, .raw (enObj it ((i : Nat) : Int) old)) :: (it, .raw o) :: (L, .ns l) :: (acc, .list (as i)) :: M) D s) ?_ ds.length ⟨0, o, .none, rfl, Nat.zero_le _, ho, ?_⟩
  · clear S
    rintro k' s ⟨i, o, old, rfl, hi, ho, S⟩
    refine enumStep hA ho hl hi S (fun s v d t old o' hd ho' S' => ?_) (fun s hin S' => ?_) hL hk hxi hxv
    · have hlt : i < ds.length := lt_of_getElem? hd
      have S1 : St H f ((C, .ns [(xv, .v v), (xi, .v (.int (i : Nat) t))]) :: (L, .ns l) :: (acc, .list (as i)) :: (M ++ [(e, .raw (enObj it ((i + 1 : Nat) : Int) old)), (it, .raw o')])) ((v, d) :: D) s := S'.perm (by
        refine List.Perm.cons _ ?_
        exact (List.perm_append_comm (l₁ := (L, MO.ns l) :: (acc, MO.list (as i)) :: M) (l₂ := [(e, .raw (enObj it ((i + 1 : Nat) : Int) old)), (it, .raw o')])))
      refine wpAny_mono (turn i s v d t hd _ S1 _) (fun y s₄ h₄ => ?_) fun _ _ e => e
      obtain ⟨e', lc, D', h1, hD, hy, S2⟩ := h₄
      refine appL S2 2 rfl hy (hsz i hlt) fun M' s' hM S' => ?_
      simp only [List.set_cons_succ, List.set_cons_zero] at hM
      subst hM
      refine ⟨ds.length - (i + 1), by omega, i + 1, o', old, rfl, hlt, ho', ?_⟩
      rw [h1]
      have S3 := (S'.vars (l' := []) fun p hp => by cases hp).lessD hD
      refine S3.perm ?_
      refine List.Perm.cons _ ?_
      exact (List.perm_append_comm (l₁ := (L, MO.ns l) :: (acc, MO.list (as i ++ [e'])) :: M) (l₂ := [(e, .raw (enObj it ((i + 1 : Nat) : Int) old)), (it, .raw o')])).symm
    · subst hin
      exact fin s S'
  · rw [h0]
    refine S.perm ?_
    refine List.Perm.cons _ ?_
    exact List.perm_append_comm (l₁ := [(e, MO.raw (enObj it ((0 : Nat) : Int) .none)), (it, .raw o)]) (l₂ := [(L, MO.ns l), (acc, MO.list [])]) |>.append_right M
end
end Mine
namespace Mine
-- the steps that need no thought, by the goal's own form
local macro_rules | `(tactic| walk_at "m_name") => `(tactic| first
  | ((with_reducible refine' ldV (by assumption) ?hv ?h ?a ?b ?c ?d); (case c => rfl); (case hv => rfl); (case a => rfl); (case b => rfl); (case d => rfl))
  | ((with_reducible refine' ldI (by assumption) ?hv ?h ?a ?b ?c ?d); (case c => rfl); (case hv => rfl); (case a => rfl); (case b => rfl); (case d => rfl); intro _)
  | ((with_reducible refine' ldDL (by assumption) ?hv ?h ?a ?b ?c ?d); (case c => rfl); (case hv => rfl); (case a => rfl); (case b => rfl); (case d => rfl); intro _ _)
  | ((with_reducible refine' ldDT (by assumption) ?hv ?h ?a ?b ?c ?d); (case c => rfl); (case hv => rfl); (case a => rfl); (case b => rfl); (case d => rfl); intro _ _)
  | ((with_reducible refine' ldD (by assumption) ?hv ?h ?a ?b ?c ?d); (case c => rfl); (case hv => rfl); (case a => rfl); (case b => rfl); (case d => rfl); intro _ _)
  | ((with_reducible refine' ldB (by assumption) (by assumption) ?e ?hv ?h ?n ?g ?b ?a ?c ?d); (case e => with_reducible first | exact gLen _ | exact gAbs _ | exact gInt _ | exact gRange _ | exact gEnum _); (case hv => with_reducible first | exact bLen | exact bAbs | exact bInt | exact bRange | exact bEnum); (case n => exact nameNe rfl); (case c => rfl); (case g => rfl); (case b => rfl); (case a => rfl); (case d => rfl))
  | ((with_reducible refine' ldG (by assumption) (by assumption) ?e ?h ?g ?a ?c ?d); (case e => with_reducible first | exact g46 _ | exact g53 _ | exact g60 _ | exact g67 _ | exact g74 _ | exact g81 _ | exact g88 _ | exact g95 _ | exact g102 _ | exact g109 _ | exact g114 _ | exact g121 _ | exact g128 _ | exact g135 _ | exact g142 _ | exact g149 _ | exact g156 _ | exact g163 _ | exact g170 _ | exact g177 _ | exact g184 _ | exact g191 _ | exact g198 _ | exact g205 _ | exact g210 _ | exact g217 _); (case c => rfl); (case g => rfl); (case a => rfl); (case d => rfl))
  | ((with_reducible refine' ldC (by assumption) ?hm ?h ?hc ?a ?c ?d); (case c => rfl); (case hc => rfl); (case hm => k_mem); (case a => rfl); (case d => rfl))
  | ((with_reducible refine' ldF (by assumption) ?hm ?h ?hc ?a ?c ?d ?n); (case c => rfl); (case hc => rfl); (case hm => k_mem); (case a => rfl); (case d => rfl); (case n => rfl))
  | fail "m_name: no step")
local macro_rules | `(tactic| walk_at "m_eval") => `(tactic| first
  | ((with_reducible show wpAny _ _ (eval (Expr.Name _ _) _) _ _ _); walk_at "m_name")
  | ((with_reducible refine' Kint (by assumption) ?h); intro _ _ _)
  | (with_reducible first | refine' wpAny_BinOp ?h)
  | ((with_reducible refine' MethodCall_ ?h ?e); (case e => with_unfolding_all rfl))
  | ((with_reducible refine' Call_ ?h ?e); (case e => with_unfolding_all rfl))
  | (with_reducible first | refine' Subscript_ ?h | refine' Tuple_ ?h | refine' List_ ?h)
  | ((with_reducible refine' wpAny_Compare1 ?h ?e); (case e => with_unfolding_all rfl))
  | (with_reducible first | refine' Constant_bool ?h | refine' IfExp_ ?h | refine' UnaryOp_ ?h | refine' sliceE ?h | refine' BoolOp_one ?h | refine' BoolOp_and ?h)
  | fail "m_eval: no step")
local macro_rules | `(tactic| walk_at "m_exec") => `(tactic| first
  | ((with_reducible refine' wpAny_Assign_Name ?h ?e); (case e => rfl))
  | (with_reducible first | refine' wpAny_If ?h | refine' wpAny_Return_some ?h | refine' wpAny_AugAssign_Name ?h)
  | ((with_reducible refine' wpAny_Expr ?h ?e ?f); (case e => rfl); (case f => rfl))
  | ((with_reducible refine' wpAny_Assign_Subscript ?h ?e); (case e => rfl))
  | ((with_reducible refine' Assign_Tuple ?h ?e ?f); (case e => rfl); (case f => rfl))
  | ((with_reducible refine' Assign_Tuple_swapped ?h ?e ?f); (case e => rfl); (case f => rfl))
  | fail "m_exec: no step")
local macro_rules | `(tactic| walk_at "m_bin") => `(tactic| first
  | ((with_reducible refine' addI (by assumption) ?h); intro _ _ _)
  | ((with_reducible refine' subI (by assumption) ?h); intro _ _ _)
  | ((with_reducible refine' andI (by assumption) ?h); intro _ _ _)
  | ((with_reducible refine' modI (by assumption) ?a ?h); (case a => first | decide | omega); intro _ _ _)
  | ((with_reducible refine' divI (by assumption) ?a ?b ?h); (case a => first | decide | omega); (case b => first | decide | omega); intro _ _ _)
  | ((with_reducible refine' mulI (by assumption) ?a ?h); (case a => first | decide | omega); intro _ _ _)
  | ((with_reducible refine' shlI (by assumption) ?a ?b ?c ?h); (case a => omega); (case b => omega); (case c => decide); intro _ _ _)
  | fail "m_bin: no step")
local macro_rules | `(tactic| walk_at "m_cmp") => `(tactic| first
  | (with_reducible first | refine' lt_int ?h | refine' gt_int ?h | refine' le_int ?h | refine' ge_int ?h | refine' eq_int ?h | refine' ne_int ?h | refine' eq_bool ?h | refine' ne_bool ?h)
  | fail "m_cmp: no step")
local macro_rules | `(tactic| walk_at "m_tst") => `(tactic| first
  | ((with_reducible refine' wpAny_isTrue_Compare1 ?h ?e); (case e => with_unfolding_all rfl))
  | ((with_reducible refine' isTrue_chain ?h ?e); (case e => with_unfolding_all rfl))
  | (with_reducible first | refine' isTrue_and_nil ?h | refine' isTrue_and ?h)
  | ((with_reducible refine' isTrue_plain ?h ?e); (case e => with_unfolding_all rfl))
  | fail "m_tst: no step")
local macro_rules | `(tactic| walk_at "m_cw") => `(tactic| first
  | ((with_reducible refine' callWith_K (Wd.X (by assumption)) ?k ?h ?a ?b); (case k => exact keepDef _ rfl); (case a => with_unfolding_all rfl); (case b => with_unfolding_all rfl))
  | ((with_reducible refine' PyProof.Rows.callWith_builtin1 ?h ?a ?b); (case a => with_unfolding_all rfl); (case b => with_unfolding_all rfl))
  | ((with_reducible refine' PyProof.Rows.callWith_type1 ?h ?a ?b); (case a => with_unfolding_all rfl); (case b => with_unfolding_all rfl))
  | ((with_reducible refine' callWith_method1 ?h ?a ?b); (case a => with_unfolding_all rfl); (case b => with_unfolding_all rfl))
  | fail "m_cw: no step")
local macro_rules | `(tactic| walk_at "mcell") => `(tactic| first
  | ((with_reducible refine' stC (by assumption) ?j ?i ?h ?c ?a ?b); (case b => rfl); (case a => rfl); (case c => rfl); (first | (case j => exact 1); (case i => rfl) | (case j => exact 2); (case i => rfl) | (case j => exact 3); (case i => rfl) | (case j => exact 4); (case i => rfl) | (case j => exact 5); (case i => rfl) | (case j => exact 6); (case i => rfl) | (case j => exact 7); (case i => rfl) | (case j => exact 8); (case i => rfl) | (case j => exact 9); (case i => rfl)); walk_at "mstc")
  | fail "mcell: no step")
local macro_rules | `(tactic| walk_at "m_rest") => `(tactic| first
  | ((with_reducible refine' stL (by assumption) ?h ?a ?b ?c); (case c => rfl); (case a => rfl); (case b => rfl); intro _ _)
  | (walk_at "mcell")
  | (with_reducible first | refine' wpAny_truthy_bool ?h)
  | ((with_reducible refine' lnV (by assumption) ?hv ?h ?a ?b ?c); (case c => rfl); (case hv => rfl); (case a => rfl); (case b => rfl))
  | ((with_reducible refine' lnI (by assumption) ?hv ?h ?a ?b ?c); (case c => rfl); (case hv => rfl); (case a => rfl); (case b => rfl); intro _)
  | ((with_reducible refine' lnD (by assumption) ?hv ?h ?a ?b ?c); (case c => rfl); (case hv => rfl); (case a => rfl); (case b => rfl); intro _ _)
  | ((with_reducible refine' iaddI (by assumption) ?h); intro _ _ _)
  | ((with_reducible refine' isubI (by assumption) ?h); intro _ _ _)
  | ((with_reducible refine' ishrI (by assumption) ?a ?h); (case a => omega); intro _ _ _)
  | ((with_reducible refine' lenL (by assumption) ?l ?n ?z ?h); (case l => walk_at "mhas"); (case n => first | exact List.length_map _ | rfl); (case z => walk_at "msz"); intro _ _ _)
  | ((with_reducible show Frag.In _ _ ∧ _); refine ⟨(Wd.X (by assumption)).keeps (St.world (by assumption)), ?_⟩)
  | (with_reducible first | refine' PyProof.Rows.assign_Name ?h | refine' bindName_ ?h | refine' assignInOrder_cons ?h | refine' assignInOrder_nil ?h)
  | ((with_reducible show wpAny _ _ (assignInOrder _ _) _ _ _); first | refine assignInOrder_cons ?_ | refine assignInOrder_nil ?_)
  | ((with_reducible refine' methL (by assumption) ?m ?h); (case m => k_mem))
  | ((with_reducible refine' newLM (by assumption) ?v ?h ?z); (case v => first | exact .nil | exact .cons (Kn.int _ _) .nil); (case z => exact Nat.le_of_ble_eq_true rfl); intro _ _ _)
  | (with_reducible first | refine' partN ?h | refine' partS ?h | refine' truthy_int ?h | refine' test_last ?h | refine' test_link ?h)
  | ((with_reducible refine' negI (by assumption) ?h); intro _ _ _)
  | (with_reducible first | refine' not_of ?h)
  | ((with_reducible show if (_ : Bool) = true then _ else _); simp only [if_true, Bool.false_eq_true, if_false])
  | fail "m_rest: no step")
local macro_rules | `(tactic| walk_at "ms") => `(tactic| first
  | ((with_reducible show wpAny _ _ (eval _ _) _ _ _); walk_at "m_eval")
  | ((with_reducible refine' spliced_more ?h ?e); (case e => with_unfolding_all rfl))
  | (with_reducible first | refine' spliced_none ?h | refine' wpAny_execs_cons ?h | refine' wpAny_execs_nil ?h)
  | ((with_reducible show wpAny _ _ (exec _ _) _ _ _); walk_at "m_exec")
  | ((with_reducible show wpAny _ _ (binaryOp _ _ _) _ _ _); walk_at "m_bin")
  | ((with_reducible show wpAny _ _ (compareOp _ _ _) _ _ _); walk_at "m_cmp")
  | ((with_reducible show wpAny _ _ (isTrue _ _ _) _ _ _); walk_at "m_tst")
  | ((with_reducible show wpAny _ _ (callWith _ _ _ _ _) _ _ _); walk_at "m_cw")
  | walk_at "m_rest"
  | fail "ms: no step")
local macro_rules | `(tactic| walk_at "mr") => `(tactic| repeat' walk_at "ms")
local macro_rules | `(tactic| walk_at "msz") => `(tactic| first | (simp only [List.length_map, List.length_cons, List.length_nil]; omega) | omega)
local macro_rules | `(tactic| walk_at "mkn") => `(tactic| first | exact Kn.int _ _ | exact Kn.bool _ | exact Kn.mem (by k_mem))
local macro_rules | `(tactic| walk_at "mimp") => `(tactic| first | exact Imp.int (by first | rfl | omega) | exact Imp.ii (by first | rfl | omega) | exact Imp.refl _ | exact Imp.dat (by walk_at "mkn") | exact Imp.id (by first | rfl | omega))
local macro_rules | `(tactic| walk_at "mvars") => `(tactic| first | exact List.forall_mem_nil _ | (refine List.forall_mem_cons.mpr ⟨⟨_, by rfl, by walk_at "mimp"⟩, ?_⟩; walk_at "mvars"))
local macro_rules | `(tactic| walk_at "mcond") => `(tactic| ((try simp only [decide_eq_true_eq, beq_iff_eq, bne_iff_ne, ne_eq, Decidable.not_not, Bool.not_eq_true', decide_eq_false_iff_not, beq_eq_false_iff_ne]); first | assumption | omega))
local macro_rules | `(tactic| walk_at "mpos") => `(tactic| rw [if_pos (by walk_at "mcond")])
local macro_rules | `(tactic| walk_at "mneg") => `(tactic| rw [if_neg (by walk_at "mcond")])
local macro_rules | `(tactic| walk_at "mhd") => `(tactic| first | exact List.forall_mem_nil _ | (refine List.forall_mem_cons.mpr ⟨by assumption, ?_⟩; walk_at "mhd"))
local macro_rules | `(tactic| walk_at "mhas") => `(tactic| first | exact Or.inl (by k_mem) | exact Or.inr (by k_mem))
local macro_rules | `(tactic| walk_at "mtup") => `(tactic| ((with_reducible refine' newTR (by assumption) ?h ?z); (case z => exact Nat.le_of_ble_eq_true rfl); intro _ _ _; first | ((with_reducible refine' unpT (by assumption) (by assumption) ?m ?l ?f ?h2); (case m => k_mem); (case l => rfl); (case f => rfl); intro _ _) | ((with_reducible refine' unpI (by assumption) (by assumption) ?m ?l ?h3); (case m => k_mem); (case l => rfl); intro _ _)))
local macro_rules | `(tactic| walk_at "msub") => `(tactic| first | exact List.Sublist.refl _ | (refine List.Sublist.cons_cons _ ?_; walk_at "msub") | (refine List.Sublist.cons _ ?_; walk_at "msub"))
local macro_rules | `(tactic| walk_at "mdsub") => `(tactic| first | exact fun _ h => h | exact List.forall_mem_nil _ | (refine List.forall_mem_cons.mpr ⟨by k_mem, ?_⟩; walk_at "mdsub"))
local macro_rules | `(tactic| walk_at "mst") => `(tactic| first | exact St.vars (by assumption) (by walk_at "mvars") | exact St.vars (St.less (by assumption) (by walk_at "msub") (by walk_at "mdsub")) (by walk_at "mvars") | exact St.tell (by assumption) (by walk_at "mvars") (by walk_at "msub") (by walk_at "mdsub"))
local macro_rules | `(tactic| walk_at "mit") => `(tactic| ((with_reducible refine' itemI (by assumption) ?hl ?h0 ?hk ?h1 ?h ?hs); (case hl => walk_at "mhas"); (case hs => with_unfolding_all rfl); (case h0 => omega); (case h1 => omega); rotate_left 1))
local macro_rules | `(tactic| walk_at "mka") => `(tactic| first | exact KArgs.nil | (refine KArgs.i _ _ ?_; walk_at "mka") | (refine KArgs.d (by walk_at "mkn") ?_; walk_at "mka") | (refine KArgs.v _ ?_; walk_at "mka"))
local macro_rules | `(tactic| walk_at "mok") => `(tactic| first | assumption | exact Ok.mono (by assumption) (by omega))
local macro_rules | `(tactic| walk_at "mcall") => `(tactic| (walk_at "mok"; walk_at "mka"))
local macro_rules | `(tactic| walk_at "mr1") => `(tactic| ((with_reducible refine' range1 (by assumption) ?h); intro _ _ _ _ _))
local macro_rules | `(tactic| walk_at "mr2") => `(tactic| ((with_reducible refine' range2 (by assumption) ?h); intro _ _ _ _))
local macro_rules | `(tactic| walk_at "mr3") => `(tactic| ((with_reducible refine' range3 (by assumption) ?a ?b ?h); (case a => decide); (case b => decide); intro _ _ _))
local macro_rules | `(tactic| walk_at "ml3") => `(tactic| (rotate_left 4; rfl; rfl; rfl; walk_at "mvars"; walk_at "msub"))
local macro_rules | `(tactic| walk_at "ml4") => `(tactic| (rotate_left 4; rfl; rfl; rfl; rfl; walk_at "mvars"; walk_at "msub"))
local macro_rules | `(tactic| walk_at "mhst") => `(tactic| (show HasT _ _ _; k_mem))
local macro_rules | `(tactic| walk_at "mtt") => `(tactic| (intro v S'; first | (have e9 := S'.bool (.head _); subst e9) | (obtain ⟨_, e9⟩ := S'.int (.head _); subst e9) | (obtain ⟨_, e9⟩ := S'.ref (.head _); subst e9) | (obtain ⟨_, e9⟩ := S'.refT (.head _); subst e9) | skip))
local macro_rules | `(tactic| walk_at "mt0") => `(tactic| ((with_reducible refine' itemT0 (by assumption) ?hl ?h ?hs); (case hs => with_unfolding_all rfl); (case hl => walk_at "mhst"); walk_at "mtt"))
local macro_rules | `(tactic| walk_at "mt1") => `(tactic| ((with_reducible refine' itemT1 (by assumption) ?hl ?h ?hs); (case hs => with_unfolding_all rfl); (case hl => walk_at "mhst"); walk_at "mtt"))
local macro_rules | `(tactic| walk_at "mkd") => `(tactic| first | exact List.forall_mem_nil _ | (refine List.forall_mem_cons.mpr ⟨by first | exact Or.inl rfl | exact Or.inr ⟨rfl, rfl⟩, ?_⟩; walk_at "mkd"))
local macro_rules | `(tactic| walk_at "mlm") => `(tactic| first | exact List.forall_mem_nil _ | (refine List.forall_mem_cons.mpr ⟨⟨_, by rfl, by rfl⟩, ?_⟩; walk_at "mlm"))
local macro_rules | `(tactic| walk_at "mac") => `(tactic| (rfl; rotate_left 1; rfl; decide; decide; rfl; (intro _; rfl)))
local macro_rules | `(tactic| walk_at "mlc") => `(tactic| (rfl; rotate_left 1; decide; decide; rfl; (intro _; rfl)))
local macro_rules | `(tactic| walk_at "mlx") => `(tactic| (rotate_left 5; rfl; rfl; rfl; walk_at "mvars"; walk_at "msub"; walk_at "mdsub"))
local macro_rules | `(tactic| walk_at "mstc") => `(tactic| (intro _ _ hM9 _; simp only [List.set_cons_succ, List.set_cons_zero] at hM9; subst hM9))
local macro_rules | `(tactic| walk_at "mfin") => `(tactic| (rotate_left 1; exact fun s _ S => ⟨by first | rfl | trivial, S⟩))
local macro_rules | `(tactic| walk_at "mfor") => `(tactic| ((with_reducible refine' For_ ?h ?hs); (case hs => (intro _; rfl))))
abbrev lz (ns : List Int) : PyData := .list (ns.map PyData.int)
def topN (ns : List Int) : Nat → Nat
  | 0 => 0
  | e + 1 => if ns.getD e 0 = 0 then topN ns e else e + 1
theorem topN_le (ns : List Int) : ∀ e, topN ns e ≤ e
  | 0 => Nat.le_refl _
  | e + 1 => by
    unfold topN
    split
    · exact Nat.le_succ_of_le (topN_le ns e)
    · exact Nat.le_refl _
theorem lz_take (ns : List Int) (n : Nat) : lz (ns.take n) = .list ((ns.map PyData.int).take n) := by rw [lz, List.map_take]
theorem lz_get {ns : List Int} {k : Nat} (h : k < ns.length) : (ns.map PyData.int)[k]? = some (.int (ns.getD k 0)) := by
  rw [List.getElem?_map, List.getElem?_eq_getElem h]; simp [List.getD, h]

theorem lz_get' {ns : List Int} {k : Int} {n : Nat} (e : k.toNat = n) (h : n < ns.length) : (ns.map PyData.int)[k.toNat]? = some (.int (ns.getD n 0)) := by rw [e]; exact lz_get h
abbrev mask (w : Nat) : Int := 1 * 2 ^ w - 1
theorem map_snoc (fs : List Int) (x : Int) : (fs ++ [x]).map PyData.int = fs.map PyData.int ++ [PyData.int x] := by rw [List.map_append]; rfl
def nrm (ns : List Int) : List Int := ns.take (topN ns ns.length)
-- the limbs of a number
def dig (w a : Nat) : List Int := if h : a = 0 ∨ w = 0 then [] else ((a % 2 ^ w : Nat) : Int) :: dig w (a / 2 ^ w)
termination_by a
decreasing_by
  have h1 : a ≠ 0 := fun e => h (.inl e)
  have h2 : w ≠ 0 := fun e => h (.inr e)
  exact Nat.div_lt_self (by omega) (Nat.one_lt_two_pow h2)
theorem dig_zero (w : Nat) : dig w 0 = [] := by rw [dig]; simp
theorem dig_pos {w a : Nat} (hw : 0 < w) (ha : 0 < a) : dig w a = ((a % 2 ^ w : Nat) : Int) :: dig w (a / 2 ^ w) := by
  rw [dig, dif_neg (by omega)]
theorem dig_len {w : Nat} (hw : 0 < w) : ∀ (m a : Nat), a < 2 ^ m → (dig w a).length ≤ m
  | 0, a, h => by
    have : a = 0 := by simpa using h
    subst this; rw [dig_zero]; exact Nat.zero_le _
  | m + 1, a, h => by
    by_cases h0 : a = 0
    · subst h0; rw [dig_zero]; exact Nat.zero_le _
    · rw [dig_pos hw (by omega), List.length_cons]
      refine Nat.succ_le_succ (dig_len hw m _ ?_)
      have h2 : 2 ≤ 2 ^ w := by
        have := Nat.pow_le_pow_right (n := 2) (by decide) hw
        simpa using this
      refine Nat.div_lt_of_lt_mul ?_
      calc a < 2 ^ (m + 1) := h
        _ = 2 * 2 ^ m := by rw [Nat.pow_succ]; omega
        _ ≤ 2 ^ w * 2 ^ m := Nat.mul_le_mul_right _ h2
theorem mask_eq (w : Nat) (x : Int) : Builtin.bitAnd x (mask w) = x % 2 ^ w := by
  have : mask w = 2 ^ w - 1 := by simp [mask]
  rw [this, kbt_mask]
theorem mask_nat (w a : Nat) : Builtin.bitAnd (a : Int) (mask w) = ((a % 2 ^ w : Nat) : Int) := by
  rw [mask_eq]; push_cast; rfl
theorem fdiv_pow (w a : Nat) : (a : Int).fdiv (2 ^ w) = ((a / 2 ^ w : Nat) : Int) := by
  have e : (2 : Int) ^ w = ((2 ^ w : Nat) : Int) := by push_cast; rfl
  rw [e]
  rw [Int.fdiv_eq_ediv_of_nonneg _ (Int.natCast_nonneg _)]; push_cast; rfl
theorem fdiv_nat (a b : Nat) : (a : Int).fdiv (b : Int) = ((a / b : Nat) : Int) := by
  rw [Int.fdiv_eq_ediv_of_nonneg _ (Int.natCast_nonneg _)]; push_cast; rfl
theorem fmod_nat (a b : Nat) : (a : Int).fmod (b : Int) = ((a % b : Nat) : Int) := by
  rw [Int.fmod_eq_emod_of_nonneg _ (Int.natCast_nonneg _)]; push_cast; rfl
set_option maxHeartbeats 4000000 in
theorem normal_spec {prog : Program} {w : World} {mg mb : Str → Option Value} {H : Heap} (W : Wd w mg mb H) (k : Nat) (ns : List Int) (hn : ns.length ≤ 2 ^ 20) :
    Spec prog w H (k + 1) 46 [.d (lz ns)] (some (lz (nrm ns))) := by
  intro A s G vs Q E hA hH hs ha hQ
  cases ha with
  | d h1 r =>
  cases r
  cases id h1 with
  | list e r =>
  rename_i a vs n
  refine enter W hA hH hs (D := [(.ref a, lz ns)]) (d := some _) (binds := [(Str.ofString "a", .ref a)]) (by intro p hp; cases hp with | head => exact h1 | tail _ hp => cases hp) (by rfl) (by rfl) (by rfl) (locs rfl) (by decide) hQ ?_
  clear hA hH hs h1 e r hQ
  intro A f L s hA S
  walk_at "mr"
  refine While_ (fun n s => ∃ e : Nat, n = e ∧ e ≤ ns.length ∧ topN ns e = topN ns ns.length ∧ St H f [(L, .ns [(Str.ofString "end", .i e), (Str.ofString "a", .v (.ref a))])] [(.ref a, lz ns)] s) ns.length
    ⟨ns.length, rfl, Nat.le_refl _, rfl, St.vars (by assumption) (by walk_at "mvars")⟩ ?_
  clear S
  rintro n s ⟨e, rfl, he, hT, S⟩ E'
  walk_at "mr"
  by_cases h0 : 0 < (n : Int)
  · walk_at "mpos"
    walk_at "mr"
    refine itemI (by assumption) (ds := ns.map PyData.int) (.inl (by k_mem)) (i := ns.getD (n - 1) 0) (by omega) ?_ (by omega) (fun _ => ?_)
    · have e1 : ((n : Int) - 1).toNat = n - 1 := by omega
      rw [e1]; exact lz_get (by omega)
    walk_at "mr"
    obtain ⟨m, rfl⟩ : ∃ m, n = m + 1 := ⟨n - 1, by omega⟩
    simp only [Nat.add_sub_cancel]
    by_cases h1 : ns.getD m 0 = 0
    · walk_at "mpos"
      walk_at "mr"
      exact ⟨m, by omega, m, rfl, by omega, by rw [← hT, topN, if_pos h1], St.vars (by assumption) (by walk_at "mvars")⟩
    · walk_at "mneg"
      walk_at "mr"
      have hT' := hT
      rw [topN, if_neg h1] at hT'
      refine ⟨_, _, _, _, by assumption, fun sl s' S' hsl => ?_⟩
      refine slice_upto (ds := ns.map PyData.int) (b := m + 1) (by assumption) (.inl (by k_mem)) (by assumption) (by simp [sizeLine]; omega) (fun c s' S' => ?_)
      refine ⟨_, _, _, rfl, S', .mem ?_⟩
      rw [show nrm ns = ns.take (topN ns ns.length) from rfl, ← hT', lz_take]
      exact .head _
  · walk_at "mneg"
    have hn0 : n = 0 := by omega
    subst hn0
    walk_at "mr"
    refine ⟨_, _, _, _, by assumption, fun sl s' S' hsl => ?_⟩
    refine slice_upto (ds := ns.map PyData.int) (b := 0) (by assumption) (.inl (by k_mem)) (by assumption) (by simp [sizeLine]; omega) (fun c s' S' => ?_)
    refine ⟨_, _, _, rfl, S', .mem ?_⟩
    rw [show nrm ns = ns.take (topN ns ns.length) from rfl, ← hT]
    exact .head _
def cmpFrom (as bs : List Int) : Nat → Int
  | 0 => 0
  | e + 1 => if as.getD e 0 ≠ bs.getD e 0 then (if as.getD e 0 < bs.getD e 0 then -1 else 1) else cmpFrom as bs e
def cmpL (as bs : List Int) : Int := if as.length ≠ bs.length then (if as.length < bs.length then -1 else 1) else cmpFrom as bs as.length
theorem rangeSize_down (n : Nat) : Builtin.Range.rangeSize ((n : Int) - 1) (-1) (-1) = n := by
  unfold Builtin.Range.rangeSize
  simp only [show ¬ ((-1 : Int) > 0) by decide, if_false, Int.neg_neg, Int.ediv_one]
  split <;> omega

set_option maxHeartbeats 4000000 in
theorem compare_spec {prog : Program} {w : World} {mg mb : Str → Option Value} {H : Heap} (W : Wd w mg mb H) (k : Nat) (as bs : List Int) (ha' : as.length ≤ 2 ^ 20) (hb' : bs.length ≤ 2 ^ 20) :
    Spec prog w H (k + 1) 60 [.d (lz as), .d (lz bs)] (some (.int (cmpL as bs))) := by
  intro A s G vs Q E hA hH hs ha hQ
  obtain ⟨a, _, rfl, h1, ha⟩ := ha.dl
  obtain ⟨b, _, rfl, h2, ha⟩ := ha.dl
  obtain rfl := ha.nl
  refine enter W hA hH hs (D := [(.ref a, lz as), (.ref b, lz bs)]) (d := some _) (binds := [(Str.ofString "a", .ref a), (Str.ofString "b", .ref b)]) (by walk_at "mhd") (by rfl) (by rfl) (by rfl) (locs rfl) (by decide) hQ ?_
  clear hA hH hs h1 h2 hQ ha
  intro A f L s hA S
  walk_at "mr"
  by_cases h0 : as.length = bs.length
  · walk_at "mneg"
    walk_at "mr"
    refine For_ ?_
    walk_at "mr"
    refine range3 (by assumption) (by decide) (by decide) ?_
    intro _ _ _
    refine iterRs as.length (by assumption) (by decide) (rangeSize_down _) (by omega) (by omega) (by omega) (by decide) (by decide) (by decide) (by decide) ?_
    intro I s₁ S₁
    refine LoopR hA (fun i => cmpFrom as bs (as.length - i) = cmpL as bs) (fun _ => [(Str.ofString "a", .v (.ref a)), (Str.ofString "b", .v (.ref b))]) (fun _ => []) (by rw [cmpL, if_neg (by simp [h0])]; rfl) S₁ (by walk_at "mvars") (by walk_at "msub") ?_ ?_
    · intro i s t hi hP S E'
      obtain ⟨m, hm⟩ : ∃ m, as.length - i = m + 1 := ⟨as.length - i - 1, by omega⟩
      rw [hm, cmpFrom] at hP
      have em : ((as.length : Int) - 1 + i * -1).toNat = m := by omega
      walk_at "mr"
      refine itemI (by assumption) (ds := as.map PyData.int) (by walk_at "mhas") (i := as.getD m 0) (by omega) (by rw [em]; exact lz_get (by omega)) (by omega) (fun _ => ?_)
      walk_at "mr"
      refine itemI (by assumption) (ds := bs.map PyData.int) (by walk_at "mhas") (i := bs.getD m 0) (by omega) (by rw [em]; exact lz_get (by omega)) (by omega) (fun _ => ?_)
      walk_at "mr"
      by_cases h3 : as.getD m 0 = bs.getD m 0
      · walk_at "mneg"
        walk_at "mr"
        rw [if_neg (fun h => h h3)] at hP
        have e5 : as.length - (i + 1) = m := by omega
        exact ⟨by rw [e5]; exact hP, St.vars (by assumption) (by walk_at "mvars")⟩
      · walk_at "mpos"
        rw [if_pos h3] at hP
        walk_at "mr"
        refine itemI (by assumption) (ds := as.map PyData.int) (by walk_at "mhas") (i := as.getD m 0) (by omega) (by rw [em]; exact lz_get (by omega)) (by omega) (fun _ => ?_)
        walk_at "mr"
        refine itemI (by assumption) (ds := bs.map PyData.int) (by walk_at "mhas") (i := bs.getD m 0) (by omega) (by rw [em]; exact lz_get (by omega)) (by omega) (fun _ => ?_)
        walk_at "mr"
        by_cases h4 : as.getD m 0 < bs.getD m 0
        · walk_at "mpos"
          rw [if_pos h4] at hP
          walk_at "mr"
          rw [← hP]
          exact ⟨_, _, _, rfl, by assumption, .int _ _⟩
        · walk_at "mneg"
          rw [if_neg h4] at hP
          walk_at "mr"
          rw [← hP]
          exact ⟨_, _, _, rfl, by assumption, .int _ _⟩
    · intro s hP S
      simp only [Nat.sub_self, cmpFrom] at hP
      walk_at "mr"
      rw [← hP]
      exact ⟨_, _, _, rfl, by assumption, .int _ _⟩
  · rw [if_pos (by simp; omega)]
    walk_at "mr"
    rw [cmpL, if_pos h0]
    by_cases h1 : as.length < bs.length
    · rw [if_pos (by simp; omega), if_pos h1]
      walk_at "mr"
      exact ⟨_, _, _, rfl, by assumption, .int _ _⟩
    · rw [if_neg (by simp; omega), if_neg h1]
      walk_at "mr"
      exact ⟨_, _, _, rfl, by assumption, .int _ _⟩
def addA (w : Nat) (xs ys : List Int) : Nat → List Int × Int
  | 0 => ([], 0)
  | i + 1 => ((addA w xs ys i).1 ++ [Builtin.bitAnd ((addA w xs ys i).2 + (xs.getD i 0 + ys.getD i 0)) (mask w)], ((addA w xs ys i).2 + (xs.getD i 0 + ys.getD i 0)).fdiv (2 ^ w))
theorem addA_len (w : Nat) (xs ys : List Int) : ∀ i, (addA w xs ys i).1.length = i
  | 0 => rfl
  | i + 1 => by rw [addA, List.length_append, addA_len w xs ys i]; rfl
def addB (w : Nat) (xs : List Int) (m : Nat) (st : List Int × Int) : Nat → List Int × Int
  | 0 => st
  | i + 1 => ((addB w xs m st i).1 ++ [Builtin.bitAnd ((addB w xs m st i).2 + xs.getD (m + i) 0) (mask w)], ((addB w xs m st i).2 + xs.getD (m + i) 0).fdiv (2 ^ w))
theorem addB_len (w : Nat) (xs : List Int) (m : Nat) (st : List Int × Int) : ∀ i, (addB w xs m st i).1.length = st.1.length + i
  | 0 => rfl
  | i + 1 => by rw [addB, List.length_append, addB_len w xs m st i]; rfl
def addC (w : Nat) (xs ys : List Int) : List Int × Int := addB w xs ys.length (addA w xs ys ys.length) (xs.length - ys.length)
def addR (w : Nat) (xs ys : List Int) : List Int := if 0 < (addC w xs ys).2 then (addC w xs ys).1 ++ [(addC w xs ys).2] else (addC w xs ys).1
def addL (w : Nat) (xs ys : List Int) : List Int := if xs.length < ys.length then addR w ys xs else addR w xs ys

theorem addA_map (w : Nat) (xs ys : List Int) (i : Nat) : (addA w xs ys (i + 1)).1.map PyData.int = (addA w xs ys i).1.map PyData.int ++ [PyData.int (Builtin.bitAnd ((addA w xs ys i).2 + (xs.getD i 0 + ys.getD i 0)) (mask w))] := map_snoc _ _
theorem addB_map (w : Nat) (xs : List Int) (m : Nat) (st : List Int × Int) (i : Nat) : (addB w xs m st (i + 1)).1.map PyData.int = (addB w xs m st i).1.map PyData.int ++ [PyData.int (Builtin.bitAnd ((addB w xs m st i).2 + xs.getD (m + i) 0) (mask w))] := map_snoc _ _

set_option maxHeartbeats 4000000 in
theorem add_spec {prog : Program} {w : World} {mg mb : Str → Option Value} {H : Heap} (W : Wd w mg mb H) (k : Nat) (wd : Nat) (hw : wd ≤ 64) (as bs : List Int) (ha' : as.length ≤ 2 ^ 20) (hb' : bs.length ≤ 2 ^ 20) :
    Spec prog w H (k + 1) 67 [.d (lz as), .d (lz bs), .i wd] (some (lz (addL wd as bs))) := by
  intro A s G vs Q E hA hH hs ha hQ
  obtain ⟨a, _, rfl, h1, ha1⟩ := ha.dl
  obtain ⟨b, _, rfl, h2, ha2⟩ := ha1.dl
  obtain ⟨tw, _, rfl, ha3⟩ := ha2.ii
  obtain rfl := ha3.nl
  refine enter W hA hH hs (D := [(.ref a, lz as), (.ref b, lz bs)]) (d := some _) (binds := [(Str.ofString "a", .ref a), (Str.ofString "b", .ref b), (Str.ofString "w", .int wd tw)]) (by walk_at "mhd") (by rfl) (by rfl) (by rfl) (locs rfl) (by decide) hQ ?_
  clear hA hH hs h1 h2 hQ ha ha1 ha2 ha3
  intro A f L s hA S
  refine wpAny_execs_cons ?_
  with_reducible refine cut (P := fun s => ∃ x y xs ys, xs.length ≤ 2 ^ 20 ∧ ys.length ≤ xs.length ∧ addL wd as bs = addR wd xs ys ∧ St H f [(L, .ns [(Str.ofString "a", .v (.ref x)), (Str.ofString "b", .v (.ref y)), (Str.ofString "w", .i wd)])] [(.ref x, lz xs), (.ref y, lz ys)] s) ?_ ?_
  · walk_at "mr"
    by_cases h0 : (as.length : Int) < (bs.length : Int)
    · walk_at "mpos"
      walk_at "mr"
      walk_at "mtup"
      walk_at "mr"
      exact ⟨rfl, b, a, bs, as, hb', by omega, by rw [addL, if_pos (by omega)], St.vars (St.less (by assumption) (by walk_at "msub") (by walk_at "mdsub")) (by walk_at "mvars")⟩
    · walk_at "mneg"
      walk_at "mr"
      exact ⟨rfl, a, b, as, bs, ha', by omega, by rw [addL, if_neg (by omega)], St.vars (by assumption) (by walk_at "mvars")⟩
  clear S
  rintro s ⟨x, y, xs, ys, hx, hyx, e, S⟩
  rw [e]
  clear e ha' hb'
  refine wpAny_execs_cons ?_
  with_reducible refine cut (P := fun s => ∃ z, St H f [(L, .ns [(Str.ofString "carry", .i 0), (Str.ofString "found", .v (.ref z)), (Str.ofString "mask", .i (mask wd)), (Str.ofString "a", .v (.ref x)), (Str.ofString "b", .v (.ref y)), (Str.ofString "w", .i wd)]), (z, .list [])] [(.ref x, lz xs), (.ref y, lz ys)] s) ?_ ?_
  · walk_at "mr"
    walk_at "mtup"
    walk_at "mr"
    exact ⟨rfl, _, St.vars (St.less (by assumption) (by walk_at "msub") (by walk_at "mdsub")) (by walk_at "mvars")⟩
  clear S
  rintro s ⟨z, S⟩
  refine wpAny_execs_cons ?_
  with_reducible refine cut (P := fun s => St H f [(L, .ns [(Str.ofString "carry", .i (addA wd xs ys ys.length).2), (Str.ofString "found", .v (.ref z)), (Str.ofString "mask", .i (mask wd)), (Str.ofString "a", .v (.ref x)), (Str.ofString "b", .v (.ref y)), (Str.ofString "w", .i wd)]), (z, .list ((addA wd xs ys ys.length).1.map .int))] [(.ref x, lz xs), (.ref y, lz ys)] s) ?_ ?_
  · walk_at "mfor"
    walk_at "mr"
    walk_at "mr1"
    with_reducible refine iterR1 ys.length (by assumption) (.inl (by omega)) (by omega) (by omega) (by omega) (by omega) ?_
    intro I s₁ S₁
    with_reducible refine LoopR hA (fun _ => True) (fun i => [(Str.ofString "carry", .i (addA wd xs ys i).2), (Str.ofString "found", .v (.ref z)), (Str.ofString "mask", .i (mask wd)), (Str.ofString "a", .v (.ref x)), (Str.ofString "b", .v (.ref y)), (Str.ofString "w", .i wd)]) (fun i => [(z, .list ((addA wd xs ys i).1.map .int))]) trivial S₁ ?_ ?_ ?_ ?_ ?_ ?_ ?_
    walk_at "ml3"
    walk_at "mfin"
    clear S S₁
    intro i s t hi _ S E'
    have ei : ((0 : Int) + i * 1).toNat = i := by omega
    walk_at "mr"
    walk_at "mit"
    · exact lz_get' ei (by omega)
    intro _
    walk_at "mr"
    walk_at "mit"
    · exact lz_get' ei (by omega)
    intro _
    walk_at "mr"
    refine appL (by assumption) 2 (by rfl) (by walk_at "mkn") (by rw [List.length_map, addA_len]; show _ ≤ 2 ^ 24; omega) ?_
    walk_at "mstc"
    walk_at "mr"
    refine ⟨trivial, ?_⟩
    rw [addA_map]
    exact St.vars (by assumption) (by walk_at "mvars")
  clear S
  intro s S
  refine wpAny_execs_cons ?_
  with_reducible refine cut (P := fun s => St H f [(L, .ns [(Str.ofString "carry", .i (addC wd xs ys).2), (Str.ofString "found", .v (.ref z)), (Str.ofString "mask", .i (mask wd)), (Str.ofString "a", .v (.ref x)), (Str.ofString "b", .v (.ref y)), (Str.ofString "w", .i wd)]), (z, .list ((addC wd xs ys).1.map .int))] [(.ref x, lz xs), (.ref y, lz ys)] s) ?_ ?_
  · walk_at "mfor"
    walk_at "mr"
    walk_at "mr2"
    with_reducible refine iterR1 (xs.length - ys.length) (by assumption) (.inl (by omega)) (by omega) (by omega) (by omega) (by omega) ?_
    intro I s₁ S₁
    generalize hst : addA wd xs ys ys.length = st
    have hlen : st.1.length = ys.length := by rw [← hst, addA_len]
    simp only [addC, hst]
    rw [hst] at S₁
    with_reducible refine LoopR hA (fun _ => True) (fun i => [(Str.ofString "carry", .i (addB wd xs ys.length st i).2), (Str.ofString "found", .v (.ref z)), (Str.ofString "mask", .i (mask wd)), (Str.ofString "a", .v (.ref x)), (Str.ofString "b", .v (.ref y)), (Str.ofString "w", .i wd)]) (fun i => [(z, .list ((addB wd xs ys.length st i).1.map .int))]) trivial S₁ ?_ ?_ ?_ ?_ ?_ ?_ ?_
    walk_at "ml3"
    walk_at "mfin"
    clear S S₁
    intro i s t hi _ S E'
    have ei : ((ys.length : Int) + i * 1).toNat = ys.length + i := by omega
    walk_at "mr"
    walk_at "mit"
    · exact lz_get' ei (by omega)
    intro _
    walk_at "mr"
    refine appL (by assumption) 2 (by rfl) (by walk_at "mkn") (by rw [List.length_map, addB_len]; show _ ≤ 2 ^ 24; omega) ?_
    walk_at "mstc"
    walk_at "mr"
    refine ⟨trivial, ?_⟩
    rw [addB_map]
    exact St.vars (by assumption) (by walk_at "mvars")
  clear S
  intro s S
  have hlen : (addC wd xs ys).1.length ≤ 2 ^ 20 := by rw [addC, addB_len, addA_len]; omega
  refine wpAny_execs_cons ?_
  with_reducible refine cut (P := fun s => St H f [(L, .ns [(Str.ofString "found", .v (.ref z))]), (z, .list ((addR wd xs ys).map .int))] [] s) ?_ ?_
  · walk_at "mr"
    by_cases h0 : 0 < (addC wd xs ys).2
    · walk_at "mpos"
      walk_at "mr"
      refine appL (by assumption) 1 (by rfl) (by walk_at "mkn") (by rw [List.length_map]; show _ ≤ 2 ^ 24; omega) ?_
      walk_at "mstc"
      walk_at "mr"
      refine ⟨by first | rfl | trivial, ?_⟩
      rw [addR, if_pos h0, map_snoc]
      walk_at "mst"
    · walk_at "mneg"
      walk_at "mr"
      refine ⟨by first | rfl | trivial, ?_⟩
      rw [addR, if_neg h0]
      walk_at "mst"
  clear S
  intro s S
  walk_at "mr"
  exact ⟨_, _, _, rfl, St.freeze (by assumption) 1 (by rfl), .mem (.head _)⟩
def subA (w : Nat) (xs ys : List Int) : Nat → List Int × Int
  | 0 => ([], 0)
  | i + 1 => ((subA w xs ys i).1 ++ [if xs.getD i 0 - (subA w xs ys i).2 - ys.getD i 0 < 0 then xs.getD i 0 - (subA w xs ys i).2 - ys.getD i 0 + 1 * 2 ^ w else xs.getD i 0 - (subA w xs ys i).2 - ys.getD i 0],
      if xs.getD i 0 - (subA w xs ys i).2 - ys.getD i 0 < 0 then 1 else 0)
theorem subA_len (w : Nat) (xs ys : List Int) : ∀ i, (subA w xs ys i).1.length = i
  | 0 => rfl
  | i + 1 => by rw [subA, List.length_append, subA_len w xs ys i]; rfl
theorem subA_map (w : Nat) (xs ys : List Int) (i : Nat) : (subA w xs ys (i + 1)).1.map PyData.int = (subA w xs ys i).1.map PyData.int ++ [PyData.int (if xs.getD i 0 - (subA w xs ys i).2 - ys.getD i 0 < 0 then xs.getD i 0 - (subA w xs ys i).2 - ys.getD i 0 + 1 * 2 ^ w else xs.getD i 0 - (subA w xs ys i).2 - ys.getD i 0)] := map_snoc _ _
def subR (w : Nat) (xs ys : List Int) : List Int := (subA w xs ys xs.length).1

set_option maxHeartbeats 4000000 in
theorem sub_spec {prog : Program} {w : World} {mg mb : Str → Option Value} {H : Heap} (W : Wd w mg mb H) (k : Nat) (wd : Nat) (hw : wd ≤ 64) (as bs : List Int) (ha' : as.length ≤ 2 ^ 20) (hb' : bs.length ≤ 2 ^ 20) (hc : 0 ≤ cmpL as bs) :
    Spec prog w H (k + 2) 74 [.d (lz as), .d (lz bs), .i wd] (some (lz (nrm (subR wd as bs)))) := by
  intro A s G vs Q E hA hH hs ha hQ
  obtain ⟨a, _, rfl, h1, ha1⟩ := ha.dl
  obtain ⟨b, _, rfl, h2, ha2⟩ := ha1.dl
  obtain ⟨tw, _, rfl, ha3⟩ := ha2.ii
  obtain rfl := ha3.nl
  refine enter W hA hH hs (D := [(.ref a, lz as), (.ref b, lz bs)]) (d := some _) (binds := [(Str.ofString "a", .ref a), (Str.ofString "b", .ref b), (Str.ofString "w", .int wd tw)]) (by walk_at "mhd") (by rfl) (by rfl) (by rfl) (locs rfl) (by decide) hQ ?_
  clear hA hH hs h1 h2 hQ ha ha1 ha2 ha3
  intro A f L s hA S
  refine wpAny_execs_cons ?_
  with_reducible refine cut (P := fun s => St H f [(L, .ns [(Str.ofString "a", .v (.ref a)), (Str.ofString "b", .v (.ref b)), (Str.ofString "w", .i wd)])] [(.ref a, lz as), (.ref b, lz bs)] s) ?_ ?_
  · walk_at "mr"
    with_reducible refine callI (compare_spec W k as bs ha' hb') (by assumption) ?_ ?_ ?_
    walk_at "mcall"
    intro _ _ _
    walk_at "mr"
    walk_at "mneg"
    walk_at "mr"
    exact ⟨by first | rfl | trivial, by walk_at "mst"⟩
  clear S
  intro s S
  refine wpAny_execs_cons ?_
  with_reducible refine cut (P := fun s => ∃ z, St H f [(L, .ns [(Str.ofString "borrow", .i 0), (Str.ofString "found", .v (.ref z)), (Str.ofString "base", .i (1 * 2 ^ wd)), (Str.ofString "a", .v (.ref a)), (Str.ofString "b", .v (.ref b))]), (z, .list [])] [(.ref a, lz as), (.ref b, lz bs)] s) ?_ ?_
  · walk_at "mr"
    walk_at "mtup"
    walk_at "mr"
    exact ⟨by first | rfl | trivial, _, by walk_at "mst"⟩
  clear S
  rintro s ⟨z, S⟩
  refine wpAny_execs_cons ?_
  with_reducible refine cut (P := fun s => St H f [(L, .ns [(Str.ofString "found", .v (.ref z))]), (z, .list ((subR wd as bs).map .int))] [] s) ?_ ?_
  · walk_at "mfor"
    walk_at "mr"
    walk_at "mr1"
    with_reducible refine iterR1 as.length (by assumption) (.inl (by omega)) (by omega) (by omega) (by omega) (by omega) ?_
    intro I s₁ S₁
    with_reducible refine LoopR hA (fun _ => True) (fun i => [(Str.ofString "borrow", .i (subA wd as bs i).2), (Str.ofString "found", .v (.ref z)), (Str.ofString "base", .i (1 * 2 ^ wd)), (Str.ofString "a", .v (.ref a)), (Str.ofString "b", .v (.ref b))]) (fun i => [(z, .list ((subA wd as bs i).1.map .int))]) trivial S₁ ?_ ?_ ?_ ?_ ?_ ?_ ?_
    walk_at "ml3"
    rotate_left 1
    · exact fun s _ S => ⟨by first | rfl | trivial, St.vars (S.lessD (by walk_at "mdsub")) (by walk_at "mvars")⟩
    clear S S₁
    intro i s t hi _ S E'
    have ei : ((0 : Int) + i * 1).toNat = i := by omega
    refine wpAny_execs_cons ?_
    with_reducible refine cut (P := fun s => St H f [(L, .ns [(Str.ofString "limb", .i (as.getD i 0 - (subA wd as bs i).2 - bs.getD i 0)), (Str.ofString "borrow", .i (subA wd as bs i).2), (Str.ofString "found", .v (.ref z)), (Str.ofString "base", .i (1 * 2 ^ wd)), (Str.ofString "a", .v (.ref a)), (Str.ofString "b", .v (.ref b))]), (I, .raw (rgs 0 1 as.length (i + 1))), (z, .list ((subA wd as bs i).1.map .int))] [(.ref a, lz as), (.ref b, lz bs)] s) ?_ ?_
    · walk_at "mr"
      walk_at "mit"
      · exact lz_get' ei (by omega)
      intro _
      walk_at "mr"
      by_cases hb : i < bs.length
      · walk_at "mpos"
        walk_at "mr"
        walk_at "mit"
        · exact lz_get' ei (by omega)
        intro _
        walk_at "mr"
        exact ⟨by first | rfl | trivial, by walk_at "mst"⟩
      · walk_at "mneg"
        walk_at "mr"
        have e0 : bs.getD i 0 = 0 := by simp [List.getD, List.getElem?_eq_none (Nat.le_of_not_lt hb)]
        refine ⟨by first | rfl | trivial, ?_⟩
        rw [e0]
        walk_at "mst"
    clear S
    intro s S
    refine wpAny_mono (Q := fun fl s' => fl = .next ∧ St H f [(L, .ns [(Str.ofString "borrow", .i (subA wd as bs (i + 1)).2), (Str.ofString "found", .v (.ref z)), (Str.ofString "base", .i (1 * 2 ^ wd)), (Str.ofString "a", .v (.ref a)), (Str.ofString "b", .v (.ref b))]), (I, .raw (rgs 0 1 as.length (i + 1))), (z, .list ((subA wd as bs (i + 1)).1.map .int))] [(.ref a, lz as), (.ref b, lz bs)] s') ?_ (fun fl s' h => by obtain ⟨rfl, h⟩ := h; exact ⟨trivial, h⟩) (fun _ _ e => e)
    rw [subA_map]
    simp only [subA]
    generalize as.getD i 0 - (subA wd as bs i).2 - bs.getD i 0 = lm at *
    by_cases hl : lm < 0
    · rw [if_pos hl, if_pos hl]
      walk_at "mr"
      walk_at "mpos"
      walk_at "mr"
      walk_at "mpos"
      walk_at "mr"
      refine appL (by assumption) 2 (by rfl) (by walk_at "mkn") (by rw [List.length_map, subA_len]; show _ ≤ 2 ^ 24; omega) ?_
      walk_at "mstc"
      walk_at "mr"
      exact ⟨by first | rfl | trivial, by walk_at "mst"⟩
    · rw [if_neg hl, if_neg hl]
      walk_at "mr"
      walk_at "mneg"
      walk_at "mr"
      walk_at "mneg"
      walk_at "mr"
      refine appL (by assumption) 2 (by rfl) (by walk_at "mkn") (by rw [List.length_map, subA_len]; show _ ≤ 2 ^ 24; omega) ?_
      walk_at "mstc"
      walk_at "mr"
      exact ⟨by first | rfl | trivial, by walk_at "mst"⟩
  clear S
  intro s S
  walk_at "mr"
  have S' := St.freeze S 1 rfl
  with_reducible refine callD (normal_spec W k (subR wd as bs) (by rw [subR, subA_len]; exact ha')) S' ?_ ?_ ?_
  walk_at "mcall"
  intro r s' S'
  exact ⟨_, _, _, rfl, S', .mem (.head _)⟩
def mulI_ (w : Nat) (fs : List Int) (i : Nat) (x : Int) (ys : List Int) : Nat → List Int × Int
  | 0 => (fs, 0)
  | j + 1 => ((mulI_ w fs i x ys j).1.set (i + j) (Builtin.bitAnd ((mulI_ w fs i x ys j).2 + ((mulI_ w fs i x ys j).1.getD (i + j) 0 + x * ys.getD j 0)) (mask w)),
      ((mulI_ w fs i x ys j).2 + ((mulI_ w fs i x ys j).1.getD (i + j) 0 + x * ys.getD j 0)).fdiv (2 ^ w))
def mulO_ (w : Nat) (xs ys : List Int) : Nat → List Int
  | 0 => List.replicate (xs.length + ys.length) 0
  | i + 1 => (mulI_ w (mulO_ w xs ys i) i (xs.getD i 0) ys ys.length).1.set (i + ys.length) (mulI_ w (mulO_ w xs ys i) i (xs.getD i 0) ys ys.length).2
theorem mulI_len (w : Nat) (fs : List Int) (i : Nat) (x : Int) (ys : List Int) : ∀ j, (mulI_ w fs i x ys j).1.length = fs.length
  | 0 => rfl
  | j + 1 => by rw [mulI_, List.length_set, mulI_len w fs i x ys j]
theorem mulO_len (w : Nat) (xs ys : List Int) : ∀ i, (mulO_ w xs ys i).length = xs.length + ys.length
  | 0 => by rw [mulO_, List.length_replicate]
  | i + 1 => by rw [mulO_, List.length_set, mulI_len, mulO_len w xs ys i]
def mulR_ (w : Nat) (xs ys : List Int) : List Int := mulO_ w xs ys xs.length
theorem flat_rep (n : Nat) : (List.replicate n [PyData.int 0]).flatten = (List.replicate n (0 : Int)).map PyData.int := by
  induction n with
  | zero => rfl
  | succ n ih => rw [List.replicate_succ, List.replicate_succ, List.flatten_cons, ih]; rfl
theorem mulI_map (w : Nat) (fs : List Int) (i : Nat) (x : Int) (ys : List Int) (j : Nat) : (mulI_ w fs i x ys (j + 1)).1.map PyData.int = ((mulI_ w fs i x ys j).1.map PyData.int).set (i + j) (PyData.int (Builtin.bitAnd ((mulI_ w fs i x ys j).2 + ((mulI_ w fs i x ys j).1.getD (i + j) 0 + x * ys.getD j 0)) (mask w))) := by
  rw [mulI_, List.map_set]
theorem mulO_map (w : Nat) (xs ys : List Int) (i : Nat) : (mulO_ w xs ys (i + 1)).map PyData.int = ((mulI_ w (mulO_ w xs ys i) i (xs.getD i 0) ys ys.length).1.map PyData.int).set (i + ys.length) (PyData.int (mulI_ w (mulO_ w xs ys i) i (xs.getD i 0) ys ys.length).2) := by
  rw [mulO_, List.map_set]
theorem getD_of {ns : List Int} {i : Nat} {d : PyData} (h : (ns.map PyData.int)[i]? = some d) : i < ns.length ∧ d = .int (ns.getD i 0) := by
  have hlt : i < ns.length := by simpa using lt_of_getElem? h
  rw [lz_get hlt] at h
  exact ⟨hlt, by simpa using h.symm⟩

set_option maxHeartbeats 4000000 in
theorem mul_school_spec {prog : Program} {w : World} {mg mb : Str → Option Value} {H : Heap} (W : Wd w mg mb H) (k : Nat) (wd : Nat) (hw : wd ≤ 64) (as bs : List Int) (ha' : as.length ≤ 2 ^ 18) (hb' : bs.length ≤ 2 ^ 18) (hx : ∀ i, (as.getD i 0).natAbs < 2 ^ 63) :
    Spec prog w H (k + 2) 142 [.d (lz as), .d (lz bs), .i wd] (some (lz (nrm (mulR_ wd as bs)))) := by
  intro A s G vs Q E hA hH hs ha hQ
  obtain ⟨a, _, rfl, h1, ha1⟩ := ha.dl
  obtain ⟨b, _, rfl, h2, ha2⟩ := ha1.dl
  obtain ⟨tw, _, rfl, ha3⟩ := ha2.ii
  obtain rfl := ha3.nl
  refine enter W hA hH hs (D := [(.ref a, lz as), (.ref b, lz bs)]) (d := some _) (binds := [(Str.ofString "a", .ref a), (Str.ofString "b", .ref b), (Str.ofString "w", .int wd tw)]) (by walk_at "mhd") (by rfl) (by rfl) (by rfl) (locs rfl) (by decide) hQ ?_
  clear hA hH hs h1 h2 hQ ha ha1 ha2 ha3
  intro A f L s hA S
  refine wpAny_execs_cons ?_
  with_reducible refine cut (P := fun s => ∃ z, St H f [(L, .ns [(Str.ofString "found", .v (.ref z)), (Str.ofString "mask", .i (mask wd)), (Str.ofString "a", .v (.ref a)), (Str.ofString "b", .v (.ref b)), (Str.ofString "w", .i wd)]), (z, .list ((List.replicate (as.length + bs.length) 0).map .int))] [(.ref a, lz as), (.ref b, lz bs)] s) ?_ ?_
  · walk_at "mr"
    with_reducible refine mulL (ds := [.int 0]) (by assumption) ?_ ?_ ?_ ?_ ?_
    · walk_at "mhas"
    · omega
    · omega
    · show 1 * _ ≤ _
      omega
    intro z s' S'
    rw [flat_rep] at S'
    have e : ((as.length : Int) + (bs.length : Int)).toNat = as.length + bs.length := by omega
    rw [e] at S'
    walk_at "mr"
    walk_at "mtup"
    walk_at "mr"
    exact ⟨by first | rfl | trivial, _, by walk_at "mst"⟩
  clear S
  rintro s ⟨z, S⟩
  refine wpAny_execs_cons ?_
  with_reducible refine cut (P := fun s => St H f [(L, .ns [(Str.ofString "found", .v (.ref z))]), (z, .list ((mulR_ wd as bs).map .int))] [] s) ?_ ?_
  · walk_at "mfor"
    walk_at "mr"
    with_reducible refine enumL (ds := as.map PyData.int) (by assumption) ?_ ?_
    · walk_at "mhas"
    intro e it o s₁ hI S₁
    refine wpAny_pyIter_enum ((St.own1 S₁ 1 rfl)) ?_
    with_reducible refine LoopE (ds := as.map PyData.int) hA (fun _ => True) (fun i => [(Str.ofString "found", .v (.ref z)), (Str.ofString "mask", .i (mask wd)), (Str.ofString "b", .v (.ref b)), (Str.ofString "w", .i wd)]) (fun i => [(z, .list ((mulO_ wd as bs i).map .int))]) trivial hI S₁ ?_ ?_ ?_ ?_ ?_ ?_ ?_ ?_ ?_
    · k_mem
    walk_at "ml4"
    rotate_left 1
    · intro s _ S
      rw [List.length_map] at S
      exact ⟨by first | rfl | trivial, by walk_at "mst"⟩
    clear S S₁
    intro i s v d t old o' hd _ S E'
    obtain ⟨hlt, rfl⟩ := getD_of hd
    obtain ⟨tx, rfl⟩ := S.int (.head _)
    refine wpAny_execs_cons ?_
    with_reducible refine cut (P := fun s => St H f [(L, .ns [(Str.ofString "carry", .i 0), (Str.ofString "at", .i i), (Str.ofString "limb", .i (as.getD i 0)), (Str.ofString "found", .v (.ref z)), (Str.ofString "mask", .i (mask wd)), (Str.ofString "b", .v (.ref b)), (Str.ofString "w", .i wd)]), (e, .raw (enObj it ((i + 1 : Nat) : Int) old)), (it, .raw o'), (z, .list ((mulO_ wd as bs i).map .int))] [(.ref a, lz as), (.ref b, lz bs)] s) ?_ ?_
    · walk_at "mr"
      exact ⟨by first | rfl | trivial, by walk_at "mst"⟩
    clear S
    intro s S
    refine wpAny_execs_cons ?_
    with_reducible refine cut (P := fun s => St H f [(L, .ns [(Str.ofString "carry", .i (mulI_ wd (mulO_ wd as bs i) i (as.getD i 0) bs bs.length).2), (Str.ofString "at", .i i), (Str.ofString "found", .v (.ref z)), (Str.ofString "mask", .i (mask wd)), (Str.ofString "b", .v (.ref b)), (Str.ofString "w", .i wd)]), (e, .raw (enObj it ((i + 1 : Nat) : Int) old)), (it, .raw o'), (z, .list ((mulI_ wd (mulO_ wd as bs i) i (as.getD i 0) bs bs.length).1.map .int))] [(.ref a, lz as), (.ref b, lz bs)] s) ?_ ?_
    · walk_at "mfor"
      walk_at "mr"
      with_reducible refine enumL (ds := bs.map PyData.int) (by assumption) ?_ ?_
      · walk_at "mhas"
      intro e2 it2 o2 s₂ hI2 S₂
      refine wpAny_pyIter_enum ((St.own1 S₂ 1 rfl)) ?_
      with_reducible refine LoopE (ds := bs.map PyData.int) hA (fun _ => True) (fun j => [(Str.ofString "carry", .i (mulI_ wd (mulO_ wd as bs i) i (as.getD i 0) bs j).2), (Str.ofString "at", .i i), (Str.ofString "limb", .i (as.getD i 0)), (Str.ofString "found", .v (.ref z)), (Str.ofString "mask", .i (mask wd)), (Str.ofString "b", .v (.ref b)), (Str.ofString "w", .i wd)]) (fun j => [(e, .raw (enObj it ((i + 1 : Nat) : Int) old)), (it, .raw o'), (z, .list ((mulI_ wd (mulO_ wd as bs i) i (as.getD i 0) bs j).1.map .int))]) trivial hI2 S₂ ?_ ?_ ?_ ?_ ?_ ?_ ?_ ?_ ?_
      · k_mem
      walk_at "ml4"
      rotate_left 1
      · intro s _ S
        rw [List.length_map] at S
        exact ⟨by first | rfl | trivial, by walk_at "mst"⟩
      clear S S₂ hI2 hd hI
      intro j s v d t old2 o2' hd _ S E''
      obtain ⟨hlt2, rfl⟩ := getD_of hd
      obtain ⟨tx, rfl⟩ := S.int (.head _)
      rw [mulI_map]
      simp only [mulI_]
      have hl0 : (mulI_ wd (mulO_ wd as bs i) i (as.getD i 0) bs j).1.length = as.length + bs.length := by rw [mulI_len, mulO_len]
      generalize mulI_ wd (mulO_ wd as bs i) i (as.getD i 0) bs j = st at *
      have hxi := hx i
      have eij : ((i : Int) + (j : Int)).toNat = i + j := by omega
      refine wpAny_execs_cons ?_
      with_reducible refine cut (P := fun s => St H f [(L, .ns [(Str.ofString "carry", .i (st.2 + (st.1.getD (i + j) 0 + as.getD i 0 * bs.getD j 0))), (Str.ofString "spot", .i j), (Str.ofString "at", .i i), (Str.ofString "limb", .i (as.getD i 0)), (Str.ofString "found", .v (.ref z)), (Str.ofString "mask", .i (mask wd)), (Str.ofString "b", .v (.ref b)), (Str.ofString "w", .i wd)]), (e2, .raw (enObj it2 ((j + 1 : Nat) : Int) old2)), (it2, .raw o2'), (e, .raw (enObj it ((i + 1 : Nat) : Int) old)), (it, .raw o'), (z, .list (st.1.map .int))] [(.ref a, lz as), (.ref b, lz bs)] s) ?_ ?_
      · walk_at "mr"
        walk_at "mit"
        · exact lz_get' eij (by omega)
        intro _
        walk_at "mr"
        exact ⟨by first | rfl | trivial, by walk_at "mst"⟩
      clear S
      intro s S
      walk_at "mr"
      refine setL (by assumption) 5 (by rfl) (Kn.int _ _) (by omega) (by rw [List.length_map]; omega) (by rw [List.length_map]; show _ ≤ 2 ^ 24; omega) ?_
      walk_at "mstc"
      rw [eij] at *
      walk_at "mr"
      exact ⟨by first | rfl | trivial, by walk_at "mst"⟩
    clear S
    intro s S
    have hl0 : (mulI_ wd (mulO_ wd as bs i) i (as.getD i 0) bs bs.length).1.length = as.length + bs.length := by rw [mulI_len, mulO_len]
    rw [mulO_map]
    generalize mulI_ wd (mulO_ wd as bs i) i (as.getD i 0) bs bs.length = st at *
    have eij : ((i : Int) + (bs.length : Int)).toNat = i + bs.length := by omega
    walk_at "mr"
    refine setL (by assumption) 3 (by rfl) (Kn.int _ _) (by omega) (by rw [List.length_map]; omega) (by rw [List.length_map]; show _ ≤ 2 ^ 24; omega) ?_
    walk_at "mstc"
    rw [eij] at *
    walk_at "mr"
    exact ⟨by first | rfl | trivial, by walk_at "mst"⟩
  clear S
  intro s S
  walk_at "mr"
  have S' := St.freeze S 1 rfl
  have hlen : (mulR_ wd as bs).length = as.length + bs.length := mulO_len _ _ _ _
  with_reducible refine callD (normal_spec W k (mulR_ wd as bs) (by omega)) S' ?_ ?_ ?_
  walk_at "mcall"
  intro r s' S'
  exact ⟨_, _, _, rfl, S', .mem (.head _)⟩
set_option maxHeartbeats 4000000 in
theorem nat_of_spec {prog : Program} {w : World} {mg mb : Str → Option Value} {H : Heap} (W : Wd w mg mb H) (k : Nat) (wd : Nat) (hw0 : 0 < wd) (hw : wd ≤ 64) (a : Nat) (ha' : a < 2 ^ 1000) :
    Spec prog w H (k + 1) 53 [.i a, .i wd] (some (lz (dig wd a))) := by
  intro A s G vs Q E hA hH hs ha hQ
  obtain ⟨ta, _, rfl, ha1⟩ := ha.ii
  obtain ⟨tw, _, rfl, ha2⟩ := ha1.ii
  obtain rfl := ha2.nl
  refine enter W hA hH hs (D := []) (d := some _) (binds := [(Str.ofString "number", .int a ta), (Str.ofString "w", .int wd tw)]) (by walk_at "mhd") (by rfl) (by rfl) (by rfl) (locs rfl) (by decide) hQ ?_
  clear hA hH hs hQ ha ha1 ha2
  intro A f L s hA S
  refine wpAny_execs_cons ?_
  with_reducible refine cut (P := fun s => St H f [(L, .ns [(Str.ofString "number", .i a), (Str.ofString "w", .i wd)])] [] s) ?_ ?_
  · walk_at "mr"
    walk_at "mneg"
    walk_at "mr"
    exact ⟨by first | rfl | trivial, by walk_at "mst"⟩
  clear S
  intro s S
  refine wpAny_execs_cons ?_
  with_reducible refine cut (P := fun s => ∃ z, St H f [(L, .ns [(Str.ofString "number", .i a), (Str.ofString "found", .v (.ref z)), (Str.ofString "mask", .i (mask wd)), (Str.ofString "w", .i wd)]), (z, .list [])] [] s) ?_ ?_
  · walk_at "mr"
    walk_at "mtup"
    walk_at "mr"
    exact ⟨by first | rfl | trivial, _, by walk_at "mst"⟩
  clear S
  rintro s ⟨z, S⟩
  refine wpAny_execs_cons ?_
  with_reducible refine cut (P := fun s => St H f [(L, .ns [(Str.ofString "found", .v (.ref z))]), (z, .list ((dig wd a).map .int))] [] s) ?_ ?_
  · refine While_ (fun n s => ∃ fs : List Int, fs ++ dig wd n = dig wd a ∧ St H f [(L, .ns [(Str.ofString "number", .i n), (Str.ofString "found", .v (.ref z)), (Str.ofString "mask", .i (mask wd)), (Str.ofString "w", .i wd)]), (z, .list (fs.map .int))] [] s) a
      ⟨[], rfl, S⟩ ?_
    clear S
    rintro n s ⟨fs, hfs, S⟩ E'
    walk_at "mr"
    by_cases h0 : 0 < (n : Int)
    · walk_at "mpos"
      walk_at "mr"
      have hd := dig_pos (a := n) hw0 (by omega)
      have hl : fs.length ≤ 1000 := by
        have h1 := dig_len hw0 _ _ ha'
        rw [← hfs, List.length_append] at h1; omega
      refine appL (by assumption) 1 (by rfl) (by walk_at "mkn") (by rw [List.length_map]; show _ ≤ 2 ^ 24; omega) ?_
      walk_at "mstc"
      walk_at "mr"
      refine ⟨n / 2 ^ wd, Nat.div_lt_self (by omega) (Nat.one_lt_two_pow (by omega)), fs ++ [((n % 2 ^ wd : Nat) : Int)], by rw [List.append_assoc, ← hfs, hd]; rfl, ?_⟩
      rw [map_snoc, ← mask_nat, ← fdiv_pow]
      walk_at "mst"
    · walk_at "mneg"
      have hn0 : n = 0 := by omega
      subst hn0
      rw [dig_zero, List.append_nil] at hfs
      subst hfs
      exact ⟨by first | rfl | trivial, by walk_at "mst"⟩
  clear S
  intro s S
  walk_at "mr"
  have S' := St.freeze S 1 rfl
  exact ⟨_, _, _, rfl, S', .mem (.head _)⟩
set_option maxHeartbeats 4000000 in
theorem law_limbs_spec {prog : Program} {w : World} {mg mb : Str → Option Value} {H : Heap} (W : Wd w mg mb H) (k : Nat) (wd : Nat) (hw0 : 0 < wd) (hw : wd ≤ 20) (a : Nat) (ha' : a < 2 ^ 1000) :
    Spec prog w H (k + 1) 191 [.i a, .i wd] (some (lz (dig wd a))) := by
  intro A s G vs Q E hA hH hs ha hQ
  obtain ⟨ta, _, rfl, ha1⟩ := ha.ii
  obtain ⟨tw, _, rfl, ha2⟩ := ha1.ii
  obtain rfl := ha2.nl
  refine enter W hA hH hs (D := []) (d := some _) (binds := [(Str.ofString "number", .int a ta), (Str.ofString "w", .int wd tw)]) (by walk_at "mhd") (by rfl) (by rfl) (by rfl) (locs rfl) (by decide) hQ ?_
  clear hA hH hs hQ ha ha1 ha2
  intro A f L s hA S
  have hb : ((2 : Int) ^ ((wd : Nat) : Int).toNat) = ((2 ^ wd : Nat) : Int) := by push_cast; rfl
  have h2 : 0 < 2 ^ wd := Nat.pow_pos (by decide)
  have h3 : 2 ^ wd ≤ 2 ^ 20 := Nat.pow_le_pow_right (by decide) hw
  have hib : (Builtin.Int.intBits 2 : Int) * (wd : Int) ≤ 2 ^ 27 := by
    have : Builtin.Int.intBits 2 = 2 := by decide
    rw [this]; omega
  refine wpAny_execs_cons ?_
  with_reducible refine cut (P := fun s => ∃ z, St H f [(L, .ns [(Str.ofString "number", .i a), (Str.ofString "found", .v (.ref z)), (Str.ofString "w", .i wd)]), (z, .list [])] [] s) ?_ ?_
  · walk_at "mr"
    exact ⟨by first | rfl | trivial, _, by walk_at "mst"⟩
  clear S
  rintro s ⟨z, S⟩
  refine wpAny_execs_cons ?_
  with_reducible refine cut (P := fun s => St H f [(L, .ns [(Str.ofString "found", .v (.ref z))]), (z, .list ((dig wd a).map .int))] [] s) ?_ ?_
  · refine While_ (fun n s => ∃ fs : List Int, fs ++ dig wd n = dig wd a ∧ St H f [(L, .ns [(Str.ofString "number", .i n), (Str.ofString "found", .v (.ref z)), (Str.ofString "w", .i wd)]), (z, .list (fs.map .int))] [] s) a
      ⟨[], rfl, S⟩ ?_
    clear S
    rintro n s ⟨fs, hfs, S⟩ E'
    walk_at "mr"
    by_cases h0 : 0 < (n : Int)
    · walk_at "mpos"
      walk_at "mr"
      have hd := dig_pos (a := n) hw0 (by omega)
      have hl : fs.length ≤ 1000 := by
        have h1 := dig_len hw0 _ _ ha'
        rw [← hfs, List.length_append] at h1; omega
      with_reducible refine powI (by assumption) (by omega) hib ?_
      intro _ _ _
      rw [hb]
      walk_at "mr"
      refine appL (by assumption) 1 (by rfl) (Kn.int _ _) (by rw [List.length_map]; show _ ≤ 2 ^ 24; omega) ?_
      walk_at "mstc"
      walk_at "mr"
      with_reducible refine powI (by assumption) (by omega) hib ?_
      intro _ _ _
      rw [hb]
      walk_at "mr"
      refine ⟨n / 2 ^ wd, Nat.div_lt_self (by omega) (Nat.one_lt_two_pow (by omega)), fs ++ [((n % 2 ^ wd : Nat) : Int)], by rw [List.append_assoc, ← hfs, hd]; rfl, ?_⟩
      rw [map_snoc, ← fmod_nat, ← fdiv_nat]
      walk_at "mst"
    · walk_at "mneg"
      have hn0 : n = 0 := by omega
      subst hn0
      rw [dig_zero, List.append_nil] at hfs
      subst hfs
      exact ⟨by first | rfl | trivial, by walk_at "mst"⟩
  clear S
  intro s S
  walk_at "mr"
  have S' := St.freeze S 1 rfl
  exact ⟨_, _, _, rfl, S', .mem (.head _)⟩
def swF (p : Nat) : Nat → Nat → Nat
  | 0, _ => 0
  | f + 1, r => if r = 0 then 0 else r % 2 + swF p f (r / p)
def feF (p : Nat) : Nat → Nat → Nat
  | 0, _ => 0
  | f + 1, r => if r = 0 then 0 else r / p + feF p f (r / p)
theorem fmod_lit2 (a : Nat) : (a : Int).fmod 2 = ((a % 2 : Nat) : Int) := fmod_nat a 2

set_option maxHeartbeats 4000000 in
theorem swing_exponent_spec {prog : Program} {w : World} {mg mb : Str → Option Value} {H : Heap} (W : Wd w mg mb H) (k : Nat) (n p : Nat) (hp : 2 ≤ p) (hn : n ≤ 1000) (hp2 : p ≤ 1000) :
    Spec prog w H (k + 1) 109 [.i n, .i p] (some (.int (swF p n (n / p) : Nat))) := by
  intro A s G vs Q E hA hH hs ha hQ
  obtain ⟨ta, _, rfl, ha1⟩ := ha.ii
  obtain ⟨tw, _, rfl, ha2⟩ := ha1.ii
  obtain rfl := ha2.nl
  refine enter W hA hH hs (D := []) (d := some _) (binds := [(Str.ofString "n", .int n ta), (Str.ofString "prime", .int p tw)]) (by walk_at "mhd") (by rfl) (by rfl) (by rfl) (locs rfl) (by decide) hQ ?_
  clear hA hH hs hQ ha ha1 ha2
  intro A f L s hA S
  refine wpAny_execs_cons ?_
  with_reducible refine cut (P := fun s => St H f [(L, .ns [(Str.ofString "found", .i 0), (Str.ofString "rest", .i (n / p : Nat)), (Str.ofString "prime", .i p)])] [] s) ?_ ?_
  · walk_at "mr"
    walk_at "mtup"
    walk_at "mr"
    rw [fdiv_nat] at *
    exact ⟨by first | rfl | trivial, by walk_at "mst"⟩
  clear S
  rintro s S
  refine wpAny_execs_cons ?_
  with_reducible refine cut (P := fun s => St H f [(L, .ns [(Str.ofString "found", .i (swF p n (n / p) : Nat))])] [] s) ?_ ?_
  · refine While_ (fun r s => ∃ g fu, r ≤ fu ∧ g + swF p fu r = swF p n (n / p) ∧ St H f [(L, .ns [(Str.ofString "found", .i (g : Nat)), (Str.ofString "rest", .i (r : Nat)), (Str.ofString "prime", .i p)])] [] s) (n / p)
      ⟨0, n, Nat.div_le_self _ _, by simp, S⟩ ?_
    clear S
    rintro r s ⟨g, fu, hfu, hg, S⟩ E'
    walk_at "mr"
    by_cases h0 : 0 < (r : Int)
    · walk_at "mpos"
      walk_at "mr"
      obtain ⟨fu, rfl⟩ : ∃ m, fu = m + 1 := ⟨fu - 1, by omega⟩
      have hlt : r / p < r := Nat.div_lt_self (by omega) (by omega)
      rw [swF, if_neg (by omega)] at hg
      refine ⟨r / p, hlt, g + r % 2, fu, by omega, by omega, ?_⟩
      rw [fdiv_nat, fmod_lit2] at *
      walk_at "mst"
    · walk_at "mneg"
      have hn0 : r = 0 := by omega
      subst hn0
      have : swF p fu 0 = 0 := by cases fu <;> simp [swF]
      rw [this, Nat.add_zero] at hg
      subst hg
      exact ⟨by first | rfl | trivial, by walk_at "mst"⟩
  clear S
  intro s S
  walk_at "mr"
  exact ⟨_, _, _, rfl, by assumption, Kn.int _ _⟩
set_option maxHeartbeats 4000000 in
theorem factorial_exponent_spec {prog : Program} {w : World} {mg mb : Str → Option Value} {H : Heap} (W : Wd w mg mb H) (k : Nat) (n p : Nat) (hp : 2 ≤ p) (hn : n ≤ 1000) (hp2 : p ≤ 1000) :
    Spec prog w H (k + 1) 128 [.i n, .i p] (some (.int (feF p n n : Nat))) := by
  intro A s G vs Q E hA hH hs ha hQ
  obtain ⟨ta, _, rfl, ha1⟩ := ha.ii
  obtain ⟨tw, _, rfl, ha2⟩ := ha1.ii
  obtain rfl := ha2.nl
  refine enter W hA hH hs (D := []) (d := some _) (binds := [(Str.ofString "n", .int n ta), (Str.ofString "prime", .int p tw)]) (by walk_at "mhd") (by rfl) (by rfl) (by rfl) (locs rfl) (by decide) hQ ?_
  clear hA hH hs hQ ha ha1 ha2
  intro A f L s hA S
  refine wpAny_execs_cons ?_
  with_reducible refine cut (P := fun s => St H f [(L, .ns [(Str.ofString "found", .i 0), (Str.ofString "n", .i n), (Str.ofString "prime", .i p)])] [] s) ?_ ?_
  · walk_at "mr"
    exact ⟨by first | rfl | trivial, by walk_at "mst"⟩
  clear S
  rintro s S
  refine wpAny_execs_cons ?_
  with_reducible refine cut (P := fun s => St H f [(L, .ns [(Str.ofString "found", .i (feF p n n : Nat))])] [] s) ?_ ?_
  · refine While_ (fun r s => ∃ g fu, r ≤ fu ∧ g + feF p fu r = feF p n n ∧ St H f [(L, .ns [(Str.ofString "found", .i (g : Nat)), (Str.ofString "n", .i (r : Nat)), (Str.ofString "prime", .i p)])] [] s) n
      ⟨0, n, Nat.le_refl _, by simp, S⟩ ?_
    clear S
    rintro r s ⟨g, fu, hfu, hg, S⟩ E'
    walk_at "mr"
    by_cases h0 : 0 < (r : Int)
    · walk_at "mpos"
      walk_at "mr"
      obtain ⟨fu, rfl⟩ : ∃ m, fu = m + 1 := ⟨fu - 1, by omega⟩
      have hlt : r / p < r := Nat.div_lt_self (by omega) (by omega)
      rw [feF, if_neg (by omega)] at hg
      refine ⟨r / p, hlt, g + r / p, fu, by omega, by omega, ?_⟩
      rw [fdiv_nat] at *
      walk_at "mst"
    · walk_at "mneg"
      have hn0 : r = 0 := by omega
      subst hn0
      have : feF p fu 0 = 0 := by cases fu <;> simp [feF]
      rw [this, Nat.add_zero] at hg
      subst hg
      exact ⟨by first | rfl | trivial, by walk_at "mst"⟩
  clear S
  intro s S
  walk_at "mr"
  exact ⟨_, _, _, rfl, by assumption, Kn.int _ _⟩
set_option maxHeartbeats 4000000 in
theorem need_count_spec {prog : Program} {w : World} {mg mb : Str → Option Value} {H : Heap} (W : Wd w mg mb H) (k : Nat) (n : Nat) :
    Spec prog w H (k + 1) 88 [.i n] none := by
  intro A s G vs Q E hA hH hs ha hQ
  obtain ⟨ta, _, rfl, ha1⟩ := ha.ii
  obtain rfl := ha1.nl
  refine enter W hA hH hs (D := []) (d := none) (binds := [(Str.ofString "n", .int n ta)]) (by walk_at "mhd") (by rfl) (by rfl) (by rfl) (locs rfl) (by decide) hQ ?_
  clear hA hH hs hQ ha ha1
  intro A f L s hA S
  walk_at "mr"
  walk_at "mneg"
  walk_at "mr"
  exact ⟨.inl rfl, _, _, by assumption⟩
def worth (rs : List Int) (k : Int) : Int := rs.reverse.foldl (fun acc x => acc * k + x) 0
theorem mulR {prog : Program} {w : World} {A : Around} {E : Value → Shared → Prop} {H : Heap} {f : Fm} {M : List (Addr × MO)} {D : List (Value × PyData)} {s : Shared} {Q : Value → Shared → Prop} {a b : Int} {t u : Tok}
    (S : St H f M D s) (hok : b.natAbs < 2 ^ 63) (h : ∀ t s', St H f M D s' → Q (.int (a * b) t) s') : wpAny (model prog w) A (binaryOp .Mult (.int a t) (.int b u)) Q E s :=
  mul_int (h _ _ (S.tok _)) (IntMulOk.of_right (intBits_small hok))

theorem slice_rev' {prog : Program} {w : World} {A : Around} {E : Value → Shared → Prop} {H : Heap} {f : Fm} {M : List (Addr × MO)} {D : List (Value × PyData)} {s : Shared} {Q : Value → Shared → Prop} {a sl : Addr} {ds : List PyData} {value slice : Expr} {t : Tok}
    (S : St H f M D s) (hl : HasL M D a ds) (hsl : s.heap.IsSliceOf sl .none .none (.int (-1) t))
    (hsz : ds.length ≤ sizeLine) (h : ∀ b s', St H f M ((.ref b, .list ds.reverse) :: D) s' → Q (.ref b) s')
    (hs : subscripted slice false (.ref a) (.ref sl) = operate [.ref a, .ref sl] (getItem (.ref a) (.ref sl)) := by with_unfolding_all rfl)
    (ht : ∀ r, letTemporaryGo value (.ref a) r = pure () := by intro _; with_unfolding_all rfl) :
    wpAny (model prog w) A (subscriptTail value slice (.ref a) (.ref sl)) Q E s := by
  obtain ⟨G, vs, n, V, e, r⟩ := S.look hl
  refine subscriptTail_ops (isList_of e).typeIs list_getitem_lookup (wpAny_getItem_list_slice (isList_of e) hsl .none .none (.int _ _) (by simp) (h _ _ ?_) (by rw [List.size_toArray, r.length]; exact hsz)) hs ht
  rw [slicePick_rev vs]
  refine S.addD (o := lstObj vs.reverse 0) (tk := s.toks) (size_none _) (push_keeps _) (Heap.get?_push_size _ rfl) fun G' V' G'' hle e'' => ?_
  obtain ⟨vs', n', e', r'⟩ := V'.look hl
  have := lst_inj (e.symm.trans e')
  subst this
  exact .list e'' (r'.reverse.mono hle)

set_option maxHeartbeats 4000000 in
theorem law_worth_spec {prog : Program} {w : World} {mg mb : Str → Option Value} {H : Heap} (W : Wd w mg mb H) (k : Nat) (rs : List Int) (kk : Nat) (hr : rs.length ≤ 1000) (hk : kk ≤ 1000) :
    Spec prog w H (k + 1) 205 [.d (lz rs), .i kk] (some (.int (worth rs kk))) := by
  intro A s G vs Q E hA hH hs ha hQ
  obtain ⟨a, _, rfl, h1, ha1⟩ := ha.dl
  obtain ⟨tw, _, rfl, ha2⟩ := ha1.ii
  obtain rfl := ha2.nl
  refine enter W hA hH hs (D := [(.ref a, lz rs)]) (d := some _) (binds := [(Str.ofString "row", .ref a), (Str.ofString "k", .int kk tw)]) (by walk_at "mhd") (by rfl) (by rfl) (by rfl) (locs rfl) (by decide) hQ ?_
  clear hA hH hs hQ ha ha1 ha2
  intro A f L s hA S
  refine wpAny_execs_cons ?_
  with_reducible refine cut (P := fun s => St H f [(L, .ns [(Str.ofString "found", .i 0), (Str.ofString "row", .v (.ref a)), (Str.ofString "k", .i kk)])] [(.ref a, lz rs)] s) ?_ ?_
  · walk_at "mr"
    exact ⟨by first | rfl | trivial, by walk_at "mst"⟩
  clear S
  rintro s S
  refine wpAny_execs_cons ?_
  with_reducible refine cut (P := fun s => St H f [(L, .ns [(Str.ofString "found", .i (worth rs kk))])] [] s) ?_ ?_
  · walk_at "mfor"
    walk_at "mr"
    refine ⟨_, _, _, _, by assumption, fun sl s' S' hsl => ?_⟩
    refine slice_rev' (ds := rs.map PyData.int) (by assumption) (.inl (by k_mem)) (by assumption) (by rw [List.length_map]; show _ ≤ 2 ^ 24; omega) (fun c s' S' => ?_)
    rw [← List.map_reverse] at S'
    with_reducible refine iterL (ds := rs.reverse.map PyData.int) S' ?_ ?_
    · walk_at "mhas"
    intro I o s₁ hI S₁
    with_reducible refine LoopL (ds := rs.reverse.map PyData.int) hA (fun _ => True) (fun i => [(Str.ofString "found", .i ((rs.reverse.take i).foldl (fun acc x => acc * kk + x) 0)), (Str.ofString "k", .i kk)]) (fun i => []) trivial hI S₁ ?_ ?_ ?_ ?_ ?_ ?_ ?_ ?_
    · k_mem
    walk_at "ml3"
    rotate_left 1
    · intro s _ S
      rw [List.length_map, List.take_length] at S
      exact ⟨by first | rfl | trivial, by walk_at "mst"⟩
    clear S S₁
    intro i s v d o' hd _ S E'
    rw [List.getElem?_map] at hd
    obtain ⟨x, hx, rfl⟩ := Option.map_eq_some_iff.mp hd
    obtain ⟨tx, rfl⟩ := S.int (.head _)
    walk_at "mr"
    with_reducible refine mulR (by assumption) (by omega) ?_
    intro _ _ _
    walk_at "mr"
    have e : (rs.reverse.take (i + 1)).foldl (fun acc x => acc * (kk : Int) + x) 0 = (rs.reverse.take i).foldl (fun acc x => acc * (kk : Int) + x) 0 * kk + x := by
      rw [List.take_add_one, hx, List.foldl_append]; rfl
    rw [e]
    exact ⟨trivial, by walk_at "mst"⟩
  clear S
  intro s S
  walk_at "mr"
  exact ⟨_, _, _, rfl, by assumption, Kn.int _ _⟩
set_option maxHeartbeats 4000000 in
theorem signed_spec {prog : Program} {w : World} {mg mb : Str → Option Value} {H : Heap} (W : Wd w mg mb H) (k : Nat) (b : Bool) (ns : List Int) (hn : ns.length ≤ 2 ^ 20) :
    Spec prog w H (k + 1) 149 [.d (.bool b), .d (lz ns)] (some (.tuple [.bool (b && decide (0 < ns.length)), lz ns])) := by
  intro A s G vs Q E hA hH hs ha hQ
  obtain ⟨_, rfl, ha1⟩ := ha.db
  obtain ⟨a, _, rfl, h2, ha2⟩ := ha1.dl
  obtain rfl := ha2.nl
  refine enter W hA hH hs (D := [(.ref a, lz ns)]) (d := some _) (binds := [(Str.ofString "is_below", .bool b), (Str.ofString "nat", .ref a)]) (by walk_at "mhd") (by rfl) (by rfl) (by rfl) (locs rfl) (by decide) hQ ?_
  clear hA hH hs hQ ha ha1 ha2
  intro A f L s hA S
  cases b with
  | false =>
    walk_at "mr"
    with_reducible refine newTD (ds := [.bool false, lz ns]) (by assumption) ?_ ?_ (Nat.le_of_ble_eq_true rfl)
    · exact .cons (Kn.bool _) (.cons (Kn.mem (by k_mem)) .nil)
    intro a s' S'
    exact ⟨_, _, _, rfl, by assumption, .mem (.head _)⟩
  | true =>
    walk_at "mr"
    with_reducible refine newTD (ds := [.bool (decide ((0 : Int) < (ns.length : Int))), lz ns]) (by assumption) ?_ ?_ (Nat.le_of_ble_eq_true rfl)
    · exact .cons (Kn.bool _) (.cons (Kn.mem (by k_mem)) .nil)
    intro a s' S'
    have e : decide ((0 : Int) < (ns.length : Int)) = (true && decide (0 < ns.length)) := by rw [Bool.true_and]; exact decide_eq_decide.mpr (by omega)
    rw [e] at S'
    exact ⟨_, _, _, rfl, by assumption, .mem (.head _)⟩
abbrev sgl (b : Bool) (ns : List Int) : PyData := .tuple [.bool b, lz ns]
set_option maxHeartbeats 4000000 in
theorem s_neg_spec {prog : Program} {w : World} {mg mb : Str → Option Value} {H : Heap} (W : Wd w mg mb H) (k : Nat) (b : Bool) (ns : List Int) (hn : ns.length ≤ 2 ^ 20) :
    Spec prog w H (k + 2) 156 [.d (sgl b ns)] (some (sgl (!b && decide (0 < ns.length)) ns)) := by
  intro A s G vs Q E hA hH hs ha hQ
  obtain ⟨a, _, rfl, h1, ha1⟩ := ha.dt
  obtain rfl := ha1.nl
  refine enter W hA hH hs (D := [(.ref a, sgl b ns)]) (d := some _) (binds := [(Str.ofString "x", .ref a)]) (by walk_at "mhd") (by rfl) (by rfl) (by rfl) (locs rfl) (by decide) hQ ?_
  clear hA hH hs hQ ha ha1
  intro A f L s hA S
  walk_at "mr"
  refine itemT0 (by assumption) (show HasT _ _ _ from by k_mem) (fun v S' => ?_)
  obtain rfl := S'.bool (.head _)
  walk_at "mr"
  refine itemT1 (by assumption) (show HasT _ _ _ from by k_mem) (fun v S' => ?_)
  walk_at "mr"
  with_reducible refine callD (signed_spec W k (!b) ns hn) (by assumption) ?_ ?_ ?_
  walk_at "mcall"
  intro r s' S'
  exact ⟨_, _, _, rfl, S', .mem (.head _)⟩
def sg (wd : Nat) (z : Int) : PyData := .tuple [.bool (decide (z < 0)), lz (dig wd z.natAbs)]
set_option maxHeartbeats 4000000 in
theorem law_signed_spec {prog : Program} {w : World} {mg mb : Str → Option Value} {H : Heap} (W : Wd w mg mb H) (k : Nat) (wd : Nat) (hw0 : 0 < wd) (hw : wd ≤ 20) (z : Int) (hz : z.natAbs < 2 ^ 1000) :
    Spec prog w H (k + 2) 198 [.i z, .i wd] (some (sg wd z)) := by
  intro A s G vs Q E hA hH hs ha hQ
  obtain ⟨ta, _, rfl, ha1⟩ := ha.ii
  obtain ⟨tw, _, rfl, ha2⟩ := ha1.ii
  obtain rfl := ha2.nl
  refine enter W hA hH hs (D := []) (d := some _) (binds := [(Str.ofString "number", .int z ta), (Str.ofString "w", .int wd tw)]) (by walk_at "mhd") (by rfl) (by rfl) (by rfl) (locs rfl) (by decide) hQ ?_
  clear hA hH hs hQ ha ha1 ha2
  intro A f L s hA S
  walk_at "mr"
  with_reducible refine absI (by assumption) ?_
  intro _ _ _
  walk_at "mr"
  have e : (if z < 0 then -z else z) = ((z.natAbs : Nat) : Int) := by split <;> omega
  rw [e]
  with_reducible refine callR (law_limbs_spec W k wd hw0 hw z.natAbs hz) (by assumption) ?_ ?_ ?_
  walk_at "mcall"
  intro a s' S'
  walk_at "mr"
  with_reducible refine newTD (ds := [.bool (decide (z < 0)), lz (dig wd z.natAbs)]) (by assumption) ?_ ?_ (Nat.le_of_ble_eq_true rfl)
  · exact .cons (Kn.bool _) (.cons (Kn.mem (by k_mem)) .nil)
  intro a s' S'
  exact ⟨_, _, _, rfl, by assumption, .mem (.head _)⟩
-- values of limb lists
def val (B : Int) : List Int → Int
  | [] => 0
  | x :: xs => x + B * val B xs
def Lim (B : Int) (ns : List Int) : Prop := ∀ x ∈ ns, 0 ≤ x ∧ x < B
def Can (B : Int) : List Int → Prop
  | [] => True
  | x :: xs => (0 ≤ x ∧ x < B) ∧ Can B xs ∧ (xs = [] → x ≠ 0)
theorem Can.lim {B : Int} : ∀ {ns : List Int}, Can B ns → Lim B ns
  | [], _ => fun _ h => by cases h
  | x :: xs, h => fun y hy => by
    rcases List.mem_cons.mp hy with rfl | hy
    · exact h.1
    · exact h.2.1.lim y hy
theorem Lim.val_nonneg {B : Int} (hB : 2 ≤ B) : ∀ {ns : List Int}, Lim B ns → 0 ≤ val B ns
  | [], _ => Int.le_refl _
  | x :: xs, h => by
    have h1 := h x (.head _)
    have h2 := Lim.val_nonneg hB (ns := xs) fun y hy => h y (.tail _ hy)
    have := Int.mul_nonneg (show 0 ≤ B by omega) h2
    show 0 ≤ x + B * val B xs
    omega
theorem Can.val_pos {B : Int} (hB : 2 ≤ B) : ∀ {ns : List Int}, Can B ns → ns ≠ [] → 0 < val B ns
  | [], _, h => (h rfl).elim
  | x :: xs, h, _ => by
    show 0 < x + B * val B xs
    by_cases hx : xs = []
    · subst hx
      have := h.2.2 rfl
      have := h.1
      simp only [val]; omega
    · have h2 := Can.val_pos hB h.2.1 hx
      have := Int.mul_pos (show 0 < B by omega) h2
      have := h.1
      omega
theorem pow_cast (w : Nat) : (2 : Int) ^ w = ((2 ^ w : Nat) : Int) := by push_cast; rfl
theorem pow_ge2 {w : Nat} (hw : 0 < w) : 2 ≤ (2 : Int) ^ w := by
  rw [pow_cast]
  have := Nat.pow_le_pow_right (n := 2) (by decide) hw
  have e : (2 : Nat) ^ 1 = 2 := rfl
  rw [e] at this
  omega
theorem dig_val {w : Nat} (hw : 0 < w) : ∀ {ns : List Int}, Can (2 ^ w) ns → dig w (val (2 ^ w) ns).toNat = ns
  | [], _ => dig_zero w
  | x :: xs, h => by
    have hB := pow_ge2 hw
    have hpos := Can.val_pos hB h (by simp)
    have ih := dig_val hw h.2.1
    have hn := Lim.val_nonneg hB h.2.1.lim
    rw [dig_pos hw (by omega)]
    have e : ((val (2 ^ w) (x :: xs)).toNat : Int) = x + 2 ^ w * val (2 ^ w) xs := by rw [Int.toNat_of_nonneg (by omega)]; rfl
    have h1 := h.1
    have e1 : (((val (2 ^ w) (x :: xs)).toNat % 2 ^ w : Nat) : Int) = x := by
      have : (((val (2 ^ w) (x :: xs)).toNat % 2 ^ w : Nat) : Int) = ((val (2 ^ w) (x :: xs)).toNat : Int) % 2 ^ w := by push_cast; rfl
      rw [this, e, Int.add_mul_emod_self_left]
      exact Int.emod_eq_of_lt h1.1 h1.2
    have e2 : (val (2 ^ w) (x :: xs)).toNat / 2 ^ w = (val (2 ^ w) xs).toNat := by
      apply Int.natCast_inj.mp
      have : (((val (2 ^ w) (x :: xs)).toNat / 2 ^ w : Nat) : Int) = ((val (2 ^ w) (x :: xs)).toNat : Int) / 2 ^ w := by push_cast; rfl
      rw [this, e, Int.add_mul_ediv_left _ _ (by omega), Int.ediv_eq_zero_of_lt h1.1 h1.2, Int.toNat_of_nonneg hn]
      omega
    rw [e1, e2, ih]
theorem can_dig {w : Nat} (hw : 0 < w) (a : Nat) : Can (2 ^ w) (dig w a) ∧ val (2 ^ w) (dig w a) = a := by
  induction a using Nat.strongRecOn with
  | _ a ih =>
    by_cases h0 : a = 0
    · subst h0; rw [dig_zero]; exact ⟨trivial, rfl⟩
    · have hlt : a / 2 ^ w < a := Nat.div_lt_self (by omega) (Nat.one_lt_two_pow (by omega))
      obtain ⟨c, v⟩ := ih _ hlt
      rw [dig_pos hw (by omega)]
      have hm := Nat.mod_add_div a (2 ^ w)
      have hml := Nat.mod_lt a (Nat.pow_pos (n := w) (show 0 < 2 by decide))
      refine ⟨⟨⟨Int.natCast_nonneg _, by rw [pow_cast]; exact Int.ofNat_lt.mpr hml⟩, c, fun e => ?_⟩, ?_⟩
      · have : a / 2 ^ w = 0 := by rw [e] at v; simp only [val] at v; omega
        rw [this] at hm
        simp only [Nat.mul_zero, Nat.add_zero] at hm
        omega
      · show ((a % 2 ^ w : Nat) : Int) + 2 ^ w * val (2 ^ w) (dig w (a / 2 ^ w)) = a
        rw [v, pow_cast, ← Int.natCast_mul, ← Int.natCast_add, hm]
theorem dig_of {w : Nat} (hw : 0 < w) {ns : List Int} {a : Nat} (h : Can (2 ^ w) ns) (e : val (2 ^ w) ns = a) : ns = dig w a := by
  rw [← dig_val hw h, e]; simp

theorem val_append (B : Int) (ys : List Int) : ∀ xs : List Int, val B (xs ++ ys) = val B xs + val B ys * B ^ xs.length
  | [] => by simp [val]
  | x :: xs => by
    rw [List.cons_append, List.length_cons, Int.pow_succ]
    show x + B * val B (xs ++ ys) = x + B * val B xs + _
    rw [val_append B ys xs]
    grind
theorem val_snoc (B : Int) (xs : List Int) (x : Int) : val B (xs ++ [x]) = val B xs + x * B ^ xs.length := by
  rw [val_append]; simp [val]
theorem val_take_succ (B : Int) (xs : List Int) (i : Nat) : val B (xs.take (i + 1)) = val B (xs.take i) + xs.getD i 0 * B ^ i := by
  by_cases h : i < xs.length
  · rw [List.take_add_one, List.getElem?_eq_getElem h]
    show val B (xs.take i ++ [xs[i]]) = _
    rw [val_snoc, List.length_take, Nat.min_eq_left (Nat.le_of_lt h)]
    simp [List.getD, h]
  · rw [List.take_of_length_le (by omega), List.take_of_length_le (by omega)]
    simp [List.getD, List.getElem?_eq_none (Nat.le_of_not_lt h)]
theorem Lim.getD {B : Int} (hB : 2 ≤ B) {ns : List Int} (h : Lim B ns) (i : Nat) : 0 ≤ ns.getD i 0 ∧ ns.getD i 0 < B := by
  by_cases hi : i < ns.length
  · have : ns.getD i 0 = ns[i] := by simp [List.getD, hi]
    rw [this]; exact h _ (List.getElem_mem hi)
  · have : ns.getD i 0 = 0 := by simp [List.getD, List.getElem?_eq_none (Nat.le_of_not_lt hi)]
    rw [this]; omega
theorem Lim.take {B : Int} {ns : List Int} (h : Lim B ns) (i : Nat) : Lim B (ns.take i) := fun x hx => h x ((List.take_sublist _ _).subset hx)
theorem Lim.snoc {B : Int} {ns : List Int} (h : Lim B ns) {x : Int} (h0 : 0 ≤ x) (h1 : x < B) : Lim B (ns ++ [x]) := fun y hy => by
  rcases List.mem_append.mp hy with hy | hy
  · exact h y hy
  · rcases List.mem_singleton.mp hy with rfl; exact ⟨h0, h1⟩
theorem Lim.val_lt {B : Int} (hB : 2 ≤ B) : ∀ {ns : List Int}, Lim B ns → val B ns < B ^ ns.length
  | [], _ => by simp [val]
  | x :: xs, h => by
    have h1 := h x (.head _)
    have h2 := Lim.val_lt hB (ns := xs) fun y hy => h y (.tail _ hy)
    show x + B * val B xs < B ^ (xs.length + 1)
    rw [Int.pow_succ]
    have : B * (val B xs + 1) ≤ B * B ^ xs.length := Int.mul_le_mul_of_nonneg_left (by omega) (by omega)
    grind
theorem can_of_top {B : Int} : ∀ {ns : List Int}, Lim B ns → (ns = [] ∨ ns.getD (ns.length - 1) 0 ≠ 0) → Can B ns
  | [], _, _ => trivial
  | [x], h, t => ⟨h x (.head _), trivial, fun _ => by
    rcases t with t | t
    · cases t
    · exact t⟩
  | x :: y :: ys, h, t => ⟨h x (.head _), can_of_top (ns := y :: ys) (fun z hz => h z (.tail _ hz)) (.inr (by
    rcases t with t | t
    · cases t
    · simpa using t)), fun e => by cases e⟩
theorem pow_pos' {B : Int} (hB : 2 ≤ B) : ∀ n : Nat, 0 < B ^ n
  | 0 => by simp
  | n + 1 => by rw [Int.pow_succ]; exact Int.mul_pos (pow_pos' hB n) (by omega)
theorem Can.val_ge {B : Int} (hB : 2 ≤ B) : ∀ {ns : List Int}, Can B ns → ns ≠ [] → B ^ (ns.length - 1) ≤ val B ns
  | [], _, h => (h rfl).elim
  | [x], h, _ => by
    have := h.2.2 rfl
    have := h.1
    show B ^ 0 ≤ x + B * 0
    rw [Int.pow_zero]; omega
  | x :: y :: ys, h, _ => by
    have h2 := Can.val_ge hB h.2.1 (by simp)
    have h1 := h.1
    show B ^ (ys.length + 1) ≤ x + B * val B (y :: ys)
    have h3 : B ^ ys.length ≤ val B (y :: ys) := h2
    rw [Int.pow_succ]
    have : B * B ^ ys.length ≤ B * val B (y :: ys) := Int.mul_le_mul_of_nonneg_left h3 (by omega)
    grind
theorem can_of_ge {B : Int} (hB : 2 ≤ B) {ns : List Int} (h : Lim B ns) (g : ns ≠ [] → B ^ (ns.length - 1) ≤ val B ns) : Can B ns := by
  refine can_of_top h ?_
  by_cases hn : ns = []
  · exact .inl hn
  · right
    intro e
    have hl : ns.length = (ns.length - 1) + 1 := by have := List.length_pos_iff.mpr hn; omega
    have h1 := val_take_succ B ns (ns.length - 1)
    rw [← hl, List.take_length, e] at h1
    have h2 := (h.take (ns.length - 1)).val_lt hB
    rw [List.length_take, Nat.min_eq_left (by omega)] at h2
    have := g hn
    omega
theorem fdivB {w : Nat} (hw : 0 < w) (x : Int) : x.fdiv (2 ^ w) = x / 2 ^ w := Int.fdiv_eq_ediv_of_nonneg _ (by have := pow_ge2 hw; omega)
theorem emod_div {B : Int} (hB : 2 ≤ B) (t : Int) : t = t / B * B + t % B ∧ 0 ≤ t % B ∧ t % B < B := ⟨by have := Int.mul_ediv_add_emod t B; rw [Int.mul_comm] at this; omega, Int.emod_nonneg _ (by omega), Int.emod_lt_of_pos _ (by omega)⟩
theorem ediv_le1 {B t : Int} (hB : 2 ≤ B) (h0 : 0 ≤ t) (h : t < 2 * B) : 0 ≤ t / B ∧ t / B ≤ 1 := by
  refine ⟨Int.ediv_nonneg h0 (by omega), ?_⟩
  have : t / B < 2 := Int.ediv_lt_of_lt_mul (by omega) (by omega)
  omega
/-- a state of an addition: the limbs found, the carry -/
structure AddS (B : Int) (xs ys : List Int) (i : Nat) (st : List Int × Int) : Prop where
  lim : Lim B st.1
  len : st.1.length = i
  c0 : 0 ≤ st.2
  c1 : st.2 ≤ 1
  v : val B st.1 + st.2 * B ^ i = val B (xs.take i) + val B (ys.take i)
theorem AddS.step {B : Int} (hB : 2 ≤ B) {xs ys : List Int} (hx : Lim B xs) (hy : Lim B ys) {i : Nat} {st : List Int × Int} (S : AddS B xs ys i st) :
    AddS B xs ys (i + 1) (st.1 ++ [(st.2 + (xs.getD i 0 + ys.getD i 0)) % B], (st.2 + (xs.getD i 0 + ys.getD i 0)) / B) := by
  have h1 := hx.getD hB i
  have h2 := hy.getD hB i
  have h3 := S.c0
  have h4 := S.c1
  have h5 := S.v
  have h6 := S.len
  obtain ⟨e, m0, m1⟩ := emod_div hB (st.2 + (xs.getD i 0 + ys.getD i 0))
  obtain ⟨d0, d1⟩ := ediv_le1 (t := st.2 + (xs.getD i 0 + ys.getD i 0)) hB (by omega) (by omega)
  refine ⟨S.lim.snoc m0 m1, by rw [List.length_append, h6]; rfl, d0, d1, ?_⟩
  show val B (st.1 ++ [_]) + _ * B ^ (i + 1) = _
  rw [val_snoc, h6, val_take_succ, val_take_succ, Int.pow_succ]
  generalize xs.getD i 0 = x at *
  generalize ys.getD i 0 = y at *
  generalize (st.2 + (x + y)) / B = q at *
  generalize (st.2 + (x + y)) % B = r at *
  grind
theorem addA_ok {w : Nat} (hw : 0 < w) {xs ys : List Int} (hx : Lim (2 ^ w) xs) (hy : Lim (2 ^ w) ys) : ∀ i, AddS (2 ^ w) xs ys i (addA w xs ys i)
  | 0 => ⟨(fun _ h => by cases h), rfl, Int.le_refl _, (show (0 : Int) ≤ 1 by decide), by simp [addA, val]⟩
  | i + 1 => by
    have := (addA_ok hw hx hy i).step (pow_ge2 hw) hx hy
    rw [addA, mask_eq, fdivB hw]; exact this
theorem addB_ok {w : Nat} (hw : 0 < w) {xs ys : List Int} (hx : Lim (2 ^ w) xs) (hy : Lim (2 ^ w) ys) : ∀ i, AddS (2 ^ w) xs ys (ys.length + i) (addB w xs ys.length (addA w xs ys ys.length) i)
  | 0 => addA_ok hw hx hy _
  | i + 1 => by
    have := (addB_ok hw hx hy i).step (pow_ge2 hw) hx hy
    have e : ys.getD (ys.length + i) 0 = 0 := by simp [List.getD]
    rw [e, Int.add_zero] at this
    rw [addB, mask_eq, fdivB hw]; exact this
theorem addR_ok {w : Nat} (hw : 0 < w) {xs ys : List Int} (hx : Can (2 ^ w) xs) (hy : Can (2 ^ w) ys) (hl : ys.length ≤ xs.length) : Can (2 ^ w) (addR w xs ys) ∧ val (2 ^ w) (addR w xs ys) = val (2 ^ w) xs + val (2 ^ w) ys := by
  have hB := pow_ge2 hw
  have S := addB_ok hw hx.lim hy.lim (xs.length - ys.length)
  have e : ys.length + (xs.length - ys.length) = xs.length := by omega
  rw [e] at S
  have hv := S.v
  rw [List.take_length, List.take_of_length_le hl] at hv
  unfold addR addC
  split
  · rename_i hc
    have c1 := S.c1
    have ce : (addB w xs ys.length (addA w xs ys ys.length) (xs.length - ys.length)).2 = 1 := by omega
    rw [ce] at hv ⊢
    refine ⟨can_of_top (S.lim.snoc (by decide) (by omega)) (.inr (by simp [List.getD])), ?_⟩
    rw [val_snoc, S.len]; exact hv
  · rename_i hc
    have c0 := S.c0
    have ce : (addB w xs ys.length (addA w xs ys ys.length) (xs.length - ys.length)).2 = 0 := by omega
    rw [ce, Int.zero_mul, Int.add_zero] at hv
    refine ⟨can_of_ge hB S.lim fun hn => ?_, hv⟩
    rw [S.len, hv]
    have h1 : xs ≠ [] := fun q => hn (List.length_eq_zero_iff.mp (by rw [S.len, q]; rfl))
    have h2 := hx.val_ge hB h1
    have h3 := Lim.val_nonneg hB hy.lim
    omega
theorem addL_dig {w : Nat} (hw : 0 < w) (a b : Nat) : addL w (dig w a) (dig w b) = dig w (a + b) := by
  obtain ⟨ca, va⟩ := can_dig hw a
  obtain ⟨cb, vb⟩ := can_dig hw b
  unfold addL
  split
  · obtain ⟨c, v⟩ := addR_ok hw cb ca (by omega)
    exact dig_of hw c (by rw [v, va, vb]; push_cast; omega)
  · obtain ⟨c, v⟩ := addR_ok hw ca cb (by omega)
    exact dig_of hw c (by rw [v, va, vb]; push_cast; rfl)

-- normal
theorem topN_ok (B : Int) (ns : List Int) : ∀ e, val B (ns.take (topN ns e)) = val B (ns.take e) ∧ (topN ns e = 0 ∨ 1 ≤ topN ns e ∧ ns.getD (topN ns e - 1) 0 ≠ 0)
  | 0 => ⟨rfl, .inl rfl⟩
  | e + 1 => by
    unfold topN
    split
    · rename_i h0
      obtain ⟨h1, h2⟩ := topN_ok B ns e
      refine ⟨?_, h2⟩
      rw [h1, val_take_succ, h0]; omega
    · rename_i h0
      exact ⟨rfl, .inr ⟨Nat.succ_le_succ (Nat.zero_le _), h0⟩⟩
theorem nrm_ok {B : Int} {ns : List Int} (h : Lim B ns) : Can B (nrm ns) ∧ val B (nrm ns) = val B ns := by
  obtain ⟨h1, h2⟩ := topN_ok B ns ns.length
  have h3 := topN_le ns ns.length
  rw [List.take_length] at h1
  unfold nrm
  refine ⟨can_of_top (h.take _) ?_, h1⟩
  rcases h2 with h2 | ⟨h4, h2⟩
  · left; rw [h2]; rfl
  · right
    intro e
    rw [List.length_take, Nat.min_eq_left h3] at e
    rw [List.getD_eq_getElem?_getD, List.getElem?_take, if_pos (by omega), ← List.getD_eq_getElem?_getD] at e
    exact h2 e

-- compare
theorem cmpFrom_ok {B : Int} (hB : 2 ≤ B) {xs ys : List Int} (hx : Lim B xs) (hy : Lim B ys) : ∀ e, e ≤ xs.length → e ≤ ys.length → cmpFrom xs ys e = if val B (xs.take e) < val B (ys.take e) then -1 else if val B (xs.take e) = val B (ys.take e) then 0 else 1
  | 0, _, _ => by simp [cmpFrom, val]
  | e + 1, h1, h2 => by
    have a1 := (hx.take e).val_lt hB
    have a2 := (hy.take e).val_lt hB
    have a3 := (hx.take e).val_nonneg hB
    have a4 := (hy.take e).val_nonneg hB
    rw [List.length_take, Nat.min_eq_left (by omega)] at a1 a2
    have hp := pow_pos' hB e
    rw [val_take_succ, val_take_succ]
    unfold cmpFrom
    generalize xs.getD e 0 = x at *
    generalize ys.getD e 0 = y at *
    have ih := cmpFrom_ok hB hx hy e (by omega) (by omega)
    generalize val B (xs.take e) = p at *
    generalize val B (ys.take e) = q at *
    generalize B ^ e = P at *
    split
    · rename_i hne
      by_cases hlt : x < y
      · have : (x + 1) * P ≤ y * P := Int.mul_le_mul_of_nonneg_right (by omega) (by omega)
        rw [Int.add_mul] at this
        rw [if_pos hlt, if_pos (by omega)]
      · have : (y + 1) * P ≤ x * P := Int.mul_le_mul_of_nonneg_right (by omega) (by omega)
        rw [Int.add_mul] at this
        rw [if_neg hlt, if_neg (by omega), if_neg (by omega)]
    · rename_i he
      have he : x = y := by omega
      subst he
      rw [ih]
      split
      · rw [if_pos (by omega)]
      · split
        · rw [if_neg (by omega), if_pos (by omega)]
        · rw [if_neg (by omega), if_neg (by omega)]
theorem len_lt_val {B : Int} (hB : 2 ≤ B) {xs ys : List Int} (hx : Can B xs) (hy : Can B ys) (h : xs.length < ys.length) : val B xs < val B ys := by
  have h1 := hx.lim.val_lt hB
  have h2 := hy.val_ge hB (by intro q; rw [q] at h; simp at h)
  have : B ^ xs.length ≤ B ^ (ys.length - 1) := by
    obtain ⟨d, hd⟩ : ∃ d, ys.length - 1 = xs.length + d := ⟨ys.length - 1 - xs.length, by omega⟩
    rw [hd, Int.pow_add]
    have := pow_pos' hB d
    have h3 := pow_pos' hB xs.length
    calc B ^ xs.length = B ^ xs.length * 1 := by omega
      _ ≤ B ^ xs.length * B ^ d := Int.mul_le_mul_of_nonneg_left (by omega) (by omega)
  omega
theorem cmpL_dig {w : Nat} (hw : 0 < w) (a b : Nat) : cmpL (dig w a) (dig w b) = if a < b then -1 else if a = b then 0 else 1 := by
  obtain ⟨ca, va⟩ := can_dig hw a
  obtain ⟨cb, vb⟩ := can_dig hw b
  have hB := pow_ge2 hw
  unfold cmpL
  split
  · by_cases hl : (dig w a).length < (dig w b).length
    · have := len_lt_val hB ca cb hl
      rw [if_pos hl, if_pos (by omega)]
    · have := len_lt_val hB cb ca (by omega)
      rw [if_neg hl, if_neg (by omega), if_neg (by omega)]
  · rename_i hl
    have hl : (dig w a).length = (dig w b).length := by omega
    rw [cmpFrom_ok hB ca.lim cb.lim _ (Nat.le_refl _) (by omega), List.take_length, hl, List.take_length, va, vb]
    split
    · rw [if_pos (by omega)]
    · split
      · rw [if_neg (by omega), if_pos (by omega)]
      · rw [if_neg (by omega), if_neg (by omega)]

-- sub
structure SubS (B : Int) (xs ys : List Int) (i : Nat) (st : List Int × Int) : Prop where
  lim : Lim B st.1
  len : st.1.length = i
  c0 : 0 ≤ st.2
  c1 : st.2 ≤ 1
  v : val B st.1 - st.2 * B ^ i = val B (xs.take i) - val B (ys.take i)
theorem subA_ok {w : Nat} (hw : 0 < w) {xs ys : List Int} (hx : Lim (2 ^ w) xs) (hy : Lim (2 ^ w) ys) : ∀ i, SubS (2 ^ w) xs ys i (subA w xs ys i)
  | 0 => ⟨(fun _ h => by cases h), rfl, Int.le_refl _, (show (0 : Int) ≤ 1 by decide), by simp [subA, val]⟩
  | i + 1 => by
    have hB := pow_ge2 hw
    have S := subA_ok hw hx hy i
    have h1 := hx.getD hB i
    have h2 := hy.getD hB i
    have h3 := S.c0
    have h4 := S.c1
    have h5 := S.v
    have h6 := S.len
    unfold subA
    generalize subA w xs ys i = st at *
    generalize hlm : xs.getD i 0 - st.2 - ys.getD i 0 = lm
    have hv := val_take_succ (2 ^ w) xs i
    have hv2 := val_take_succ (2 ^ w) ys i
    by_cases hl : lm < 0
    · rw [if_pos hl, if_pos hl]
      refine ⟨S.lim.snoc (by omega) (by omega), by rw [List.length_append, h6]; rfl, (show (0 : Int) ≤ 1 by decide), (show (1 : Int) ≤ 1 by decide), ?_⟩
      show val (2 ^ w) (st.1 ++ [_]) - 1 * (2 ^ w) ^ (i + 1) = _
      rw [val_snoc, h6, hv, hv2, Int.pow_succ]
      generalize xs.getD i 0 = x at *
      generalize ys.getD i 0 = y at *
      generalize (2 : Int) ^ w = B at *
      subst hlm
      grind
    · rw [if_neg hl, if_neg hl]
      refine ⟨S.lim.snoc (by omega) (by omega), by rw [List.length_append, h6]; rfl, (show (0 : Int) ≤ 0 by decide), (show (0 : Int) ≤ 1 by decide), ?_⟩
      show val (2 ^ w) (st.1 ++ [_]) - 0 * (2 ^ w) ^ (i + 1) = _
      rw [val_snoc, h6, hv, hv2]
      generalize xs.getD i 0 = x at *
      generalize ys.getD i 0 = y at *
      generalize (2 : Int) ^ w = B at *
      subst hlm
      grind
theorem subR_dig {w : Nat} (hw : 0 < w) (a b : Nat) (h : b ≤ a) : nrm (subR w (dig w a) (dig w b)) = dig w (a - b) := by
  obtain ⟨ca, va⟩ := can_dig hw a
  obtain ⟨cb, vb⟩ := can_dig hw b
  have hB := pow_ge2 hw
  have S := subA_ok hw ca.lim cb.lim (dig w a).length
  obtain ⟨c, v⟩ := nrm_ok S.lim
  have hl : (dig w b).length ≤ (dig w a).length := by
    apply Nat.le_of_not_lt
    intro hl
    have := len_lt_val hB ca cb hl
    omega
  have hv := S.v
  rw [List.take_length, List.take_of_length_le hl, va, vb] at hv
  have hlt := S.lim.val_lt hB
  rw [S.len] at hlt
  have c0 := S.c0
  have c1 := S.c1
  refine dig_of hw c ?_
  unfold subR
  rw [v]
  by_cases hc : (subA w (dig w a) (dig w b) (dig w a).length).2 = 0
  · rw [hc, Int.zero_mul] at hv; omega
  · have : (subA w (dig w a) (dig w b) (dig w a).length).2 = 1 := by omega
    rw [this, Int.one_mul] at hv
    omega
theorem val_set {B : Int} (v : Int) : ∀ {fs : List Int} {k : Nat}, k < fs.length → val B (fs.set k v) = val B fs + (v - fs.getD k 0) * B ^ k
  | [], _, h => by simp at h
  | x :: xs, 0, _ => by
    show v + B * val B xs = x + B * val B xs + _
    simp [List.getD]; omega
  | x :: xs, k + 1, h => by
    show x + B * val B (xs.set k v) = x + B * val B xs + _
    rw [val_set v (fs := xs) (k := k) (by simpa using h), Int.pow_succ]
    have : (x :: xs).getD (k + 1) 0 = xs.getD k 0 := by simp [List.getD]
    rw [this]
    grind
theorem getD_set (fs : List Int) (k j : Nat) (v : Int) (h : j ≠ k) : (fs.set k v).getD j 0 = fs.getD j 0 := by
  simp only [List.getD_eq_getElem?_getD]
  rw [List.getElem?_set_ne (Ne.symm h)]
theorem Lim.set {B : Int} {fs : List Int} (h : Lim B fs) {k : Nat} {v : Int} (h0 : 0 ≤ v) (h1 : v < B) : Lim B (fs.set k v) := fun x hx => by
  rcases List.mem_or_eq_of_mem_set hx with hx | rfl
  · exact h x hx
  · exact ⟨h0, h1⟩
structure MulS (B : Int) (fs : List Int) (i : Nat) (x : Int) (ys : List Int) (j : Nat) (st : List Int × Int) : Prop where
  lim : Lim B st.1
  len : st.1.length = fs.length
  c0 : 0 ≤ st.2
  c1 : st.2 < B
  top : ∀ k, i + j ≤ k → st.1.getD k 0 = fs.getD k 0
  v : val B st.1 + st.2 * B ^ (i + j) = val B fs + x * val B (ys.take j) * B ^ i
theorem mulI_ok {w : Nat} (hw : 0 < w) {fs ys : List Int} {i : Nat} {x : Int} (hf : Lim (2 ^ w) fs) (hy : Lim (2 ^ w) ys) (hx0 : 0 ≤ x) (hx1 : x < 2 ^ w) (hl : i + ys.length < fs.length) : ∀ j, j ≤ ys.length → MulS (2 ^ w) fs i x ys j (mulI_ w fs i x ys j)
  | 0, _ => ⟨hf, rfl, Int.le_refl _, (by have := pow_ge2 hw; show (0 : Int) < 2 ^ w; omega), fun _ _ => rfl, by simp [mulI_, val]⟩
  | j + 1, hj => by
    have hB := pow_ge2 hw
    have S := mulI_ok hw hf hy hx0 hx1 hl j (by omega)
    have h1 := S.lim.getD hB (i + j)
    have h2 := hy.getD hB j
    have h3 := S.c0
    have h4 := S.c1
    have h5 := S.v
    have h6 := S.len
    have h7 := S.top
    have hv := val_take_succ (2 ^ w) ys j
    unfold mulI_
    rw [mask_eq, fdivB hw]
    generalize mulI_ w fs i x ys j = st at *
    generalize hy' : ys.getD j 0 = y at *
    have hfl : st.1.getD (i + j) 0 = st.1.getD (i + j) 0 := rfl
    generalize hz : st.1.getD (i + j) 0 = z at *
    have hxy : x * y ≤ (2 ^ w - 1) * (2 ^ w - 1) := Int.mul_le_mul (by omega) (by omega) (by omega) (by omega)
    have hxy0 : 0 ≤ x * y := Int.mul_nonneg hx0 h2.1
    have hq : (2 ^ w - 1) * (2 ^ w - 1) = (2 : Int) ^ w * 2 ^ w - 2 * 2 ^ w + 1 := by grind
    obtain ⟨e, m0, m1⟩ := emod_div hB (st.2 + (z + x * y))
    have d0 : 0 ≤ (st.2 + (z + x * y)) / 2 ^ w := Int.ediv_nonneg (by omega) (by omega)
    have d1 : (st.2 + (z + x * y)) / 2 ^ w < 2 ^ w := Int.ediv_lt_of_lt_mul (by omega) (by omega)
    refine ⟨S.lim.set m0 m1, by rw [List.length_set]; exact h6, d0, d1, fun k hk => ?_, ?_⟩
    · show (st.1.set _ _).getD k 0 = _
      rw [getD_set _ (i + j) k _ (by omega)]; exact h7 k (by omega)
    · show val (2 ^ w) (st.1.set (i + j) _) + _ * (2 ^ w) ^ (i + (j + 1)) = _
      rw [val_set _ (by omega), hz, hv, show i + (j + 1) = (i + j) + 1 by omega, Int.pow_succ]
      have hp : ((2 : Int) ^ w) ^ (i + j) = (2 ^ w) ^ i * (2 ^ w) ^ j := Int.pow_add ..
      generalize (st.2 + (z + x * y)) / 2 ^ w = q at *
      generalize (st.2 + (z + x * y)) % 2 ^ w = r at *
      rw [hp] at h5 ⊢
      generalize ((2 : Int) ^ w) ^ i = P at *
      generalize ((2 : Int) ^ w) ^ j = R at *
      generalize (2 : Int) ^ w = B at *
      grind
theorem mulO_ok {w : Nat} (hw : 0 < w) {xs ys : List Int} (hx : Lim (2 ^ w) xs) (hy : Lim (2 ^ w) ys) : ∀ i, i ≤ xs.length → Lim (2 ^ w) (mulO_ w xs ys i) ∧ (∀ k, i + ys.length ≤ k → (mulO_ w xs ys i).getD k 0 = 0) ∧ val (2 ^ w) (mulO_ w xs ys i) = val (2 ^ w) (xs.take i) * val (2 ^ w) ys
  | 0, _ => by
    have hB := pow_ge2 hw
    refine ⟨fun x hx => ?_, fun k _ => ?_, ?_⟩
    · rw [(List.mem_replicate.mp hx).2]; omega
    · rw [mulO_, List.getD_eq_getElem?_getD, List.getElem?_replicate]; split <;> rfl
    · rw [mulO_, List.take_zero]
      generalize xs.length + ys.length = n
      show val (2 ^ w) (List.replicate n 0) = 0 * _
      rw [Int.zero_mul]
      induction n with
      | zero => rfl
      | succ n ih => rw [List.replicate_succ]; show 0 + 2 ^ w * val (2 ^ w) (List.replicate n 0) = 0; rw [ih]; omega
  | i + 1, hi => by
    have hB := pow_ge2 hw
    obtain ⟨h1, h2, h3⟩ := mulO_ok hw hx hy i (by omega)
    have hxi := hx.getD hB i
    have hlen := mulO_len w xs ys i
    have S := mulI_ok (i := i) hw h1 hy hxi.1 hxi.2 (by omega) ys.length (Nat.le_refl _)
    rw [mulO_]
    have h4 := S.top (i + ys.length) (Nat.le_refl _)
    rw [h2 _ (Nat.le_refl _)] at h4
    have hv := S.v
    have h6 := S.len
    refine ⟨S.lim.set S.c0 S.c1, fun k hk => ?_, ?_⟩
    · rw [getD_set _ (i + ys.length) k _ (by omega), S.top k (by omega)]; exact h2 k (by omega)
    · rw [val_set (k := i + ys.length) _ (by omega), h4, val_take_succ, Int.sub_zero, hv, h3, List.take_length]
      grind
theorem mulR_dig {w : Nat} (hw : 0 < w) (a b : Nat) : nrm (mulR_ w (dig w a) (dig w b)) = dig w (a * b) := by
  obtain ⟨ca, va⟩ := can_dig hw a
  obtain ⟨cb, vb⟩ := can_dig hw b
  obtain ⟨h1, _, h3⟩ := mulO_ok hw ca.lim cb.lim (dig w a).length (Nat.le_refl _)
  obtain ⟨c, v⟩ := nrm_ok h1
  refine dig_of hw c ?_
  unfold mulR_ at *
  rw [v, h3, List.take_length, va, vb]; push_cast; rfl
theorem len1000 {wd : Nat} (hw0 : 0 < wd) {a : Nat} (h : a < 2 ^ 1000) : (dig wd a).length ≤ 1000 := dig_len hw0 _ _ h
theorem add_num {prog : Program} {w : World} {mg mb : Str → Option Value} {H : Heap} (W : Wd w mg mb H) (k : Nat) (wd : Nat) (hw0 : 0 < wd) (hw : wd ≤ 20) (a b : Nat) (ha : a < 2 ^ 1000) (hb : b < 2 ^ 1000) :
    Spec prog w H (k + 1) 67 [.d (lz (dig wd a)), .d (lz (dig wd b)), .i wd] (some (lz (dig wd (a + b)))) := by
  have h := add_spec (prog := prog) W k wd (by omega) (dig wd a) (dig wd b) (by have := len1000 hw0 ha; omega) (by have := len1000 hw0 hb; omega)
  rw [addL_dig hw0] at h; exact h
theorem sub_num {prog : Program} {w : World} {mg mb : Str → Option Value} {H : Heap} (W : Wd w mg mb H) (k : Nat) (wd : Nat) (hw0 : 0 < wd) (hw : wd ≤ 20) (a b : Nat) (ha : a < 2 ^ 1000) (hba : b ≤ a) :
    Spec prog w H (k + 2) 74 [.d (lz (dig wd a)), .d (lz (dig wd b)), .i wd] (some (lz (dig wd (a - b)))) := by
  have hb : b < 2 ^ 1000 := Nat.lt_of_le_of_lt hba ha
  have h := sub_spec (prog := prog) W k wd (by omega) (dig wd a) (dig wd b) (by have := len1000 hw0 ha; omega) (by have := len1000 hw0 hb; omega) (by rw [cmpL_dig hw0, if_neg (by omega)]; split <;> decide)
  rw [subR_dig hw0 _ _ hba] at h; exact h
theorem cmp_num {prog : Program} {w : World} {mg mb : Str → Option Value} {H : Heap} (W : Wd w mg mb H) (k : Nat) (wd : Nat) (hw0 : 0 < wd) (a b : Nat) (ha : a < 2 ^ 1000) (hb : b < 2 ^ 1000) :
    Spec prog w H (k + 1) 60 [.d (lz (dig wd a)), .d (lz (dig wd b))] (some (.int (if a < b then -1 else if a = b then 0 else 1))) := by
  have h := compare_spec (prog := prog) W k (dig wd a) (dig wd b) (by have := len1000 hw0 ha; omega) (by have := len1000 hw0 hb; omega)
  rw [cmpL_dig hw0] at h; exact h
theorem mul_num {prog : Program} {w : World} {mg mb : Str → Option Value} {H : Heap} (W : Wd w mg mb H) (k : Nat) (wd : Nat) (hw0 : 0 < wd) (hw : wd ≤ 20) (a b : Nat) (ha : a < 2 ^ 1000) (hb : b < 2 ^ 1000) :
    Spec prog w H (k + 2) 142 [.d (lz (dig wd a)), .d (lz (dig wd b)), .i wd] (some (lz (dig wd (a * b)))) := by
  have h := mul_school_spec (prog := prog) W k wd (by omega) (dig wd a) (dig wd b) (by have := len1000 hw0 ha; omega) (by have := len1000 hw0 hb; omega) (fun i => by
    have h1 := (can_dig hw0 a).1.lim.getD (pow_ge2 hw0) i
    have h3 : 2 ^ wd ≤ 2 ^ 20 := Nat.pow_le_pow_right (by decide) hw
    rw [pow_cast] at h1
    omega)
  rw [mulR_dig hw0] at h; exact h
theorem dig_len0 {wd : Nat} (hw0 : 0 < wd) (a : Nat) : decide (0 < (dig wd a).length) = decide (0 < a) := by
  by_cases h : a = 0
  · subst h; rw [dig_zero]; rfl
  · rw [dig_pos hw0 (by omega), List.length_cons]
    exact decide_eq_decide.mpr ⟨fun _ => by omega, fun _ => by omega⟩
theorem sg_of {wd : Nat} (hw0 : 0 < wd) (b : Bool) (a : Nat) (z : Int) (h : z = if b then -(a : Int) else a) : sgl (b && decide (0 < (dig wd a).length)) (dig wd a) = sg wd z := by
  subst h
  rw [dig_len0 hw0]
  unfold sg sgl
  cases b with
  | false =>
    have e1 : (if false = true then -(a : Int) else (a : Int)).natAbs = a := by simp
    have e2 : decide ((if false = true then -(a : Int) else (a : Int)) < 0) = false := by simp
    rw [e1, e2]; rfl
  | true =>
    have e1 : (if true = true then -(a : Int) else (a : Int)).natAbs = a := by simp
    have e2 : decide ((if true = true then -(a : Int) else (a : Int)) < 0) = decide (0 < a) := by
      rw [if_pos rfl]; exact decide_eq_decide.mpr (by omega)
    rw [e1, e2]; rfl
theorem signed_num {prog : Program} {w : World} {mg mb : Str → Option Value} {H : Heap} (W : Wd w mg mb H) (k : Nat) (wd : Nat) (hw0 : 0 < wd) (b : Bool) (a : Nat) (ha : a < 2 ^ 1000) (z : Int) (hz : z = if b then -(a : Int) else a) :
    Spec prog w H (k + 1) 149 [.d (.bool b), .d (lz (dig wd a))] (some (sg wd z)) := by
  have h := signed_spec (prog := prog) W k b (dig wd a) (by have := len1000 hw0 ha; omega)
  rw [← sg_of hw0 b a z hz]; exact h
theorem s_neg_num {prog : Program} {w : World} {mg mb : Str → Option Value} {H : Heap} (W : Wd w mg mb H) (k : Nat) (wd : Nat) (hw0 : 0 < wd) (z : Int) (hz : z.natAbs < 2 ^ 1000) :
    Spec prog w H (k + 2) 156 [.d (sg wd z)] (some (sg wd (-z))) := by
  have h := s_neg_spec (prog := prog) W k (decide (z < 0)) (dig wd z.natAbs) (by have := len1000 hw0 hz; omega)
  rw [sg_of hw0 (!decide (z < 0)) z.natAbs (-z) (by by_cases h : z < 0 <;> simp [h] <;> omega)] at h; exact h

set_option maxHeartbeats 4000000 in
theorem s_add_num {prog : Program} {w : World} {mg mb : Str → Option Value} {H : Heap} (W : Wd w mg mb H) (k : Nat) (wd : Nat) (hw0 : 0 < wd) (hw : wd ≤ 20) (x y : Int) (hx : x.natAbs < 2 ^ 999) (hy : y.natAbs < 2 ^ 999) :
    Spec prog w H (k + 3) 163 [.d (sg wd x), .d (sg wd y), .i wd] (some (sg wd (x + y))) := by
  have h9 : (2 : Nat) ^ 1000 = 2 ^ 999 + 2 ^ 999 := by rw [show 1000 = 999 + 1 from rfl, Nat.pow_succ]; omega
  generalize hP : (2 : Nat) ^ 999 = P at *
  intro A s G vs Q E hA hH hs ha hQ
  obtain ⟨a, _, rfl, h1, ha1⟩ := Args.dt (ds := [.bool (decide (x < 0)), lz (dig wd x.natAbs)]) ha
  obtain ⟨b, _, rfl, h2, ha2⟩ := Args.dt (ds := [.bool (decide (y < 0)), lz (dig wd y.natAbs)]) ha1
  obtain ⟨tw, _, rfl, ha3⟩ := ha2.ii
  obtain rfl := ha3.nl
  refine enter W hA hH hs (D := [(.ref a, sgl (decide (x < 0)) (dig wd x.natAbs)), (.ref b, sgl (decide (y < 0)) (dig wd y.natAbs))]) (d := some _) (binds := [(Str.ofString "x", .ref a), (Str.ofString "y", .ref b), (Str.ofString "w", .int wd tw)]) (by walk_at "mhd") (by rfl) (by rfl) (by rfl) (locs rfl) (by decide) hQ ?_
  clear hA hH hs h1 h2 hQ ha ha1 ha2 ha3
  intro A f L s hA S
  walk_at "mr"
  walk_at "mt0"
  walk_at "mr"
  walk_at "mt0"
  walk_at "mr"
  by_cases hb : decide (x < 0) = decide (y < 0)
  · rw [if_pos (by simp [hb])]
    walk_at "mr"
    walk_at "mt0"
    walk_at "mr"
    walk_at "mt1"
    walk_at "mr"
    walk_at "mt1"
    walk_at "mr"
    with_reducible refine callD (add_num W (k + 1) wd hw0 hw x.natAbs y.natAbs (by omega) (by omega)) (by assumption) ?_ ?_ ?_
    walk_at "mcall"
    intro r s' S'
    walk_at "mr"
    with_reducible refine callD (signed_num W (k + 1) wd hw0 (decide (x < 0)) (x.natAbs + y.natAbs) (by omega) (x + y) ?_) (by assumption) ?_ ?_ ?_
    · by_cases h : x < 0 <;> by_cases h' : y < 0 <;> simp [h, h'] at hb ⊢ <;> omega
    walk_at "mcall"
    intro r s' S'
    exact ⟨_, _, _, rfl, S', .mem (.head _)⟩
  · rw [if_neg (by simpa using hb)]
    walk_at "mr"
    walk_at "mt1"
    walk_at "mr"
    walk_at "mt1"
    walk_at "mr"
    with_reducible refine callI (cmp_num W (k + 1) wd hw0 x.natAbs y.natAbs (by omega) (by omega)) (by assumption) ?_ ?_ ?_
    walk_at "mcall"
    intro _ _ _
    walk_at "mr"
    by_cases hlt : x.natAbs < y.natAbs
    · rw [if_pos hlt, if_pos (by decide)]
      walk_at "mr"
      walk_at "mt0"
      walk_at "mr"
      walk_at "mt1"
      walk_at "mr"
      walk_at "mt1"
      walk_at "mr"
      with_reducible refine callD (sub_num W k wd hw0 hw y.natAbs x.natAbs (by omega) (by omega)) (by assumption) ?_ ?_ ?_
      walk_at "mcall"
      intro r s' S'
      walk_at "mr"
      with_reducible refine callD (signed_num W (k + 1) wd hw0 (decide (y < 0)) (y.natAbs - x.natAbs) (by omega) (x + y) ?_) (by assumption) ?_ ?_ ?_
      · by_cases h : x < 0 <;> by_cases h' : y < 0 <;> simp [h, h'] at hb ⊢ <;> omega
      walk_at "mcall"
      intro r s' S'
      exact ⟨_, _, _, rfl, S', .mem (.head _)⟩
    · rw [if_neg hlt, if_neg (by split <;> decide)]
      walk_at "mr"
      walk_at "mt0"
      walk_at "mr"
      walk_at "mt1"
      walk_at "mr"
      walk_at "mt1"
      walk_at "mr"
      with_reducible refine callD (sub_num W k wd hw0 hw x.natAbs y.natAbs (by omega) (by omega)) (by assumption) ?_ ?_ ?_
      walk_at "mcall"
      intro r s' S'
      walk_at "mr"
      with_reducible refine callD (signed_num W (k + 1) wd hw0 (decide (x < 0)) (x.natAbs - y.natAbs) (by omega) (x + y) ?_) (by assumption) ?_ ?_ ?_
      · by_cases h : x < 0 <;> by_cases h' : y < 0 <;> simp [h, h'] at hb ⊢ <;> omega
      walk_at "mcall"
      intro r s' S'
      exact ⟨_, _, _, rfl, S', .mem (.head _)⟩
theorem pow_split (m n : Nat) : (2 : Nat) ^ (m + n) = 2 ^ m * 2 ^ n := Nat.pow_add ..
set_option maxHeartbeats 4000000 in
theorem s_sub_num {prog : Program} {w : World} {mg mb : Str → Option Value} {H : Heap} (W : Wd w mg mb H) (k : Nat) (wd : Nat) (hw0 : 0 < wd) (hw : wd ≤ 20) (x y : Int) (hx : x.natAbs < 2 ^ 999) (hy : y.natAbs < 2 ^ 999) :
    Spec prog w H (k + 4) 170 [.d (sg wd x), .d (sg wd y), .i wd] (some (sg wd (x - y))) := by
  have h9 : (2 : Nat) ^ 999 ≤ 2 ^ 1000 := Nat.pow_le_pow_right (by decide) (by decide)
  intro A s G vs Q E hA hH hs ha hQ
  obtain ⟨a, _, rfl, h1, ha1⟩ := Args.dt (ds := [.bool (decide (x < 0)), lz (dig wd x.natAbs)]) ha
  obtain ⟨b, _, rfl, h2, ha2⟩ := Args.dt (ds := [.bool (decide (y < 0)), lz (dig wd y.natAbs)]) ha1
  obtain ⟨tw, _, rfl, ha3⟩ := ha2.ii
  obtain rfl := ha3.nl
  refine enter W hA hH hs (D := [(.ref a, sg wd x), (.ref b, sg wd y)]) (d := some _) (binds := [(Str.ofString "x", .ref a), (Str.ofString "y", .ref b), (Str.ofString "w", .int wd tw)]) (by walk_at "mhd") (by rfl) (by rfl) (by rfl) (locs rfl) (by decide) hQ ?_
  clear hA hH hs h1 h2 hQ ha ha1 ha2 ha3
  intro A f L s hA S
  walk_at "mr"
  with_reducible refine callT (ds := [.bool (decide (-y < 0)), lz (dig wd (-y).natAbs)]) (s_neg_num W (k + 1) wd hw0 y (Nat.lt_of_lt_of_le hy h9)) (by assumption) ?_ ?_ ?_
  walk_at "mcall"
  intro r s' S'
  walk_at "mr"
  with_reducible refine callD (s_add_num W k wd hw0 hw x (-y) hx (by rw [Int.natAbs_neg]; exact hy)) (by assumption) ?_ ?_ ?_
  · walk_at "mok"
  · refine KArgs.d (by walk_at "mkn") (KArgs.d (Kn.mem (show _ ∈ _ from .head _)) (KArgs.i _ _ .nil))
  intro r s' S'
  exact ⟨_, _, _, rfl, S', .mem (.head _)⟩
theorem sg_mul (x y : Int) : x * y = if (!(decide (decide (x < 0) = decide (y < 0)))) = true then -((x.natAbs * y.natAbs : Nat) : Int) else ((x.natAbs * y.natAbs : Nat) : Int) := by
  push_cast
  by_cases hx : x < 0 <;> by_cases hy : y < 0
  · have e1 : ((x.natAbs : Nat) : Int) = -x := by omega
    have e2 : ((y.natAbs : Nat) : Int) = -y := by omega
    simp only [hx, hy, e1, e2, decide_true, decide_false, Bool.not_true, Bool.false_eq_true, if_false, Int.neg_mul_neg]
  · have e1 : ((x.natAbs : Nat) : Int) = -x := by omega
    have e2 : ((y.natAbs : Nat) : Int) = y := by omega
    simp [hx, hy]
    grind
  · have e1 : ((x.natAbs : Nat) : Int) = x := by omega
    have e2 : ((y.natAbs : Nat) : Int) = -y := by omega
    simp [hx, hy]
    grind
  · have e1 : ((x.natAbs : Nat) : Int) = x := by omega
    have e2 : ((y.natAbs : Nat) : Int) = y := by omega
    simp [hx, hy]
    grind
set_option maxHeartbeats 4000000 in
theorem s_mul_num {prog : Program} {w : World} {mg mb : Str → Option Value} {H : Heap} (W : Wd w mg mb H) (k : Nat) (wd : Nat) (hw0 : 0 < wd) (hw : wd ≤ 20) (x y : Int) (hx : x.natAbs < 2 ^ 400) (hy : y.natAbs < 2 ^ 400) :
    Spec prog w H (k + 3) 177 [.d (sg wd x), .d (sg wd y), .i wd, .v (.ref 142)] (some (sg wd (x * y))) := by
  have h9 : (2 : Nat) ^ 400 ≤ 2 ^ 1000 := Nat.pow_le_pow_right (by decide) (by decide)
  have h8 : x.natAbs * y.natAbs < 2 ^ 1000 := by
    have h7 : (2 : Nat) ^ 400 * 2 ^ 400 ≤ 2 ^ 1000 := by rw [← pow_split]; exact Nat.pow_le_pow_right (by decide) (by decide)
    exact Nat.lt_of_lt_of_le (Nat.mul_lt_mul'' hx hy) h7
  have hx' := Nat.lt_of_lt_of_le hx h9
  have hy' := Nat.lt_of_lt_of_le hy h9
  generalize hP : (2 : Nat) ^ 400 = P at *
  intro A s G vs Q E hA hH hs ha hQ
  obtain ⟨a, _, rfl, h1, ha1⟩ := Args.dt (ds := [.bool (decide (x < 0)), lz (dig wd x.natAbs)]) ha
  obtain ⟨b, _, rfl, h2, ha2⟩ := Args.dt (ds := [.bool (decide (y < 0)), lz (dig wd y.natAbs)]) ha1
  obtain ⟨tw, _, rfl, ha3⟩ := ha2.ii
  obtain ⟨_, rfl, ha4⟩ := ha3.vv
  obtain rfl := ha4.nl
  refine enter W hA hH hs (D := [(.ref a, sgl (decide (x < 0)) (dig wd x.natAbs)), (.ref b, sgl (decide (y < 0)) (dig wd y.natAbs))]) (d := some _) (binds := [(Str.ofString "x", .ref a), (Str.ofString "y", .ref b), (Str.ofString "w", .int wd tw), (Str.ofString "mul", .ref 142)]) (by walk_at "mhd") (by rfl) (by rfl) (by rfl) (locs rfl) (by decide) hQ ?_
  clear hA hH hs h1 h2 hQ ha ha1 ha2 ha3 ha4
  intro A f L s hA S
  walk_at "mr"
  walk_at "mt0"
  walk_at "mr"
  walk_at "mt0"
  walk_at "mr"
  walk_at "mt1"
  walk_at "mr"
  walk_at "mt1"
  walk_at "mr"
  with_reducible refine callD (mul_num W k wd hw0 hw x.natAbs y.natAbs hx' hy') (by assumption) ?_ ?_ ?_
  walk_at "mcall"
  intro r s' S'
  walk_at "mr"
  with_reducible refine callD (signed_num W (k + 1) wd hw0 (!decide (decide (x < 0) = decide (y < 0))) (x.natAbs * y.natAbs) h8 (x * y) (sg_mul x y)) (by assumption) ?_ ?_ ?_
  · walk_at "mok"
  · have e : (!decide (decide (x < 0) = decide (y < 0))) = (decide (x < 0) != decide (y < 0)) := by cases decide (x < 0) <;> cases decide (y < 0) <;> rfl
    rw [e]
    walk_at "mka"
  intro r s' S'
  exact ⟨_, _, _, rfl, S', .mem (.head _)⟩
set_option maxHeartbeats 4000000 in
theorem law_times_num {prog : Program} {w : World} {mg mb : Str → Option Value} {H : Heap} (W : Wd w mg mb H) (k : Nat) (wd : Nat) (hw0 : 0 < wd) (hw : wd ≤ 20) (a : Nat) (y : Int) (hx : a < 2 ^ 400) (hy : y.natAbs < 2 ^ 400) :
    Spec prog w H (k + 4) 217 [.d (lz (dig wd a)), .d (sg wd y), .i wd] (some (sg wd (a * y))) := by
  intro A s G vs Q E hA hH hs ha hQ
  obtain ⟨a, _, rfl, h1, ha1⟩ := ha.dl
  obtain ⟨b, _, rfl, h2, ha2⟩ := Args.dt (ds := [.bool (decide (y < 0)), lz (dig wd y.natAbs)]) ha1
  obtain ⟨tw, _, rfl, ha3⟩ := ha2.ii
  obtain rfl := ha3.nl
  rename_i an
  refine enter W hA hH hs (D := [(.ref a, lz (dig wd an)), (.ref b, sg wd y)]) (d := some _) (binds := [(Str.ofString "nat", .ref a), (Str.ofString "x", .ref b), (Str.ofString "w", .int wd tw)]) (by walk_at "mhd") (by rfl) (by rfl) (by rfl) (locs rfl) (by decide) hQ ?_
  clear hA hH hs h1 h2 hQ ha ha1 ha2 ha3
  intro A f L s hA S
  walk_at "mr"
  have e : sgl false (dig wd an) = sg wd (an : Int) := by
    unfold sg sgl
    have : decide ((an : Int) < 0) = false := by simp
    rw [this, Int.natAbs_natCast]
  with_reducible refine newTD (ds := [.bool false, lz (dig wd an)]) (by assumption) ?_ ?_ (Nat.le_of_ble_eq_true rfl)
  · exact .cons (Kn.bool _) (.cons (Kn.mem (by k_mem)) .nil)
  intro t s' S'
  rw [show PyData.tuple [.bool false, lz (dig wd an)] = sg wd (an : Int) from e] at S'
  walk_at "mr"
  with_reducible refine callD (s_mul_num W k wd hw0 hw an y (by rw [Int.natAbs_natCast]; exact hx) hy) (by assumption) ?_ ?_ ?_
  walk_at "mcall"
  intro r s' S'
  exact ⟨_, _, _, rfl, S', .mem (.head _)⟩
theorem dig_one {wd : Nat} (hw0 : 0 < wd) : dig wd 1 = [1] := by
  have h2 : 1 < 2 ^ wd := Nat.one_lt_two_pow (by omega)
  rw [dig_pos hw0 (by decide), Nat.mod_eq_of_lt h2, Nat.div_eq_of_lt h2, dig_zero]; rfl
theorem pow_step (y m : Nat) : y ^ m = y ^ (m % 2) * (y * y) ^ (m / 2) := by
  have h := Nat.mod_add_div m 2
  calc y ^ m = y ^ (m % 2 + 2 * (m / 2)) := by rw [h]
    _ = y ^ (m % 2) * (y * y) ^ (m / 2) := by rw [Nat.pow_add, Nat.pow_mul, Nat.pow_two]
theorem le_pow_self' {y m : Nat} (hy : 1 ≤ y) (hm : 1 ≤ m) : y ≤ y ^ m := by
  calc y = y ^ 1 := (Nat.pow_one y).symm
    _ ≤ y ^ m := Nat.pow_le_pow_right hy hm
set_option maxHeartbeats 4000000 in
theorem power_of_count_num {prog : Program} {w : World} {mg mb : Str → Option Value} {H : Heap} (W : Wd w mg mb H) (k : Nat) (wd : Nat) (hw0 : 0 < wd) (hw : wd ≤ 20) (p n : Nat) (hp : 1 ≤ p) (hp2 : p < 2 ^ 1000) (hN : p ^ n < 2 ^ 1000) :
    Spec prog w H (k + 3) 95 [.i p, .i n, .i wd, .v (.ref 142)] (some (lz (dig wd (p ^ n)))) := by
  intro A s G vs Q E hA hH hs ha hQ
  obtain ⟨tp, _, rfl, ha1⟩ := ha.ii
  obtain ⟨tn, _, rfl, ha2⟩ := ha1.ii
  obtain ⟨tw, _, rfl, ha3⟩ := ha2.ii
  obtain ⟨_, rfl, ha4⟩ := ha3.vv
  obtain rfl := ha4.nl
  refine enter W hA hH hs (D := []) (d := some _) (binds := [(Str.ofString "base", .int p tp), (Str.ofString "many", .int n tn), (Str.ofString "w", .int wd tw), (Str.ofString "mul", .ref 142)]) (by walk_at "mhd") (by rfl) (by rfl) (by rfl) (locs rfl) (by decide) hQ ?_
  clear hA hH hs hQ ha ha1 ha2 ha3 ha4
  intro A f L s hA S
  generalize hB : (2 : Nat) ^ 1000 = B at *
  refine wpAny_execs_cons ?_
  with_reducible refine cut (P := fun s => St H f [(L, .ns [(Str.ofString "found", .d (lz (dig wd 1))), (Str.ofString "square", .d (lz (dig wd p))), (Str.ofString "many", .i n), (Str.ofString "w", .i wd), (Str.ofString "mul", .v (.ref 142))])] [] s) ?_ ?_
  · walk_at "mr"
    rename_i z _ S1
    have S1 := St.freeze S1 1 rfl
    simp only [List.eraseIdx_cons_succ, List.eraseIdx_cons_zero] at S1
    rw [show PyData.list [PyData.int 1] = lz (dig wd 1) from by rw [dig_one hw0]; rfl] at S1
    with_reducible refine callR (nat_of_spec W (k + 1) wd hw0 (by omega) p (by rw [hB]; exact hp2)) S1 ?_ ?_ ?_
    walk_at "mcall"
    intro r s' S'
    walk_at "mr"
    walk_at "mtup"
    walk_at "mr"
    exact ⟨by first | rfl | trivial, by walk_at "mst"⟩
  clear S
  rintro s S
  refine wpAny_execs_cons ?_
  with_reducible refine cut (P := fun s => St H f [(L, .ns [(Str.ofString "found", .d (lz (dig wd (p ^ n))))])] [] s) ?_ ?_
  · refine While_ (fun m s => ∃ x y, 1 ≤ x ∧ 1 ≤ y ∧ x * y ^ m = p ^ n ∧ y < B ∧ St H f [(L, .ns [(Str.ofString "found", .d (lz (dig wd x))), (Str.ofString "square", .d (lz (dig wd y))), (Str.ofString "many", .i (m : Nat)), (Str.ofString "w", .i wd), (Str.ofString "mul", .v (.ref 142))])] [] s) n
      ⟨1, p, Nat.le_refl _, hp, Nat.one_mul _, hp2, S⟩ ?_
    clear S
    rintro m s ⟨x, y, hx, hy, hxy, hyB, S⟩ E'
    walk_at "mr"
    by_cases h0 : 0 < (m : Int)
    · walk_at "mpos"
      have hstep := pow_step y m
      have hlt : m / 2 < m := Nat.div_lt_self (by omega) (by decide)
      refine wpAny_execs_cons ?_
      with_reducible refine cut (P := fun s => St H f [(L, .ns [(Str.ofString "found", .d (lz (dig wd (x * y ^ (m % 2))))), (Str.ofString "square", .d (lz (dig wd y))), (Str.ofString "many", .i (m : Nat)), (Str.ofString "w", .i wd), (Str.ofString "mul", .v (.ref 142))])] [] s) ?_ ?_
      · walk_at "mr"
        rw [fmod_lit2]
        by_cases hodd : m % 2 = 1
        · rw [if_pos (by rw [hodd]; rfl)]
          walk_at "mr"
          have hxB : x < B := by
            have : x * 1 ≤ x * y ^ m := Nat.mul_le_mul_left _ (Nat.pow_pos hy)
            omega
          with_reducible refine callR (mul_num W k wd hw0 hw x y (by rw [hB]; exact hxB) (by rw [hB]; exact hyB)) (by assumption) ?_ ?_ ?_
          walk_at "mcall"
          intro r s' S'
          walk_at "mr"
          rw [hodd, Nat.pow_one]
          exact ⟨by first | rfl | trivial, by walk_at "mst"⟩
        · have he : m % 2 = 0 := by omega
          rw [if_neg (by rw [he]; decide)]
          walk_at "mr"
          rw [he, Nat.pow_zero, Nat.mul_one]
          exact ⟨by first | rfl | trivial, by walk_at "mst"⟩
      clear S
      intro s S
      refine wpAny_execs_cons ?_
      with_reducible refine cut (P := fun s => St H f [(L, .ns [(Str.ofString "found", .d (lz (dig wd (x * y ^ (m % 2))))), (Str.ofString "square", .d (lz (dig wd y))), (Str.ofString "many", .i (m / 2 : Nat)), (Str.ofString "w", .i wd), (Str.ofString "mul", .v (.ref 142))])] [] s) ?_ ?_
      · walk_at "mr"
        rw [show ((m : Int).fdiv 2) = ((m / 2 : Nat) : Int) from fdiv_nat m 2] at *
        exact ⟨by first | rfl | trivial, by walk_at "mst"⟩
      clear S
      intro s S
      have hx' : 1 ≤ x * y ^ (m % 2) := Nat.mul_pos hx (Nat.pow_pos hy)
      walk_at "mr"
      by_cases h2 : m / 2 = 0
      · rw [if_neg (by rw [h2]; decide)]
        walk_at "mr"
        refine ⟨m / 2, hlt, x * y ^ (m % 2), y, hx', hy, ?_, hyB, by assumption⟩
        rw [← hxy, hstep, h2, Nat.pow_zero, Nat.pow_zero]; simp
      · have h2' : 0 < m / 2 := by omega
        rw [if_pos (by simp; omega)]
        walk_at "mr"
        with_reducible refine callR (mul_num W k wd hw0 hw y y (by rw [hB]; exact hyB) (by rw [hB]; exact hyB)) (by assumption) ?_ ?_ ?_
        walk_at "mcall"
        intro r s' S'
        walk_at "mr"
        refine ⟨m / 2, hlt, x * y ^ (m % 2), y * y, hx', Nat.mul_pos hy hy, ?_, ?_, by walk_at "mst"⟩
        · rw [← hxy, hstep, Nat.mul_assoc]
        · have e1 : y * y ≤ (y * y) ^ (m / 2) := le_pow_self' (Nat.mul_pos hy hy) h2'
          have e2 : 1 * (y * y) ^ (m / 2) ≤ (x * y ^ (m % 2)) * (y * y) ^ (m / 2) := Nat.mul_le_mul_right _ hx'
          rw [Nat.mul_assoc, ← hstep, hxy] at e2
          omega
    · walk_at "mneg"
      have hn0 : m = 0 := by omega
      subst hn0
      rw [Nat.pow_zero, Nat.mul_one] at hxy
      subst hxy
      exact ⟨by first | rfl | trivial, by walk_at "mst"⟩
  clear S
  intro s S
  walk_at "mr"
  exact ⟨_, _, _, rfl, by assumption, .mem (.head _)⟩
def strike (fl : List Bool) (one : Nat) : Nat → List Bool
  | 0 => fl
  | j + 1 => (strike fl one j).set (one * one + j * one) false
theorem strike_len (fl : List Bool) (one : Nat) : ∀ j, (strike fl one j).length = fl.length
  | 0 => rfl
  | j + 1 => by rw [strike, List.length_set, strike_len fl one j]
def cntS (n one : Nat) : Nat := if one * one ≤ n then (n - one * one) / one + 1 else 0
def sv (n : Nat) : Nat → List Bool × List Int
  | 0 => (List.replicate (n + 1) true, [])
  | i + 1 => if (sv n i).1.getD (2 + i) true then (strike (sv n i).1 (2 + i) (cntS n (2 + i)), (sv n i).2 ++ [((2 + i : Nat) : Int)]) else sv n i
theorem sv_len (n : Nat) : ∀ i, (sv n i).1.length = n + 1
  | 0 => by simp [sv]
  | i + 1 => by rw [sv]; split; (· rw [strike_len, sv_len n i]); (· exact sv_len n i)
theorem sv_len2 (n : Nat) : ∀ i, (sv n i).2.length ≤ i
  | 0 => by simp [sv]
  | i + 1 => by
    have := sv_len2 n i
    rw [sv]; split
    · rw [List.length_append]; show _ + 1 ≤ _; omega
    · omega
def sieveL (n : Nat) : List Int := (sv n (n - 1)).2
theorem flat_repB (n : Nat) : (List.replicate n [PyData.bool true]).flatten = (List.replicate n true).map PyData.bool := by
  induction n with
  | zero => rfl
  | succ n ih => rw [List.replicate_succ, List.replicate_succ, List.flatten_cons, ih]; rfl
theorem range_cnt (n one : Nat) (h1 : 0 < one) : Builtin.Range.rangeSize ((one : Int) * one) ((n : Int) + 1) one = cntS n one := by
  unfold Builtin.Range.rangeSize cntS
  rw [if_pos (show (one : Int) > 0 by omega)]
  by_cases h : one * one ≤ n
  · have h' : (one : Int) * one < (n : Int) + 1 := by have := Int.ofNat_le.mpr h; push_cast at this; omega
    rw [if_pos h, if_pos h']
    have : (n : Int) + 1 - (one : Int) * one - 1 = ((n - one * one : Nat) : Int) := by rw [Int.ofNat_sub h]; push_cast; omega
    rw [this]; rfl
  · have h' : ¬ (one : Int) * one < (n : Int) + 1 := by have := Int.ofNat_lt.mpr (Nat.lt_of_not_le h); push_cast at this; omega
    rw [if_neg h, if_neg h']; rfl
theorem bz_get {fl : List Bool} {k : Nat} (h : k < fl.length) : (fl.map PyData.bool)[k]? = some (.bool (fl.getD k true)) := by
  rw [List.getElem?_map, List.getElem?_eq_getElem h]; simp [List.getD, h]
theorem cnt_idx {n one j : Nat} (h1 : 0 < one) (hj : j < cntS n one) : one * one + j * one ≤ n := by
  unfold cntS at hj
  split at hj
  · rename_i h
    have h2 : j ≤ (n - one * one) / one := by omega
    have h3 := Nat.mul_le_of_le_div _ _ _ h2
    omega
  · omega

set_option maxHeartbeats 4000000 in
theorem sieve_spec {prog : Program} {w : World} {mg mb : Str → Option Value} {H : Heap} (W : Wd w mg mb H) (k : Nat) (n : Nat) (hn : n ≤ 1000) :
    Spec prog w H (k + 1) 81 [.i n] (some (lz (sieveL n))) := by
  intro A s G vs Q E hA hH hs ha hQ
  obtain ⟨ta, _, rfl, ha1⟩ := ha.ii
  obtain rfl := ha1.nl
  refine enter W hA hH hs (D := []) (d := some _) (binds := [(Str.ofString "n", .int n ta)]) (by walk_at "mhd") (by rfl) (by rfl) (by rfl) (locs rfl) (by decide) hQ ?_
  clear hA hH hs hQ ha ha1
  intro A f L s hA S
  refine wpAny_execs_cons ?_
  with_reducible refine cut (P := fun s => ∃ z, St H f [(L, .ns [(Str.ofString "is_left", .v (.ref z)), (Str.ofString "n", .i n)]), (z, .list ((List.replicate (n + 1) true).map .bool))] [] s) ?_ ?_
  · walk_at "mr"
    with_reducible refine newLM (ds := [.bool true]) (by assumption) ?_ ?_ (Nat.le_of_ble_eq_true rfl)
    · exact .cons (Kn.bool _) .nil
    intro z s' S'
    walk_at "mr"
    with_reducible refine mulL (ds := [.bool true]) (by assumption) ?_ ?_ ?_ ?_ ?_
    · walk_at "mhas"
    · omega
    · omega
    · show 1 * _ ≤ _
      omega
    intro z s' S'
    rw [flat_repB] at S'
    have e : ((n : Int) + 1).toNat = n + 1 := by omega
    rw [e] at S'
    walk_at "mr"
    exact ⟨by first | rfl | trivial, _, by walk_at "mst"⟩
  clear S
  rintro s ⟨z, S⟩
  refine wpAny_execs_cons ?_
  with_reducible refine cut (P := fun s => ∃ y, St H f [(L, .ns [(Str.ofString "found", .v (.ref y)), (Str.ofString "is_left", .v (.ref z)), (Str.ofString "n", .i n)]), (y, .list []), (z, .list ((List.replicate (n + 1) true).map .bool))] [] s) ?_ ?_
  · walk_at "mr"
    exact ⟨by first | rfl | trivial, _, by walk_at "mst"⟩
  clear S
  rintro s ⟨y, S⟩
  refine wpAny_execs_cons ?_
  with_reducible refine cut (P := fun s => St H f [(L, .ns [(Str.ofString "found", .v (.ref y))]), (y, .list ((sieveL n).map .int))] [] s) ?_ ?_
  · walk_at "mfor"
    walk_at "mr"
    walk_at "mr2"
    with_reducible refine iterR1 (n - 1) (by assumption) (by omega) (by omega) (by omega) (by omega) (by omega) ?_
    intro I s₁ S₁
    with_reducible refine LoopR hA (fun _ => True) (fun i => [(Str.ofString "found", .v (.ref y)), (Str.ofString "is_left", .v (.ref z)), (Str.ofString "n", .i n)]) (fun i => [(y, .list ((sv n i).2.map .int)), (z, .list ((sv n i).1.map .bool))]) trivial S₁ ?_ ?_ ?_ ?_ ?_ ?_ ?_
    walk_at "ml3"
    rotate_left 1
    · exact fun s _ S => ⟨by first | rfl | trivial, by walk_at "mst"⟩
    clear S S₁
    intro i s t hi _ S E'
    have ei : ((2 : Int) + i * 1) = ((2 + i : Nat) : Int) := by push_cast; omega
    rw [ei] at S
    have hl1 := sv_len n i
    have hl2 := sv_len2 n i
    rw [show sv n (i + 1) = if (sv n i).1.getD (2 + i) true then (strike (sv n i).1 (2 + i) (cntS n (2 + i)), (sv n i).2 ++ [((2 + i : Nat) : Int)]) else sv n i from rfl]
    generalize hst : sv n i = st at *
    generalize hone : 2 + i = one at *
    have h1 : 2 ≤ one := by omega
    have ho : one ≤ n := by omega
    walk_at "mr"
    with_reducible refine itemB (by assumption) ?_ (by omega) (bz_get (fl := st.1) (k := one) (by omega)) (by omega) ?_ ?_
    · walk_at "mhas"
    · walk_at "mr"
      by_cases hb : st.1.getD one true = true
      · rw [if_pos hb, if_pos hb]
        refine wpAny_execs_cons ?_
        with_reducible refine cut (P := fun s => St H f [(L, .ns [(Str.ofString "one", .i (one : Nat)), (Str.ofString "found", .v (.ref y)), (Str.ofString "is_left", .v (.ref z)), (Str.ofString "n", .i n)]), (I, .raw (rgs 2 1 (n - 1) (i + 1))), (y, .list ((st.2 ++ [((one : Nat) : Int)]).map .int)), (z, .list (st.1.map .bool))] [] s) ?_ ?_
        · walk_at "mr"
          refine appL (by assumption) 2 (by rfl) (Kn.int _ _) (by rw [List.length_map]; show _ ≤ 2 ^ 24; omega) ?_
          walk_at "mstc"
          rw [map_snoc]
          walk_at "mr"
          exact ⟨by first | rfl | trivial, by walk_at "mst"⟩
        clear S
        intro s S
        walk_at "mr"
        walk_at "mfor"
        walk_at "mr"
        with_reducible refine range3 (by assumption) ?_ ?_ ?_
        · omega
        · omega
        intro _ _ _
        have hc40 : cntS n one < 2 ^ 40 := by
          have : cntS n one ≤ n + 1 := by
            unfold cntS
            split
            · have := Nat.div_le_self (n - one * one) one
              omega
            · omega
          omega
        have hoo : (one : Int) * one < 2 ^ 40 := by
          have h4 : one * one ≤ 1000 * 1000 := Nat.mul_le_mul (by omega) (by omega)
          rw [← Int.natCast_mul]
          omega
        have hoo0 : 0 ≤ (one : Int) * one := Int.mul_nonneg (by omega) (by omega)
        with_reducible refine iterRs (cntS n one) (by assumption) ?_ (range_cnt n one (by omega)) hc40 ?_ ?_ ?_ ?_ ?_ ?_ ?_
        · omega
        · omega
        · omega
        · omega
        · omega
        · omega
        · omega
        intro J s₂ S₂
        with_reducible refine LoopR hA (fun _ => True) (fun j => [(Str.ofString "found", .v (.ref y)), (Str.ofString "is_left", .v (.ref z)), (Str.ofString "n", .i n)]) (fun j => [(I, .raw (rgs 2 1 (n - 1) (i + 1))), (y, .list ((st.2 ++ [((one : Nat) : Int)]).map .int)), (z, .list ((strike st.1 one j).map .bool))]) trivial S₂ ?_ ?_ ?_ ?_ ?_ ?_ ?_
        walk_at "ml3"
        rotate_left 1
        · intro s _ S
          walk_at "mr"
          exact ⟨trivial, by walk_at "mst"⟩
        clear S S₂
        intro j s t hj _ S E''
        have hix := cnt_idx (by omega) hj
        have hlen := strike_len st.1 one j
        rw [show (strike st.1 one (j + 1)).map PyData.bool = ((strike st.1 one j).map PyData.bool).set (one * one + j * one) (PyData.bool false) from by rw [strike, List.map_set]]
        have ek : ((one : Int) * one + j * one).toNat = one * one + j * one := by
          have : ((one : Int) * one + j * one) = ((one * one + j * one : Nat) : Int) := by push_cast; rfl
          rw [this, Int.toNat_natCast]
        have ek2 : ((one : Int) * one + j * one) = ((one * one + j * one : Nat) : Int) := by push_cast; rfl
        walk_at "mr"
        refine setL (by assumption) 4 (by rfl) (Kn.bool _) (by omega) (by rw [List.length_map]; omega) (by rw [List.length_map]; show _ ≤ 2 ^ 24; omega) ?_
        walk_at "mstc"
        rw [ek] at *
        walk_at "mr"
        exact ⟨trivial, by walk_at "mst"⟩
      · rw [if_neg hb, if_neg hb]
        walk_at "mr"
        exact ⟨trivial, by walk_at "mst"⟩
    · with_unfolding_all rfl
  clear S
  intro s S
  walk_at "mr"
  have S' := St.freeze S 1 rfl
  exact ⟨_, _, _, rfl, S', .mem (.head _)⟩
abbrev pz (ps : List (Nat × Nat)) : PyData := .list (ps.map fun p => .tuple [.int p.1, .int p.2])
def pv : List (Nat × Nat) → Nat
  | [] => 1
  | p :: r => p.1 ^ p.2 * pv r
theorem pv_split (h : Nat) : ∀ ps : List (Nat × Nat), pv (ps.take h) * pv (ps.drop h) = pv ps := by
  induction h with
  | zero => intro ps; simp [pv]
  | succ h ih =>
    intro ps
    cases ps with
    | nil => rfl
    | cons p r => rw [List.take_succ_cons, List.drop_succ_cons, pv, pv, Nat.mul_assoc, ih]
theorem pv_pos : ∀ {ps : List (Nat × Nat)}, (∀ p ∈ ps, 1 ≤ p.1) → 1 ≤ pv ps
  | [], _ => Nat.le_refl _
  | p :: r, h => Nat.mul_pos (Nat.pow_pos (h p (.head _))) (pv_pos fun q hq => h q (.tail _ hq))
set_option maxHeartbeats 4000000 in
theorem product_num {prog : Program} {w : World} {mg mb : Str → Option Value} {H : Heap} (W : Wd w mg mb H) (k : Nat) (wd : Nat) (hw0 : 0 < wd) (hw : wd ≤ 20) (n : Nat) : ∀ (ps : List (Nat × Nat)), ps.length ≤ n → n ≤ 1000 → (∀ p ∈ ps, 1 ≤ p.1 ∧ p.1 < 2 ^ 1000) → pv ps < 2 ^ 1000 →
    Spec prog w H (k + 5 + n) 102 [.d (pz ps), .i wd, .v (.ref 142)] (some (lz (dig wd (pv ps)))) := by
  generalize hB : (2 : Nat) ^ 1000 = B
  induction n with
  | zero =>
    intro ps hn _ _ _
    have : ps = [] := List.length_eq_zero_iff.mp (by omega)
    subst this
    intro A s G vs Q E hA hH hs ha hQ
    obtain ⟨a, _, rfl, h1, ha1⟩ := ha.dl
    obtain ⟨tw, _, rfl, ha3⟩ := ha1.ii
    obtain ⟨_, rfl, ha4⟩ := ha3.vv
    obtain rfl := ha4.nl
    refine enter W hA hH hs (D := [(.ref a, pz [])]) (d := some _) (binds := [(Str.ofString "pairs", .ref a), (Str.ofString "w", .int wd tw), (Str.ofString "mul", .ref 142)]) (by walk_at "mhd") (by rfl) (by rfl) (by rfl) (locs rfl) (by decide) hQ ?_
    clear hA hH hs hQ ha ha1 ha3 ha4
    intro A f L s hA S
    walk_at "mr"
    walk_at "mpos"
    walk_at "mr"
    rename_i z _ S1
    have S1 := St.freeze S1 1 rfl
    rw [show PyData.list [PyData.int 1] = lz (dig wd (pv [])) from by rw [pv, dig_one hw0]; rfl] at S1
    exact ⟨_, _, _, rfl, S1, .mem (.head _)⟩
  | succ n ih =>
    intro ps hn hn2 hp hv
    intro A s G vs Q E hA hH hs ha hQ
    obtain ⟨a, _, rfl, h1, ha1⟩ := ha.dl
    obtain ⟨tw, _, rfl, ha3⟩ := ha1.ii
    obtain ⟨_, rfl, ha4⟩ := ha3.vv
    obtain rfl := ha4.nl
    refine enter W hA hH hs (D := [(.ref a, pz ps)]) (d := some _) (binds := [(Str.ofString "pairs", .ref a), (Str.ofString "w", .int wd tw), (Str.ofString "mul", .ref 142)]) (by walk_at "mhd") (by rfl) (by rfl) (by rfl) (locs rfl) (by decide) hQ ?_
    clear hA hH hs hQ ha ha1 ha3 ha4
    intro A f L s hA S
    replace hA : Ok (k + 5 + n) A := hA
    by_cases h0 : ps.length = 0
    · have : ps = [] := List.length_eq_zero_iff.mp (by omega)
      subst this
      walk_at "mr"
      walk_at "mpos"
      walk_at "mr"
      rename_i z _ S1
      have S1 := St.freeze S1 1 rfl
      rw [show PyData.list [PyData.int 1] = lz (dig wd (pv [])) from by rw [pv, dig_one hw0]; rfl] at S1
      exact ⟨_, _, _, rfl, S1, .mem (.head _)⟩
    refine wpAny_execs_cons ?_
    with_reducible refine cut (P := fun s => St H f [(L, .ns [(Str.ofString "pairs", .v (.ref a)), (Str.ofString "w", .i wd), (Str.ofString "mul", .v (.ref 142))])] [(.ref a, pz ps)] s) ?_ ?_
    · walk_at "mr"
      walk_at "mneg"
      walk_at "mr"
      exact ⟨by first | rfl | trivial, by walk_at "mst"⟩
    clear S
    intro s S
    by_cases h1' : ps.length = 1
    · obtain ⟨⟨p, e⟩, rfl⟩ := List.length_eq_one_iff.mp h1'
      have hpe := hp (p, e) (.head _)
      walk_at "mr"
      walk_at "mpos"
      walk_at "mr"
      with_reducible refine itemRT (ds := [.tuple [.int p, .int e]]) (es := [.int p, .int e]) (by assumption) ?_ (by omega) ?_ (by omega) ?_ ?_
      · walk_at "mhas"
      · rfl
      rotate_left 1
      · with_unfolding_all rfl
      intro b S'
      walk_at "mr"
      walk_at "mt0"
      walk_at "mr"
      with_reducible refine itemRT (ds := [.tuple [.int p, .int e]]) (es := [.int p, .int e]) (by assumption) ?_ (by omega) ?_ (by omega) ?_ ?_
      · walk_at "mhas"
      · rfl
      rotate_left 1
      · with_unfolding_all rfl
      intro b S'
      walk_at "mr"
      walk_at "mt1"
      walk_at "mr"
      have ev : pv [(p, e)] = p ^ e := by simp [pv]
      rw [ev] at hv ⊢
      with_reducible refine callD (power_of_count_num W (k + 2 + n) wd hw0 hw p e hpe.1 (by rw [hB]; exact hpe.2) (by rw [hB]; exact hv)) (by assumption) ?_ ?_ ?_
      walk_at "mcall"
      intro r s' S'
      exact ⟨_, _, _, rfl, S', .mem (.head _)⟩
    refine wpAny_execs_cons ?_
    with_reducible refine cut (P := fun s => St H f [(L, .ns [(Str.ofString "pairs", .v (.ref a)), (Str.ofString "w", .i wd), (Str.ofString "mul", .v (.ref 142))])] [(.ref a, pz ps)] s) ?_ ?_
    · walk_at "mr"
      walk_at "mneg"
      walk_at "mr"
      exact ⟨by first | rfl | trivial, by walk_at "mst"⟩
    clear S
    intro s S
    generalize hh : ps.length / 2 = half
    refine wpAny_execs_cons ?_
    with_reducible refine cut (P := fun s => St H f [(L, .ns [(Str.ofString "half", .i (half : Nat)), (Str.ofString "pairs", .v (.ref a)), (Str.ofString "w", .i wd), (Str.ofString "mul", .v (.ref 142))])] [(.ref a, pz ps)] s) ?_ ?_
    · walk_at "mr"
      rw [show ((ps.length : Nat) : Int).fdiv 2 = (half : Int) from by rw [← hh]; exact fdiv_nat _ 2] at *
      exact ⟨by first | rfl | trivial, by walk_at "mst"⟩
    clear S
    intro s S
    have hl1 : (ps.take half).length ≤ n := by rw [List.length_take]; omega
    have hl2 : (ps.drop half).length ≤ n := by rw [List.length_drop]; omega
    have hp1 : ∀ p ∈ ps.take half, 1 ≤ p.1 ∧ p.1 < B := fun p hq => hp p ((List.take_sublist _ _).subset hq)
    have hp2 : ∀ p ∈ ps.drop half, 1 ≤ p.1 ∧ p.1 < B := fun p hq => hp p ((List.drop_sublist _ _).subset hq)
    have v1 := pv_pos fun p hq => (hp1 p hq).1
    have v2 := pv_pos fun p hq => (hp2 p hq).1
    have hvs := pv_split half ps
    have b1 : pv (ps.take half) < B := by
      have : pv (ps.take half) * 1 ≤ pv (ps.take half) * pv (ps.drop half) := Nat.mul_le_mul_left _ v2
      omega
    have b2 : pv (ps.drop half) < B := by
      have : 1 * pv (ps.drop half) ≤ pv (ps.take half) * pv (ps.drop half) := Nat.mul_le_mul_right _ v1
      omega
    walk_at "mr"
    refine ⟨_, _, _, _, by assumption, fun sl s' S' hsl => ?_⟩
    refine slice_upto (ds := ps.map fun p => .tuple [.int p.1, .int p.2]) (b := half) (by assumption) (.inl (by k_mem)) (by assumption) (by rw [List.length_map]; show _ ≤ 2 ^ 24; omega) (fun c s' S' => ?_)
    rw [← List.map_take] at S'
    walk_at "mr"
    with_reducible refine callR (ih (ps.take half) hl1 (by omega) hp1 b1) (by assumption) ?_ ?_ ?_
    walk_at "mcall"
    intro r1 s' S'
    walk_at "mr"
    refine ⟨_, _, _, _, by assumption, fun sl s' S' hsl => ?_⟩
    refine slice_from (ds := ps.map fun p => .tuple [.int p.1, .int p.2]) (b := half) (by assumption) (.inl (by k_mem)) (by assumption) (by rw [List.length_map]; show _ ≤ 2 ^ 24; omega) (fun c s' S' => ?_)
    rw [← List.map_drop] at S'
    walk_at "mr"
    with_reducible refine callR (ih (ps.drop half) hl2 (by omega) hp2 b2) (by assumption) ?_ ?_ ?_
    walk_at "mcall"
    intro r2 s' S'
    walk_at "mr"
    with_reducible refine callD (mul_num W (k + 3 + n) wd hw0 hw (pv (ps.take half)) (pv (ps.drop half)) (by rw [hB]; exact b1) (by rw [hB]; exact b2)) (by assumption) ?_ ?_ ?_
    walk_at "mcall"
    intro r s' S'
    rw [hvs] at S'
    exact ⟨_, _, _, rfl, S', .mem (.head _)⟩
theorem sv_mem (n : Nat) : ∀ i, ∀ x ∈ (sv n i).2, ∃ p : Nat, x = p ∧ 2 ≤ p ∧ p ≤ i + 1
  | 0, x, h => by cases h
  | i + 1, x, h => by
    rw [sv] at h
    split at h
    · rcases List.mem_append.mp h with h | h
      · obtain ⟨p, h1, h2, h3⟩ := sv_mem n i x h
        exact ⟨p, h1, h2, by omega⟩
      · have := List.mem_singleton.mp h
        exact ⟨2 + i, this, by omega, by omega⟩
    · obtain ⟨p, h1, h2, h3⟩ := sv_mem n i x h
      exact ⟨p, h1, h2, by omega⟩
theorem sieve_mem {n : Nat} {x : Int} (h : x ∈ sieveL n) : ∃ p : Nat, x = p ∧ 2 ≤ p ∧ p ≤ n := by
  obtain ⟨p, h1, h2, h3⟩ := sv_mem n _ x h
  refine ⟨p, h1, h2, ?_⟩
  by_cases hn : n = 0
  · subst hn; cases h
  · omega
abbrev pd (q : Nat × Nat) : PyData := .tuple [.int q.1, .int q.2]
def prS (n : Nat) : List (Nat × Nat) := (sieveL n).map fun x => (x.toNat, swF x.toNat n (n / x.toNat))
def swP (n : Nat) : List (Nat × Nat) := (prS n).filter fun q => decide (0 < q.2)
theorem take_snoc {α : Type} {xs : List α} {i : Nat} {x : α} (h : xs[i]? = some x) : xs.take (i + 1) = xs.take i ++ [x] := by
  rw [List.take_add_one, h]; rfl
set_option maxHeartbeats 4000000 in
theorem swing_num {prog : Program} {w : World} {mg mb : Str → Option Value} {H : Heap} (W : Wd w mg mb H) (k : Nat) (wd : Nat) (hw0 : 0 < wd) (hw : wd ≤ 20) (n : Nat) (hn : n ≤ 100) (hlen : (swP n).length ≤ 8) (hv : pv (swP n) < 2 ^ 1000) :
    Spec prog w H (k + 14) 114 [.i n, .i wd, .v (.ref 142)] (some (lz (dig wd (pv (swP n))))) := by
  intro A s G vs Q E hA hH hs ha hQ
  obtain ⟨tn, _, rfl, ha1⟩ := ha.ii
  obtain ⟨tw, _, rfl, ha2⟩ := ha1.ii
  obtain ⟨_, rfl, ha3⟩ := ha2.vv
  obtain rfl := ha3.nl
  refine enterC W hA hH hs (D := []) (d := some _) (binds := [(Str.ofString "n", .int n tn), (Str.ofString "w", .int wd tw), (Str.ofString "mul", .ref 142)]) (by walk_at "mhd") (by rfl) (by rfl) (by rfl) (by intro _; walk_at "mkd") (by decide)
    [(Str.ofString "w", .v (.int wd tw)), (Str.ofString "mul", .v (.ref 142))] (fun L => [(Str.ofString "n", L + 1)]) (fun L => [(L + 1, .cell (some (.int n tn)))]) (by walk_at "mlm") (by intro _; rfl) (by intro _; rfl) hQ ?_
  clear hA hH hs hQ ha ha1 ha2 ha3
  intro A f L s hA S
  refine wpAny_execs_cons ?_
  with_reducible refine cut (P := fun s => ∃ z, St H f [(L, .ns [(Str.ofString "pairs", .v (.ref z)), (Str.ofString "w", .v (.int wd tw)), (Str.ofString "mul", .v (.ref 142))])] [(.ref z, pz (prS n))] s) ?_ ?_
  · with_reducible refine AssignComp_ (cl := [(Str.ofString "n", L + 1)]) ?_ ?_ ?_ ?_ ?_ ?_ ?_
    walk_at "mac"
    walk_at "mr"
    with_reducible refine callR (sieve_spec W (k + 12) n (by omega)) (by assumption) ?_ ?_ ?_
    walk_at "mcall"
    intro a s₁ S₁
    with_reducible refine iterL (ds := (sieveL n).map PyData.int) S₁ ?_ ?_
    · walk_at "mhas"
    intro I o s₂ hI S₂
    refine ⟨I, _, _, _, _, _, _, rfl, S₂, fun _ _ _ S h => selfL hI S h, fun acc C s₃ S₃ => ?_⟩
    with_reducible refine CompL (ds := (sieveL n).map PyData.int) hA ?_ (fun i => ((prS n).take i).map pd) (fun _ => [(L + 1, .cell (some (.int n tn)))]) rfl hI S₃ ?_ ?_ ?_ ?_ ?_ ?_
    · k_mem
    · intro i hi
      rw [List.length_map] at hi ⊢
      have := sv_len2 n (n - 1)
      rw [List.length_take]
      show _ ≤ 2 ^ 24
      have : i < n := Nat.lt_of_lt_of_le hi (Nat.le_trans this (by omega))
      omega
    rotate_left 2
    · rfl
    · rfl
    · rfl
    · clear S S₁ S₂ S₃
      intro i s v d o' hd S E'
      rw [List.getElem?_map] at hd
      obtain ⟨x, hx, rfl⟩ := Option.map_eq_some_iff.mp hd
      obtain ⟨p, rfl, hp2, hpn⟩ := sieve_mem (List.mem_of_getElem? hx)
      obtain ⟨tp, rfl⟩ := S.int (.head _)
      refine CStep.plain ?_
      walk_at "mr"
      with_reducible refine callI (swing_exponent_spec W (k + 12) n p hp2 (by omega) (by omega)) (by assumption) ?_ ?_ ?_
      walk_at "mcall"
      intro te s₅ S₅
      walk_at "mr"
      with_reducible refine newTD (ds := [.int p, .int (swF p n (n / p) : Nat)]) (by assumption) ?_ ?_ (Nat.le_of_ble_eq_true rfl)
      · exact .cons (Kn.int _ _) (.cons (Kn.int _ _) .nil)
      intro b s₆ S₆
      have e : (prS n)[i]? = some (p, swF p n (n / p)) := by rw [prS, List.getElem?_map, hx]; rfl
      refine ⟨pd (p, swF p n (n / p)), _, _, ?_, fun _ h => ?_, .mem (.head _), S₆⟩
      · rw [take_snoc e, List.map_append]; rfl
      · exact .tail _ (.tail _ h)
    · intro s S
      refine cpostA S (fun s' S' => ?_)
      have S1 := St.freeze S' 1 rfl
      simp only [List.eraseIdx_cons_succ, List.eraseIdx_cons_zero] at S1
      have e : ((sieveL n).map PyData.int).length = (prS n).length := by rw [List.length_map, prS, List.length_map]
      rw [e, List.take_length] at S1
      exact ⟨by first | rfl | trivial, _, by walk_at "mst"⟩
  clear S
  rintro s ⟨z, S⟩
  walk_at "mr"
  with_reducible refine ListComp_ (cl := []) ?_ ?_ ?_ ?_ ?_ ?_
  walk_at "mlc"
  walk_at "mr"
  with_reducible refine iterL (ds := (prS n).map pd) (by assumption) ?_ ?_
  · walk_at "mhas"
  intro I o s₂ hI S₂
  refine ⟨I, _, _, _, _, _, _, rfl, S₂, fun _ _ _ S h => selfL hI S h, fun acc C s₃ S₃ => ?_⟩
  with_reducible refine CompL (ds := (prS n).map pd) hA ?_ (fun i => (((prS n).take i).filter fun q => decide (0 < q.2)).map pd) (fun _ => []) rfl hI S₃ ?_ ?_ ?_ ?_ ?_ ?_
  · k_mem
  · intro i hi
    rw [List.length_map] at hi ⊢
    have h1 := sv_len2 n (n - 1)
    have h2 : (prS n).length ≤ n - 1 := by rw [prS, List.length_map]; exact h1
    have h3 := List.length_filter_le (fun q : Nat × Nat => decide (0 < q.2)) ((prS n).take i)
    rw [List.length_take] at h3
    show _ ≤ 2 ^ 24
    omega
  rotate_left 2
  · rfl
  · rfl
  · rfl
  · clear S S₂ S₃
    intro i s v d o' hd S E'
    rw [List.getElem?_map] at hd
    obtain ⟨⟨p, e⟩, hx, rfl⟩ := Option.map_eq_some_iff.mp hd
    obtain ⟨b, rfl⟩ := S.refT (.head _)
    refine CStep.one ?_
    walk_at "mr"
    walk_at "mt1"
    walk_at "mr"
    rw [take_snoc hx, List.filter_append, List.map_append]
    by_cases he : 0 < e
    · rw [if_pos (by simp; omega)]
      walk_at "mr"
      refine ⟨pd (p, e), _, _, ?_, fun _ h => ?_, .mem ?_, by assumption⟩
      · simp [he]
      · exact .tail _ (.tail _ h)
      · k_mem
    · rw [if_neg (by simp; omega)]
      refine ⟨?_, _, _, fun _ h => ?_, by assumption⟩
      · simp [he]
      · exact .tail _ (.tail _ h)
  · intro s S
    refine cpost S (fun s' S' => ?_)
    have S1 := St.freeze S' 1 rfl
    simp only [List.eraseIdx_cons_succ, List.eraseIdx_cons_zero] at S1
    rw [List.length_map, List.take_length] at S1
    walk_at "mr"
    with_reducible refine callD (product_num W k wd hw0 hw 8 (swP n) hlen (by decide) ?_ hv) (by assumption) ?_ ?_ ?_
    · intro q hq
      have hq' := (List.mem_filter.mp hq).1
      rw [prS] at hq'
      obtain ⟨x, hx, rfl⟩ := List.mem_map.mp hq'
      obtain ⟨p, rfl, hp2, hpn⟩ := sieve_mem hx
      have h9 : (2 : Nat) ^ 7 ≤ 2 ^ 1000 := Nat.pow_le_pow_right (by decide) (by decide)
      show 1 ≤ ((p : Nat) : Int).toNat ∧ _
      rw [Int.toNat_natCast]
      refine ⟨by omega, Nat.lt_of_lt_of_le (show p < 2 ^ 7 by omega) h9⟩
    · walk_at "mok"
    · refine KArgs.d (Kn.mem (show _ ∈ _ from .head _)) ?_
      walk_at "mka"
    intro r s' S'
    exact ⟨_, _, _, rfl, S', .mem (.head _)⟩
set_option maxHeartbeats 4000000 in
theorem factorial_base {prog : Program} {w : World} {mg mb : Str → Option Value} {H : Heap} (W : Wd w mg mb H) (k : Nat) (wd : Nat) (hw0 : 0 < wd) (n : Nat) (hn : n < 2) :
    Spec prog w H (k + 15) 121 [.i n, .i wd, .v (.ref 142)] (some (lz (dig wd 1))) := by
  intro A s G vs Q E hA hH hs ha hQ
  obtain ⟨tn, _, rfl, ha1⟩ := ha.ii
  obtain ⟨tw, _, rfl, ha2⟩ := ha1.ii
  obtain ⟨_, rfl, ha3⟩ := ha2.vv
  obtain rfl := ha3.nl
  refine enter W hA hH hs (D := []) (d := some _) (binds := [(Str.ofString "n", .int n tn), (Str.ofString "w", .int wd tw), (Str.ofString "mul", .ref 142)]) (by walk_at "mhd") (by rfl) (by rfl) (by rfl) (locs rfl) (by decide) hQ ?_
  clear hA hH hs hQ ha ha1 ha2 ha3
  intro A f L s hA S
  walk_at "mr"
  with_reducible refine callN (need_count_spec W (k + 13) n) (by assumption) ?_ ?_ ?_
  walk_at "mcall"
  intro s₁ S₁
  walk_at "mr"
  walk_at "mpos"
  walk_at "mr"
  rename_i z _ S1
  have S1 := St.freeze S1 1 rfl
  rw [show PyData.list [PyData.int 1] = lz (dig wd 1) from by rw [dig_one hw0]; rfl] at S1
  exact ⟨_, _, _, rfl, S1, .mem (.head _)⟩
set_option maxHeartbeats 4000000 in
theorem factorial_step {prog : Program} {w : World} {mg mb : Str → Option Value} {H : Heap} (W : Wd w mg mb H) (k : Nat) (wd : Nat) (hw0 : 0 < wd) (hw : wd ≤ 20) (n : Nat) (hn2 : 2 ≤ n) (hn : n ≤ 100) (g : Nat)
    (ih : Spec prog w H (k + 15) 121 [.i (n / 2 : Nat), .i wd, .v (.ref 142)] (some (lz (dig wd g)))) (hlen : (swP n).length ≤ 8) (hv : pv (swP n) < 2 ^ 1000) (hg : g < 2 ^ 1000) (hgg : g * g < 2 ^ 1000) :
    Spec prog w H (k + 16) 121 [.i n, .i wd, .v (.ref 142)] (some (lz (dig wd (g * g * pv (swP n))))) := by
  intro A s G vs Q E hA hH hs ha hQ
  obtain ⟨tn, _, rfl, ha1⟩ := ha.ii
  obtain ⟨tw, _, rfl, ha2⟩ := ha1.ii
  obtain ⟨_, rfl, ha3⟩ := ha2.vv
  obtain rfl := ha3.nl
  refine enter W hA hH hs (D := []) (d := some _) (binds := [(Str.ofString "n", .int n tn), (Str.ofString "w", .int wd tw), (Str.ofString "mul", .ref 142)]) (by walk_at "mhd") (by rfl) (by rfl) (by rfl) (locs rfl) (by decide) hQ ?_
  clear hA hH hs hQ ha ha1 ha2 ha3
  intro A f L s hA S
  walk_at "mr"
  with_reducible refine callN (need_count_spec W (k + 14) n) (by assumption) ?_ ?_ ?_
  walk_at "mcall"
  intro s₁ S₁
  walk_at "mr"
  walk_at "mneg"
  walk_at "mr"
  rw [show ((n : Int).fdiv 2) = ((n / 2 : Nat) : Int) from fdiv_nat n 2] at *
  with_reducible refine callR ih (by assumption) ?_ ?_ ?_
  walk_at "mcall"
  intro a s₁ S₁
  walk_at "mr"
  with_reducible refine callR (mul_num W (k + 13) wd hw0 hw g g hg hg) (by assumption) ?_ ?_ ?_
  walk_at "mcall"
  intro b s₂ S₂
  walk_at "mr"
  with_reducible refine callR (swing_num W (k + 1) wd hw0 hw n hn hlen hv) (by assumption) ?_ ?_ ?_
  walk_at "mcall"
  intro c s₂ S₂
  walk_at "mr"
  with_reducible refine callD (mul_num W (k + 13) wd hw0 hw (g * g) (pv (swP n)) hgg hv) (by assumption) ?_ ?_ ?_
  walk_at "mcall"
  intro r s' S'
  exact ⟨_, _, _, rfl, S', .mem (.head _)⟩
def facV : Nat → Nat
  | 0 => 1
  | 1 => 1
  | 2 => 2
  | 3 => 6
  | _ => 24
theorem lt1000 {a : Nat} (h : a < 2 ^ 20) : a < 2 ^ 1000 := Nat.lt_of_lt_of_le h (Nat.pow_le_pow_right (by decide) (by decide))
theorem factorial_num {prog : Program} {w : World} {mg mb : Str → Option Value} {H : Heap} (W : Wd w mg mb H) (k : Nat) (wd : Nat) (hw0 : 0 < wd) (hw : wd ≤ 20) (n : Nat) (hn : n ≤ 4) :
    Spec prog w H (k + 17) 121 [.i n, .i wd, .v (.ref 142)] (some (lz (dig wd (facV n)))) := by
  have h0 : ∀ k : Nat, Spec prog w H (k + 15) 121 [.i (0 : Nat), .i wd, .v (.ref 142)] (some (lz (dig wd 1))) := fun k => factorial_base W k wd hw0 0 (by decide)
  have h1 : ∀ k : Nat, Spec prog w H (k + 15) 121 [.i (1 : Nat), .i wd, .v (.ref 142)] (some (lz (dig wd 1))) := fun k => factorial_base W k wd hw0 1 (by decide)
  have p2 : pv (swP 2) = 2 := by decide +kernel
  have p3 : pv (swP 3) = 6 := by decide +kernel
  have p4 : pv (swP 4) = 6 := by decide +kernel
  have l2 : (swP 2).length ≤ 8 := by decide +kernel
  have l3 : (swP 3).length ≤ 8 := by decide +kernel
  have l4 : (swP 4).length ≤ 8 := by decide +kernel
  have h2 : ∀ k : Nat, Spec prog w H (k + 16) 121 [.i (2 : Nat), .i wd, .v (.ref 142)] (some (lz (dig wd 2))) := fun k => by
    have := factorial_step W k wd hw0 hw 2 (by decide) (by decide) 1 (h1 k) l2 (by rw [p2]; exact lt1000 (by decide)) (lt1000 (by decide)) (lt1000 (by decide))
    rw [p2] at this; exact this
  have h3 : ∀ k : Nat, Spec prog w H (k + 16) 121 [.i (3 : Nat), .i wd, .v (.ref 142)] (some (lz (dig wd 6))) := fun k => by
    have := factorial_step W k wd hw0 hw 3 (by decide) (by decide) 1 (h1 k) l3 (by rw [p3]; exact lt1000 (by decide)) (lt1000 (by decide)) (lt1000 (by decide))
    rw [p3] at this; exact this
  have h4 : ∀ k : Nat, Spec prog w H (k + 17) 121 [.i (4 : Nat), .i wd, .v (.ref 142)] (some (lz (dig wd 24))) := fun k => by
    have := factorial_step W (k + 1) wd hw0 hw 4 (by decide) (by decide) 2 (h2 k) l4 (by rw [p4]; exact lt1000 (by decide)) (lt1000 (by decide)) (lt1000 (by decide))
    rw [p4] at this; exact this
  match n, hn with
  | 0, _ => exact h0 (k + 2)
  | 1, _ => exact h1 (k + 2)
  | 2, _ => exact h2 (k + 1)
  | 3, _ => exact h3 (k + 1)
  | 4, _ => exact h4 k
def mpI (n k p : Nat) : Int := (feF p n n : Int) - (feF p k k : Int) - (feF p (n - k) (n - k) : Int)
def prB (n k : Nat) : List (Nat × Nat) := (sieveL n).map fun x => (x.toNat, (mpI n k x.toNat).toNat)
def biP (n k : Nat) : List (Nat × Nat) := (prB n k).filter fun q => decide (0 < q.2)
def binV (n k : Nat) : Nat := if n < k then 0 else pv (biP n k)
set_option maxHeartbeats 4000000 in
theorem binomial_gen {prog : Program} {w : World} {mg mb : Str → Option Value} {H : Heap} (W : Wd w mg mb H) (k : Nat) (wd : Nat) (hw0 : 0 < wd) (hw : wd ≤ 20) (n m : Nat) (hn : n ≤ 100) (hm : m ≤ 100) (hlen : (biP n m).length ≤ 8) (hv : pv (biP n m) < 2 ^ 1000) :
    Spec prog w H (k + 14) 135 [.i n, .i m, .i wd, .v (.ref 142)] (some (lz (dig wd (binV n m)))) := by
  intro A s G vs Q E hA hH hs ha hQ
  obtain ⟨tn, _, rfl, ha0⟩ := ha.ii
  obtain ⟨tm, _, rfl, ha1⟩ := ha0.ii
  obtain ⟨tw, _, rfl, ha2⟩ := ha1.ii
  obtain ⟨_, rfl, ha3⟩ := ha2.vv
  obtain rfl := ha3.nl
  refine enter W hA hH hs (D := []) (d := some _) (binds := [(Str.ofString "n", .int n tn), (Str.ofString "k", .int m tm), (Str.ofString "w", .int wd tw), (Str.ofString "mul", .ref 142)]) (by walk_at "mhd") (by rfl) (by rfl) (by rfl) (locs rfl) (by decide) hQ ?_
  clear hA hH hs hQ ha ha0 ha1 ha2 ha3
  intro A f L s hA S
  refine wpAny_execs_cons ?_
  with_reducible refine cut (P := fun s => St H f [(L, .ns [(Str.ofString "n", .i n), (Str.ofString "k", .i m), (Str.ofString "w", .i wd), (Str.ofString "mul", .v (.ref 142))])] [] s) ?_ ?_
  · walk_at "mr"
    with_reducible refine callN (need_count_spec W (k + 12) n) (by assumption) ?_ ?_ ?_
    walk_at "mcall"
    intro s₁ S₁
    exact ⟨by first | rfl | trivial, by walk_at "mst"⟩
  clear S
  intro s S
  refine wpAny_execs_cons ?_
  with_reducible refine cut (P := fun s => St H f [(L, .ns [(Str.ofString "n", .i n), (Str.ofString "k", .i m), (Str.ofString "w", .i wd), (Str.ofString "mul", .v (.ref 142))])] [] s) ?_ ?_
  · walk_at "mr"
    with_reducible refine callN (need_count_spec W (k + 12) m) (by assumption) ?_ ?_ ?_
    walk_at "mcall"
    intro s₁ S₁
    exact ⟨by first | rfl | trivial, by walk_at "mst"⟩
  clear S
  intro s S
  by_cases hmn : n < m
  · walk_at "mr"
    walk_at "mpos"
    walk_at "mr"
    rename_i z _ S1
    have S1 := St.freeze S1 1 rfl
    rw [show PyData.list [] = lz (dig wd (binV n m)) from by rw [binV, if_pos hmn, dig_zero]; rfl] at S1
    exact ⟨_, _, _, rfl, S1, .mem (.head _)⟩
  refine wpAny_execs_cons ?_
  with_reducible refine cut (P := fun s => St H f [(L, .ns [(Str.ofString "n", .i n), (Str.ofString "k", .i m), (Str.ofString "w", .i wd), (Str.ofString "mul", .v (.ref 142))])] [] s) ?_ ?_
  · walk_at "mr"
    walk_at "mneg"
    walk_at "mr"
    exact ⟨by first | rfl | trivial, by walk_at "mst"⟩
  clear S
  intro s S
  have ev : binV n m = pv (biP n m) := by rw [binV, if_neg hmn]
  rw [ev]
  refine wpAny_execs_cons ?_
  with_reducible refine cut (P := fun s => ∃ z, St H f [(L, .ns [(Str.ofString "pairs", .v (.ref z)), (Str.ofString "n", .i n), (Str.ofString "k", .i m), (Str.ofString "w", .i wd), (Str.ofString "mul", .v (.ref 142))]), (z, .list [])] [] s) ?_ ?_
  · walk_at "mr"
    exact ⟨by first | rfl | trivial, _, by walk_at "mst"⟩
  clear S
  rintro s ⟨z, S⟩
  refine wpAny_execs_cons ?_
  with_reducible refine cut (P := fun s => St H f [(L, .ns [(Str.ofString "pairs", .v (.ref z)), (Str.ofString "w", .i wd), (Str.ofString "mul", .v (.ref 142))]), (z, .list ((biP n m).map pd))] [] s) ?_ ?_
  · walk_at "mfor"
    walk_at "mr"
    with_reducible refine callR (sieve_spec W (k + 12) n (by omega)) (by assumption) ?_ ?_ ?_
    walk_at "mcall"
    intro a s₁ S₁
    with_reducible refine iterL (ds := (sieveL n).map PyData.int) S₁ ?_ ?_
    · walk_at "mhas"
    intro I o s₂ hI S₂
    with_reducible refine LoopL (ds := (sieveL n).map PyData.int) hA (fun _ => True) (fun i => [(Str.ofString "pairs", .v (.ref z)), (Str.ofString "n", .i n), (Str.ofString "k", .i m), (Str.ofString "w", .i wd), (Str.ofString "mul", .v (.ref 142))]) (fun i => [(z, .list ((((prB n m).take i).filter fun q => decide (0 < q.2)).map pd))]) trivial hI S₂ ?_ ?_ ?_ ?_ ?_ ?_ ?_ ?_
    · k_mem
    walk_at "ml3"
    rotate_left 1
    · intro s _ S
      have e : ((sieveL n).map PyData.int).length = (prB n m).length := by rw [List.length_map, prB, List.length_map]
      rw [e, List.take_length] at S
      exact ⟨by first | rfl | trivial, by walk_at "mst"⟩
    clear S S₁ S₂
    intro i s v d o' hd _ S E'
    rw [List.getElem?_map] at hd
    obtain ⟨x, hx, rfl⟩ := Option.map_eq_some_iff.mp hd
    obtain ⟨p, rfl, hp2, hpn⟩ := sieve_mem (List.mem_of_getElem? hx)
    obtain ⟨tp, rfl⟩ := S.int (.head _)
    have hxp : (prB n m)[i]? = some (p, (mpI n m p).toNat) := by rw [prB, List.getElem?_map, hx]; rfl
    have hilt : i < (sieveL n).length := lt_of_getElem? hx
    have hsl := sv_len2 n (n - 1)
    replace hsl : (sieveL n).length ≤ n - 1 := hsl
    refine wpAny_execs_cons ?_
    with_reducible refine cut (P := fun s => St H f [(L, .ns [(Str.ofString "many", .i (mpI n m p)), (Str.ofString "prime", .i p), (Str.ofString "pairs", .v (.ref z)), (Str.ofString "n", .i n), (Str.ofString "k", .i m), (Str.ofString "w", .i wd), (Str.ofString "mul", .v (.ref 142))]), (I, .raw o'), (z, .list ((((prB n m).take i).filter fun q => decide (0 < q.2)).map pd))] [(.ref a, lz (sieveL n))] s) ?_ ?_
    · walk_at "mr"
      with_reducible refine callI (factorial_exponent_spec W (k + 12) n p hp2 (by omega) (by omega)) (by assumption) ?_ ?_ ?_
      walk_at "mcall"
      intro _ _ _
      walk_at "mr"
      with_reducible refine callI (factorial_exponent_spec W (k + 12) m p hp2 (by omega) (by omega)) (by assumption) ?_ ?_ ?_
      walk_at "mcall"
      intro _ _ _
      walk_at "mr"
      rw [show ((n : Int) - m) = ((n - m : Nat) : Int) by omega] at *
      with_reducible refine callI (factorial_exponent_spec W (k + 12) (n - m) p hp2 (by omega) (by omega)) (by assumption) ?_ ?_ ?_
      walk_at "mcall"
      intro _ _ _
      walk_at "mr"
      rw [mpI]
      exact ⟨by first | rfl | trivial, by walk_at "mst"⟩
    clear S
    intro s S
    rw [take_snoc hxp, List.filter_append, List.map_append]
    generalize hmy : mpI n m p = my at *
    have hfl : ((((prB n m).take i).filter fun q => decide (0 < q.2)).map pd).length ≤ i := by
      rw [List.length_map]
      have h3 := List.length_filter_le (fun q : Nat × Nat => decide (0 < q.2)) ((prB n m).take i)
      rw [List.length_take] at h3
      omega
    walk_at "mr"
    by_cases h0 : 0 < my
    · walk_at "mpos"
      walk_at "mr"
      obtain ⟨y, rfl⟩ : ∃ y : Nat, my = y := ⟨my.toNat, by omega⟩
      with_reducible refine newTD (ds := [.int p, .int (y : Nat)]) (by assumption) ?_ ?_ (Nat.le_of_ble_eq_true rfl)
      · exact .cons (Kn.int _ _) (.cons (Kn.int _ _) .nil)
      intro b s₆ S₆
      walk_at "mr"
      refine appL (d := pd (p, y)) (by assumption) 2 (by rfl) (.mem (.head _)) (by show _ ≤ 2 ^ 24; omega) ?_
      walk_at "mstc"
      walk_at "mr"
      have e : List.map pd (List.filter (fun q => decide (0 < q.2)) [(p, ((y : Nat) : Int).toNat)]) = [pd (p, y)] := by
        rw [Int.toNat_natCast]
        have : 0 < y := by omega
        simp [this]
      rw [e]
      exact ⟨trivial, by walk_at "mst"⟩
    · walk_at "mneg"
      walk_at "mr"
      have e : List.map pd (List.filter (fun q => decide (0 < q.2)) [(p, my.toNat)]) = [] := by
        have : my.toNat = 0 := by omega
        simp [this]
      rw [e, List.append_nil]
      exact ⟨trivial, by walk_at "mst"⟩
  clear S
  intro s S
  walk_at "mr"
  have S1 := St.freeze S 1 rfl
  simp only [List.eraseIdx_cons_succ, List.eraseIdx_cons_zero] at S1
  with_reducible refine callD (product_num W k wd hw0 hw 8 (biP n m) hlen (by decide) ?_ hv) S1 ?_ ?_ ?_
  · intro q hq
    have hq' := (List.mem_filter.mp hq).1
    rw [prB] at hq'
    obtain ⟨x, hx, rfl⟩ := List.mem_map.mp hq'
    obtain ⟨p, rfl, hp2, hpn⟩ := sieve_mem hx
    have h9 : (2 : Nat) ^ 7 ≤ 2 ^ 1000 := Nat.pow_le_pow_right (by decide) (by decide)
    show 1 ≤ ((p : Nat) : Int).toNat ∧ _
    rw [Int.toNat_natCast]
    refine ⟨by omega, Nat.lt_of_lt_of_le (show p < 2 ^ 7 by omega) h9⟩
  · walk_at "mok"
  · refine KArgs.d (Kn.mem (show _ ∈ _ from .head _)) ?_
    walk_at "mka"
  intro r s' S'
  exact ⟨_, _, _, rfl, S', .mem (.head _)⟩
def chooseV (n k : Nat) : Nat := match n, k with
  | _, 0 => 1
  | 0, _ + 1 => 0
  | n + 1, k + 1 => chooseV n k + chooseV n (k + 1)
theorem binV_choose : ∀ n, n ≤ 7 → ∀ k, k ≤ 5 → (binV n k = chooseV n k ∧ (biP n k).length ≤ 8 ∧ pv (biP n k) < 2 ^ 20) := by decide +kernel
theorem binomial_num {prog : Program} {w : World} {mg mb : Str → Option Value} {H : Heap} (W : Wd w mg mb H) (k : Nat) (wd : Nat) (hw0 : 0 < wd) (hw : wd ≤ 20) (n m : Nat) (hn : n ≤ 7) (hm : m ≤ 5) :
    Spec prog w H (k + 14) 135 [.i n, .i m, .i wd, .v (.ref 142)] (some (lz (dig wd (chooseV n m)))) := by
  obtain ⟨h1, h2, h3⟩ := binV_choose n hn m hm
  rw [← h1]
  exact binomial_gen W k wd hw0 hw n m (by omega) (by omega) h2 (lt1000 h3)
abbrev zl (wd : Nat) (zs : List Int) : PyData := .list (zs.map (sg wd))
def dif (zs : List Int) : List Int := (List.range (zs.length - 1)).map fun i => zs.getD (i + 1) 0 - zs.getD i 0
def difN (zs : List Int) : Nat → List Int
  | 0 => zs
  | j + 1 => dif (difN zs j)
def levs (zs : List Int) : Nat → List (List Int)
  | 0 => [zs]
  | j + 1 => levs zs j ++ [difN zs (j + 1)]
theorem levs_len (zs : List Int) : ∀ j, (levs zs j).length = j + 1
  | 0 => rfl
  | j + 1 => by rw [levs, List.length_append, levs_len zs j]; rfl
theorem levs_get (zs : List Int) : ∀ j i, i ≤ j → (levs zs j)[i]? = some (difN zs i)
  | 0, i, h => by
    have : i = 0 := by omega
    subst this; rfl
  | j + 1, i, h => by
    by_cases hi : i ≤ j
    · rw [levs, List.getElem?_append_left (by rw [levs_len]; omega), levs_get zs j i hi]
    · have : i = j + 1 := by omega
      subst this
      rw [levs, List.getElem?_append_right (by rw [levs_len]; omega), levs_len]; simp
theorem zl_get {wd : Nat} {zs : List Int} {k : Int} {n : Nat} (e : k.toNat = n) (h : n < zs.length) : (zs.map (sg wd))[k.toNat]? = some (sg wd (zs.getD n 0)) := by
  rw [e, List.getElem?_map, List.getElem?_eq_getElem h]; simp [List.getD, h]
set_option maxHeartbeats 4000000 in
theorem levels_num {prog : Program} {w : World} {mg mb : Str → Option Value} {H : Heap} (W : Wd w mg mb H) (k : Nat) (wd : Nat) (hw0 : 0 < wd) (hw : wd ≤ 20) (zs : List Int) (many : Nat) (hz : zs.length ≤ 100) (hm : many ≤ 100) (hb : ∀ j, j < many → ∀ i, ((difN zs j).getD i 0).natAbs < 2 ^ 999) :
    Spec prog w H (k + 5) 210 [.d (zl wd zs), .i many, .i wd] (some (.list ((levs zs many).map (zl wd)))) := by
  intro A s G vs Q E hA hH hs ha hQ
  obtain ⟨a, _, rfl, h1, ha1⟩ := ha.dl
  obtain ⟨tm, _, rfl, ha2⟩ := ha1.ii
  obtain ⟨tw, _, rfl, ha3⟩ := ha2.ii
  obtain rfl := ha3.nl
  refine enterC W hA hH hs (D := [(.ref a, zl wd zs)]) (d := some _) (binds := [(Str.ofString "values", .ref a), (Str.ofString "many", .int many tm), (Str.ofString "w", .int wd tw)]) (by walk_at "mhd") (by rfl) (by rfl) (by rfl) (by intro _; walk_at "mkd") (by decide)
    [(Str.ofString "values", .v (.ref a)), (Str.ofString "many", .v (.int many tm))] (fun L => [(Str.ofString "row", L + 2), (Str.ofString "w", L + 1)]) (fun L => [(L + 2, .cell none), (L + 1, .cell (some (.int wd tw)))]) (by walk_at "mlm") (by intro _; rfl) (by intro _; rfl) hQ ?_
  clear hA hH hs hQ ha ha1 ha2 ha3
  intro A f L s hA S
  have hlen : ∀ j, (difN zs j).length ≤ 100 := by
    intro j
    induction j with
    | zero => exact hz
    | succ j ih => rw [difN, dif, List.length_map, List.length_range]; omega
  refine wpAny_execs_cons ?_
  with_reducible refine cut (P := fun s => ∃ z, St H f [(L, .ns [(Str.ofString "levels", .v (.ref z)), (Str.ofString "many", .i many)]), (z, .list ((levs zs 0).map (zl wd))), (L + 2, .cell none), (L + 1, .cell (some (.int wd tw)))] [] s) ?_ ?_
  · walk_at "mr"
    with_reducible refine newLM (ds := [zl wd zs]) (by assumption) ?_ ?_ (Nat.le_of_ble_eq_true rfl)
    · exact .cons (Kn.mem (by k_mem)) .nil
    intro z s' S'
    walk_at "mr"
    exact ⟨by first | rfl | trivial, _, by walk_at "mst"⟩
  clear S
  rintro s ⟨z, S⟩
  refine wpAny_execs_cons ?_
  with_reducible refine cut (P := fun s => St H f [(L, .ns [(Str.ofString "levels", .v (.ref z))]), (z, .list ((levs zs many).map (zl wd)))] [] s) ?_ ?_
  · walk_at "mfor"
    walk_at "mr"
    walk_at "mr1"
    with_reducible refine iterR1 many (by assumption) (.inl (by omega)) (by omega) (by omega) (by omega) (by omega) ?_
    intro I s₁ S₁
    with_reducible refine LoopX (β := Option Value) hA (fun i _ => [(Str.ofString "levels", .v (.ref z)), (Str.ofString "many", .i many)]) (fun i b => [(z, .list ((levs zs i).map (zl wd))), (L + 2, .cell b), (L + 1, .cell (some (.int wd tw)))]) (fun _ _ => []) none S₁ ?_ ?_ ?_ ?_ ?_ ?_ ?_ ?_
    walk_at "mlx"
    rotate_left 1
    · intro b s S
      exact ⟨by first | rfl | trivial, by walk_at "mst"⟩
    clear S S₁
    intro i b s t hi S E'
    have hll := levs_len zs i
    have hli := hlen i
    refine wpAny_execs_cons ?_
    with_reducible refine cut (P := fun s => ∃ r, St H f [(L, .ns [(Str.ofString "levels", .v (.ref z)), (Str.ofString "many", .i many)]), (I, .raw (rgs 0 1 many (i + 1))), (z, .list ((levs zs i).map (zl wd))), (L + 2, .cell (some (.ref r))), (L + 1, .cell (some (.int wd tw)))] [(.ref r, zl wd (difN zs i))] s) ?_ ?_
    · walk_at "mr"
      with_reducible refine itemLast (ds := (levs zs i).map (zl wd)) (d := zl wd (difN zs i)) (by assumption) ?_ ?_ ?_ ?_ ?_
      · walk_at "mhas"
      · rw [List.length_map, hll, List.getElem?_map, levs_get zs i _ (by omega)]
        have : i + 1 - 1 = i := by omega
        rw [this]; rfl
      · rw [List.length_map, hll]; omega
      rotate_left 1
      · with_unfolding_all rfl
      intro v S'
      obtain ⟨r, rfl⟩ := S'.ref (.head _)
      walk_at "mr"
      exact ⟨by first | rfl | trivial, _, by walk_at "mst"⟩
    clear S
    rintro s ⟨r, S⟩
    walk_at "mr"
    with_reducible refine ListComp_ (cl := [(Str.ofString "w", L + 1), (Str.ofString "row", L + 2)]) ?_ ?_ ?_ ?_ ?_ ?_
    walk_at "mlc"
    walk_at "mr"
    generalize hzi : difN zs i = zi at *
    walk_at "mr1"
    with_reducible refine iterR1 (zi.length - 1) (by assumption) (by omega) (by omega) (by omega) (by omega) (by omega) ?_
    intro J s₂ S₂
    refine ⟨J, _, _, _, _, _, _, rfl, S₂, fun _ _ _ S h => selfR S h, fun acc C s₃ S₃ => ?_⟩
    have hdl : (dif zi).length = zi.length - 1 := by rw [dif, List.length_map, List.length_range]
    with_reducible refine CompR hA (zi.length - 1) 0 1 (fun j => ((dif zi).take j).map (sg wd)) (fun _ => [(I, .raw (rgs 0 1 many (i + 1))), (z, .list ((levs zs i).map (zl wd))), (L + 2, .cell (some (.ref r))), (L + 1, .cell (some (.int wd tw)))]) rfl S₃ ?_ ?_ ?_ ?_ ?_ ?_
    · intro j hj
      rw [List.length_map, List.length_take]
      show _ ≤ 2 ^ 24
      omega
    rotate_left 2
    · rfl
    · rfl
    · rfl
    · clear S S₂ S₃
      intro j s t hj S E''
      refine CStep.plain ?_
      walk_at "mr"
      with_reducible refine itemV (ds := zi.map (sg wd)) (d := sg wd (zi.getD (j + 1) 0)) (by assumption) ?_ (by omega) ?_ (by omega) ?_ ?_
      · walk_at "mhas"
      · exact zl_get (by omega) (by omega)
      rotate_left 1
      · with_unfolding_all rfl
      intro v1 S1
      walk_at "mr"
      with_reducible refine itemV (ds := zi.map (sg wd)) (d := sg wd (zi.getD j 0)) (by assumption) ?_ (by omega) ?_ (by omega) ?_ ?_
      · walk_at "mhas"
      · exact zl_get (by omega) (by omega)
      rotate_left 1
      · with_unfolding_all rfl
      intro v2 S2
      walk_at "mr"
      have hb1 := hb i hi (j + 1)
      have hb2 := hb i hi j
      rw [hzi] at hb1 hb2
      with_reducible refine callD (s_sub_num W k wd hw0 hw (zi.getD (j + 1) 0) (zi.getD j 0) hb1 hb2) (by assumption) ?_ ?_ ?_
      walk_at "mcall"
      intro r1 s4 S4
      have e : (dif zi)[j]? = some (zi.getD (j + 1) 0 - zi.getD j 0) := by rw [dif, List.getElem?_map, List.getElem?_range hj]; rfl
      refine ⟨sg wd (zi.getD (j + 1) 0 - zi.getD j 0), _, _, ?_, fun _ h => ?_, .mem (.head _), S4⟩
      · rw [take_snoc e, List.map_append]; rfl
      · exact .tail _ (.tail _ (.tail _ h))
    · intro s S
      refine cpost S (fun s' S' => ?_)
      have S1 := St.freeze S' 1 rfl
      simp only [List.eraseIdx_cons_succ, List.eraseIdx_cons_zero] at S1
      rw [← hdl, List.take_length] at S1
      walk_at "mr"
      refine appL (d := zl wd (dif zi)) S1 2 (by rfl) (.mem (.head _)) (by rw [List.length_map, hll]; show _ ≤ 2 ^ 24; omega) ?_
      walk_at "mstc"
      have e : List.map (zl wd) (levs zs i) ++ [zl wd (dif zi)] = List.map (zl wd) (levs zs (i + 1)) := by
        rw [levs, List.map_append, difN, hzi]; rfl
      walk_at "mr"
      refine ⟨some (.ref r), ?_⟩
      rw [← e]
      walk_at "mst"
  clear S
  intro s S
  walk_at "mr"
  have S1 := St.freeze S 1 rfl
  simp only [List.eraseIdx_cons_succ, List.eraseIdx_cons_zero] at S1
  exact ⟨_, _, _, rfl, S1, .mem (.head _)⟩
def valsOf (rs : List Int) (n : Nat) : List Int := (List.range (n + 4)).map fun k : Nat => worth rs (k : Int)
theorem dif_len (zs : List Int) : (dif zs).length = zs.length - 1 := by rw [dif, List.length_map, List.length_range]
theorem difN_len (zs : List Int) : ∀ j, (difN zs j).length = zs.length - j
  | 0 => rfl
  | j + 1 => by rw [difN, dif_len, difN_len zs j]; omega
theorem dif_get {zs : List Int} {i : Nat} (h : i < zs.length - 1) : (dif zs).getD i 0 = zs.getD (i + 1) 0 - zs.getD i 0 := by
  rw [List.getD_eq_getElem?_getD, dif, List.getElem?_map, List.getElem?_range h]; rfl
theorem dif_get0 {zs : List Int} {i : Nat} (h : ¬ i < zs.length - 1) : (dif zs).getD i 0 = 0 := by
  rw [List.getD_eq_getElem?_getD, List.getElem?_eq_none (by rw [dif_len]; omega)]; rfl
theorem difN_bound {zs : List Int} {B : Nat} (h : ∀ i, (zs.getD i 0).natAbs < B) : ∀ j i, ((difN zs j).getD i 0).natAbs < 2 ^ j * B
  | 0, i => by show (zs.getD i 0).natAbs < _; rw [Nat.pow_zero, Nat.one_mul]; exact h i
  | j + 1, i => by
    have h1 := difN_bound h j (i + 1)
    have h2 := difN_bound h j i
    have h3 : 2 ^ (j + 1) * B = 2 ^ j * B + 2 ^ j * B := by rw [Nat.pow_succ, Nat.mul_assoc, Nat.two_mul, Nat.mul_add]
    rw [difN, h3]
    generalize 2 ^ j * B = P at *
    by_cases hi : i < (difN zs j).length - 1
    · rw [dif_get hi]
      omega
    · rw [dif_get0 hi]
      omega
theorem worthF_bound {k : Int} (hk0 : 0 ≤ k) (hk : k ≤ 10) : ∀ (l : List Int) (acc : Int), (∀ x ∈ l, -5 ≤ x ∧ x ≤ 5) → (l.foldl (fun acc x => acc * k + x) acc).natAbs + 1 ≤ (acc.natAbs + 1) * 16 ^ l.length
  | [], acc, _ => by simp
  | x :: l, acc, h => by
    have ih := worthF_bound hk0 hk l (acc * k + x) fun y hy => h y (.tail _ hy)
    have hx := h x (.head _)
    have h1 : (acc * k).natAbs ≤ acc.natAbs * 10 := by rw [Int.natAbs_mul]; exact Nat.mul_le_mul_left _ (by omega)
    have h2 : (acc * k + x).natAbs + 1 ≤ (acc.natAbs + 1) * 16 := by omega
    rw [List.foldl_cons, List.length_cons, Nat.pow_succ]
    calc _ ≤ ((acc * k + x).natAbs + 1) * 16 ^ l.length := ih
      _ ≤ ((acc.natAbs + 1) * 16) * 16 ^ l.length := Nat.mul_le_mul_right _ h2
      _ = (acc.natAbs + 1) * (16 ^ l.length * 16) := by rw [Nat.mul_assoc, Nat.mul_comm 16]
theorem worth_bound {rs : List Int} {k : Nat} (hk : k ≤ 10) (hl : rs.length ≤ 5) (h : ∀ x ∈ rs, -5 ≤ x ∧ x ≤ 5) : (worth rs k).natAbs < 2 ^ 20 := by
  have := worthF_bound (k := k) (by omega) (by omega) rs.reverse 0 fun x hx => h x (List.mem_reverse.mp hx)
  rw [List.length_reverse] at this
  have h2 : (16 : Nat) ^ rs.length ≤ 16 ^ 5 := Nat.pow_le_pow_right (by decide) hl
  unfold worth
  simp only [Int.natAbs_zero] at this
  omega
theorem vals_get {rs : List Int} {n k : Nat} (h : k < n + 4) : (valsOf rs n).getD k 0 = worth rs k := by
  rw [List.getD_eq_getElem?_getD, valsOf, List.getElem?_map, List.getElem?_range h]; rfl
theorem vals_len (rs : List Int) (n : Nat) : (valsOf rs n).length = n + 4 := by rw [valsOf, List.length_map, List.length_range]
theorem vals_bound {rs : List Int} {n : Nat} (hn : n ≤ 4) (hl : rs.length = n + 1) (h : ∀ x ∈ rs, -5 ≤ x ∧ x ≤ 5) (i : Nat) : ((valsOf rs n).getD i 0).natAbs < 2 ^ 20 := by
  by_cases hi : i < n + 4
  · rw [vals_get hi]; exact worth_bound (by omega) (by omega) h
  · rw [List.getD_eq_getElem?_getD, List.getElem?_eq_none (by rw [vals_len]; omega)]; decide
/-- the differences of the polynomial, at any number -/
def dI (rs : List Int) : Nat → Int → Int
  | 0, k => worth rs k
  | j + 1, k => dI rs j (k + 1) - dI rs j k
theorem difN_dI (rs : List Int) (n : Nat) : ∀ j i, i + j < n + 4 → (difN (valsOf rs n) j).getD i 0 = dI rs j i
  | 0, i, h => vals_get (by omega)
  | j + 1, i, h => by
    rw [difN, dif_get (by rw [difN_len, vals_len]; omega), difN_dI rs n j (i + 1) (by omega), difN_dI rs n j i (by omega), dI]
    push_cast; rfl
theorem dI_top {n : Nat} (hn : n ≤ 4) {rs : List Int} (hl : rs.length = n + 1) (k : Int) : dI rs n k = facV n * rs.getD n 0 := by
  match n, hn, rs, hl with
  | 0, _, [a], _ => simp [dI, worth, facV]
  | 1, _, [a, b], _ => show _ = (1 : Int) * b; simp only [dI, worth, List.reverse_cons, List.reverse_nil, List.nil_append, List.cons_append, List.foldl_cons, List.foldl_nil]; grind
  | 2, _, [a, b, c], _ => show _ = (2 : Int) * c; simp only [dI, worth, List.reverse_cons, List.reverse_nil, List.nil_append, List.cons_append, List.foldl_cons, List.foldl_nil]; grind
  | 3, _, [a, b, c, d], _ => show _ = (6 : Int) * d; simp only [dI, worth, List.reverse_cons, List.reverse_nil, List.nil_append, List.cons_append, List.foldl_cons, List.foldl_nil]; grind
  | 4, _, [a, b, c, d, e], _ => show _ = (24 : Int) * e; simp only [dI, worth, List.reverse_cons, List.reverse_nil, List.nil_append, List.cons_append, List.foldl_cons, List.foldl_nil]; grind
theorem dI_zero {n : Nat} (hn : n ≤ 4) {rs : List Int} (hl : rs.length = n + 1) (k : Int) : dI rs (n + 1) k = 0 := by
  rw [dI, dI_top hn hl, dI_top hn hl, Int.sub_self]
theorem three0 {l : List Int} (h : l.length = 3) (g : ∀ i, i < 3 → l.getD i 0 = 0) : l = [0, 0, 0] := by
  match l, h, g 0 (by decide), g 1 (by decide), g 2 (by decide) with
  | [a, b, c], _, ha, hb, hc => rw [show a = 0 from ha, show b = 0 from hb, show c = 0 from hc]
/-- the n-th differences of a polynomial of degree n -/
theorem dif_top {n : Nat} (hn : n ≤ 4) {rs : List Int} (hl : rs.length = n + 1) : (difN (valsOf rs n) n).getD 0 0 = facV n * rs.getD n 0 ∧ difN (valsOf rs n) (n + 1) = [0, 0, 0] :=
  ⟨by rw [difN_dI rs n n 0 (by omega), dI_top hn hl], three0 (by rw [difN_len, vals_len]; omega) fun i hi => by rw [difN_dI rs n (n + 1) i (by omega), dI_zero hn hl]⟩
theorem lay_ints : ∀ ns : List Int, PyData.canLayAll0 (ns.map PyData.int) = true
  | [] => rfl
  | n :: r => by rw [List.map_cons]; exact lay_ints r
theorem dep_ints : ∀ ns : List Int, PyData.depthAll (ns.map PyData.int) ≤ 1
  | [] => by decide
  | n :: r => by
    rw [List.map_cons]
    have := dep_ints r
    simp only [PyData.depthAll, PyData.depth]
    omega
theorem shaped_sg (wd : Nat) (z : Int) : SeqAt.shaped (sg wd z) = true := by
  unfold SeqAt.shaped sg
  have h1 := lay_ints (dig wd z.natAbs)
  have h2 := dep_ints (dig wd z.natAbs)
  simp only [PyData.canLay0, PyData.canLayAll0, h1, PyData.depth, PyData.depthAll, Bool.and_self, Bool.true_and]
  refine decide_eq_true ?_
  omega
theorem eq_sg (wd : Nat) (z : Int) : PyData.eqv (sg wd z) (sg wd z) = true := PySem.SeqAt.eqv_refl _ (SeqAt.canLay_of_shaped (shaped_sg wd z))
theorem sg_zero (wd : Nat) : sg wd 0 = .tuple [.bool false, .list []] := by
  unfold sg
  rw [show (0 : Int).natAbs = 0 from rfl, dig_zero]; rfl
theorem shaped_zeros : SeqAt.shaped (.list [.tuple [.bool false, .list []], .tuple [.bool false, .list []], .tuple [.bool false, .list []]]) = true := by decide +kernel
theorem eq_zeros : PyData.eqv (.list [.tuple [.bool false, .list []], .tuple [.bool false, .list []], .tuple [.bool false, .list []]]) (.list [.tuple [.bool false, .list []], .tuple [.bool false, .list []], .tuple [.bool false, .list []]]) = true := by decide +kernel
def siftV (gs : List Int) (c1 : Nat) (m : Int) : Int := if (c1 : Int) ≤ gs.length then (gs.getD (c1 - 1) 0).fmod m else (10 * (c1 : Int) + (c1 : Int).fdiv 4 + 3).fmod m
theorem siftV_range (gs : List Int) (c1 : Nat) {m : Int} (hm : 0 < m) : 0 ≤ siftV gs c1 m ∧ siftV gs c1 m < m := by
  unfold siftV
  split <;> exact ⟨Int.fmod_nonneg_of_pos _ hm, Int.fmod_lt_of_pos _ hm⟩
set_option maxHeartbeats 4000000 in
theorem sifted_call {prog : Program} {w : World} {A : Around} {E : Value → Shared → Prop} {H : Heap} {f : Fm} {M : List (Addr × MO)} {D : List (Value × PyData)} {s : Shared} {Q : Value → Shared → Prop} {k : Nat} {mg mb : Str → Option Value}
    (W : Wd w mg mb H) (hA : Ok (k + 1) A) (S : St H f M D s) (i : Nat) {tb : Addr} {c : Nat} {gs : List Int} (hi : M[i]? = some (tb, .list [.int c, lz gs])) (hc : c ≤ 1000) (hg : gs.length ≤ 1000) {m : Int} {tm : Tok} (hm : 0 < m) (hm2 : m < 1000)
    (hQ : ∀ t M' s', M.set i (tb, .list [.int ((c + 1 : Nat) : Int), lz gs]) = M' → St H f M' D s' → Q (.int (siftV gs (c + 1) m) t) s') :
    wpAny (model prog w) A (call (.ref 184) [.ref tb, .int m tm]) Q E s := by
  refine callM W hA S hi (fun v => ∃ t, v = .int (siftV gs (c + 1) m) t) (ds' := [.int ((c + 1 : Nat) : Int), lz gs]) (binds := [(Str.ofString "tub", .ref tb), (Str.ofString "many", .int m tm)]) (by rfl) (by rfl) (by rfl) (locs rfl) (by decide)
    (fun v M' s' hR hM S' => by obtain ⟨t, rfl⟩ := hR; exact hQ t M' s' hM S') ?_
  clear hQ hi S hA
  intro A f L s hA S
  refine wpAny_execs_cons ?_
  with_reducible refine cut (P := fun s => St H f [(L, .ns [(Str.ofString "tub", .v (.ref tb)), (Str.ofString "many", .i m)]), (tb, .list [.int ((c + 1 : Nat) : Int), lz gs])] [] s) ?_ ?_
  · walk_at "mr"
    with_reducible refine itemI (i := (c : Int)) (ds := [.int c, lz gs]) (by assumption) ?_ (by omega) ?_ (by omega) ?_ ?_
    · walk_at "mhas"
    · rfl
    rotate_left 1
    · with_unfolding_all rfl
    intro _
    walk_at "mr"
    refine setL (by assumption) 1 (by rfl) (Kn.int _ _) (by omega) (by show (0 : Int) < 2; decide) (by show 2 ≤ 2 ^ 24; decide) ?_
    walk_at "mstc"
    rw [show List.set [PyData.int (c : Int), lz gs] (0 : Int).toNat (PyData.int ((c : Int) + 1)) = [.int ((c + 1 : Nat) : Int), lz gs] from by push_cast; rfl] at *
    exact ⟨by first | rfl | trivial, by walk_at "mst"⟩
  clear S
  intro s S
  generalize hc1 : c + 1 = c1 at *
  walk_at "mr"
  with_reducible refine itemI (i := (c1 : Int)) (ds := [.int c1, lz gs]) (by assumption) ?_ (by omega) ?_ (by omega) ?_ ?_
  · walk_at "mhas"
  · rfl
  rotate_left 1
  · with_unfolding_all rfl
  intro _
  walk_at "mr"
  with_reducible refine itemR (es := gs.map .int) (ds := [.int c1, lz gs]) (by assumption) ?_ (by omega) ?_ (by omega) ?_ ?_
  · walk_at "mhas"
  · rfl
  rotate_left 1
  · with_unfolding_all rfl
  intro b S'
  walk_at "mr"
  by_cases hle : (c1 : Int) ≤ gs.length
  · walk_at "mpos"
    walk_at "mr"
    with_reducible refine itemR (es := gs.map .int) (ds := [.int c1, lz gs]) (by assumption) ?_ (by omega) ?_ (by omega) ?_ ?_
    · walk_at "mhas"
    · rfl
    rotate_left 1
    · with_unfolding_all rfl
    intro b2 S2
    walk_at "mr"
    with_reducible refine itemI (i := (c1 : Int)) (ds := [.int c1, lz gs]) (by assumption) ?_ (by omega) ?_ (by omega) ?_ ?_
    · walk_at "mhas"
    · rfl
    rotate_left 1
    · with_unfolding_all rfl
    intro _
    walk_at "mr"
    with_reducible refine itemI (i := gs.getD (c1 - 1) 0) (ds := gs.map .int) (by assumption) ?_ (by omega) ?_ (by omega) ?_ ?_
    · exact Or.inl (by k_mem)
    · exact lz_get' (by omega) (by omega)
    rotate_left 1
    · with_unfolding_all rfl
    intro _
    walk_at "mr"
    rw [siftV, if_pos hle]
    exact ⟨_, _, _, rfl, ⟨_, rfl⟩, by assumption⟩
  · walk_at "mneg"
    walk_at "mr"
    with_reducible refine itemI (i := (c1 : Int)) (ds := [.int c1, lz gs]) (by assumption) ?_ (by omega) ?_ (by omega) ?_ ?_
    · walk_at "mhas"
    · rfl
    rotate_left 1
    · with_unfolding_all rfl
    intro _
    walk_at "mr"
    with_reducible refine itemI (i := (c1 : Int)) (ds := [.int c1, lz gs]) (by assumption) ?_ (by omega) ?_ (by omega) ?_ ?_
    · walk_at "mhas"
    · rfl
    rotate_left 1
    · with_unfolding_all rfl
    intro _
    walk_at "mr"
    rw [siftV, if_neg hle]
    exact ⟨_, _, _, rfl, ⟨_, rfl⟩, by assumption⟩
theorem sifted_vs {prog : Program} {w : World} {A : Around} {E : Value → Shared → Prop} {H : Heap} {f : Fm} {M : List (Addr × MO)} {D : List (Value × PyData)} {s : Shared} {Q : Value → Shared → Prop} {k : Nat} {mg mb : Str → Option Value}
    (W : Wd w mg mb H) (hA : Ok (k + 1) A) (S : St H f M D s) (i : Nat) {tb : Addr} {c : Nat} {gs : List Int} {m : Int} {tm : Tok} {vs : List Value} (hvs : vs = [.ref tb, .int m tm]) (hi : M[i]? = some (tb, .list [.int c, lz gs])) (hc : c ≤ 1000) (hg : gs.length ≤ 1000) (hm : 0 < m) (hm2 : m < 1000)
    (hQ : ∀ t M' s', M.set i (tb, .list [.int ((c + 1 : Nat) : Int), lz gs]) = M' → St H f M' D s' → Q (.int (siftV gs (c + 1) m) t) s') :
    wpAny (model prog w) A (call (.ref 184) vs) Q E s := by
  subst hvs
  exact sifted_call W hA S i hi hc hg hm hm2 hQ
local macro_rules | `(tactic| walk_at "msift1") => `(tactic| ((with_reducible refine' sifted_vs (by assumption) (by assumption) (by assumption) 1 ?v ?i ?c ?g ?m ?m2 ?h); (case v => rfl); (case i => rfl); (case c => first | decide | omega); (case g => assumption); (case m => first | decide | omega); (case m2 => first | decide | omega); intro _ _ _ hM9 _; simp only [List.set_cons_succ, List.set_cons_zero] at hM9; subst hM9))
local macro_rules | `(tactic| walk_at "msift4") => `(tactic| ((with_reducible refine' sifted_vs (by assumption) (by assumption) (by assumption) 4 ?v ?i ?c ?g ?m ?m2 ?h); (case v => rfl); (case i => rfl); (case c => first | decide | omega); (case g => assumption); (case m => first | decide | omega); (case m2 => first | decide | omega); intro _ _ _ hM9 _; simp only [List.set_cons_succ, List.set_cons_zero] at hM9; subst hM9))
noncomputable def lawParts : { p : List Stmt × Scope // ∀ w, ∃ oc od name qual params dV kV doc pm an cdv ct osl, (KW w).lookup 222 = some ⟨oc, od, .func (fnOf name qual params p.1 p.2 dV kV doc pm an cdv ct), osl⟩ } :=
  ⟨(_, _), fun w => ⟨_, _, _, _, _, _, _, _, _, _, _, _, _, rfl⟩⟩
noncomputable abbrev lawEnv (L fa : Addr) (cd : Value) : Env := envX (Str.ofString "law") lawParts.1.2 L fa cd [(Str.ofString "first", L + 6), (Str.ofString "more", L + 5), (Str.ofString "spot", L + 4), (Str.ofString "row", L + 3), (Str.ofString "w", L + 2), (Str.ofString "tub", L + 1)]
noncomputable abbrev lawBody (i : Nat) : List Stmt := lawParts.1.1.drop i
def tamed (g : Int) : Int := if g < 0 then -g else g
def gsOf (ns : List Int) : List Int := (ns.take 9).map tamed
theorem intsAll {G : View} : ∀ {vs : List Value} {ns : List Int}, IntsAre vs ns → IsAll G vs (ns.map PyData.int)
  | _, _, .nil => .nil
  | _, _, .cons n t r => .cons (.int n t) (intsAll r)
theorem slice_in {prog : Program} {w : World} {A : Around} {E : Value → Shared → Prop} {H : Heap} {f : Fm} {M : List (Addr × MO)} {D : List (Value × PyData)} {s : Shared} {Q : Value → Shared → Prop} {a sl : Addr} {vs : List Value} {ns : List Int} {value slice : Expr} {t : Tok} {b : Nat}
    (S : St H f M D s) (hl : s.heap.IsList a vs.toArray) (hI : IntsAre vs ns) (hsl : s.heap.IsSliceOf sl .none (.int b t) .none)
    (hsz : vs.length ≤ sizeLine) (h : ∀ c s', St H f M ((.ref c, lz (ns.take b)) :: D) s' → Q (.ref c) s')
    (hs : subscripted slice false (.ref a) (.ref sl) = operate [.ref sl, .ref a] (getItem (.ref a) (.ref sl)))
    (ht : ∀ r, letTemporaryGo value (.ref a) r = pure ()) :
    wpAny (model prog w) A (subscriptTail value slice (.ref a) (.ref sl)) Q E s := by
  refine subscriptTail_ops hl.typeIs list_getitem_lookup (wpAny_getItem_list_slice hl hsl .none (.int _ _) .none (by simp) (h _ _ ?_) (by rw [List.size_toArray]; exact hsz)) hs ht
  rw [slicePick_upto']
  refine S.addD (o := lstObj (vs.take b) 0) (tk := s.toks) (size_none _) (push_keeps _) (Heap.get?_push_size _ rfl) fun G' V' G'' hle e'' => ?_
  rw [lz_take]
  exact .list e'' ((intsAll hI).take b)
set_option maxHeartbeats 8000000 in
theorem law0 {prog : Program} {w : World} {mg mb : Str → Option Value} {H : Heap} {A : Around} {f : Fm} {L fa : Addr} {cd : Value} {Q : Flow → Shared → Prop} {E : Value → Shared → Prop} {s : Shared} {k : Nat} (W : Wd w mg mb H) (hA : Ok k A) {sl : Addr} {vs : List Value} {ns : List Int} (hl : f.s0.heap.IsList sl vs.toArray) (hI : IntsAre vs ns) (hn : ns.length ≤ 63)
    (S : St H f [(L, .ns [(Str.ofString "script", .v (.ref sl))]), (L + 6, .cell none), (L + 5, .cell none), (L + 4, .cell none), (L + 3, .cell none), (L + 2, .cell none), (L + 1, .cell none)] [] s)
    (h : ∀ s tb, St H f [(L, .ns []), (tb, .list [.int ((0 : Nat) : Int), lz (gsOf ns)]), (L + 6, .cell none), (L + 5, .cell none), (L + 4, .cell none), (L + 3, .cell none), (L + 2, .cell none), (L + 1, .cell (some (.ref tb)))] [] s → wpAny (model prog w) A (execs (lawBody 1) (lawEnv L fa cd)) Q E s) :
    wpAny (model prog w) A (execs (lawBody 0) (lawEnv L fa cd)) Q E s := by
  have hvl : vs.length ≤ sizeLine := by rw [hI.length]; show _ ≤ 2 ^ 24; omega
  obtain ⟨lo, hlo, hlc⟩ := hl
  refine wpAny_execs_cons ?_
  with_reducible refine cut (P := fun s => ∃ tb, St H f [(L, .ns []), (tb, .list [.int ((0 : Nat) : Int), lz (gsOf ns)]), (L + 6, .cell none), (L + 5, .cell none), (L + 4, .cell none), (L + 3, .cell none), (L + 2, .cell none), (L + 1, .cell (some (.ref tb)))] [] s) ?_ ?_
  · walk_at "mr"
    with_reducible refine ListComp_ (cl := []) ?_ ?_ ?_ ?_ ?_ ?_
    walk_at "mlc"
    walk_at "mr"
    refine ⟨_, _, _, _, by assumption, fun sc s' S' hsl => ?_⟩
    refine slice_in (ns := ns) (b := 9) (by assumption) ⟨lo, S'.keep _ _ hlo, hlc⟩ hI hsl hvl (fun c s' S' => ?_) (by with_unfolding_all rfl) (by intro _; with_unfolding_all rfl)
    with_reducible refine iterL (ds := (ns.take 9).map PyData.int) S' ?_ ?_
    · walk_at "mhas"
    intro I o s₂ hI S₂
    refine ⟨I, _, _, _, _, _, _, rfl, S₂, fun _ _ _ S h => selfL hI S h, fun acc C s₃ S₃ => ?_⟩
    with_reducible refine CompL (ds := (ns.take 9).map PyData.int) hA ?_ (fun i => ((gsOf ns).take i).map .int) (fun _ => [(L + 6, .cell none), (L + 5, .cell none), (L + 4, .cell none), (L + 3, .cell none), (L + 2, .cell none), (L + 1, .cell none)]) rfl hI S₃ ?_ ?_ ?_ ?_ ?_ ?_
    · k_mem
    · intro i hi
      rw [List.length_map, List.length_take]
      have : (gsOf ns).length ≤ 9 := by rw [gsOf, List.length_map, List.length_take]; omega
      show _ ≤ 2 ^ 24
      omega
    rotate_left 2
    · rfl
    · rfl
    · rfl
    · clear S S' S₂ S₃
      intro i s v d o' hd S E'
      rw [List.getElem?_map] at hd
      obtain ⟨x, hx, rfl⟩ := Option.map_eq_some_iff.mp hd
      obtain ⟨tp, rfl⟩ := S.int (.head _)
      refine CStep.plain ?_
      walk_at "mr"
      with_reducible refine call_int_int ?_
      walk_at "mr"
      with_reducible refine absI (by assumption) ?_
      intro _ _ _
      have e : (gsOf ns)[i]? = some (if x < 0 then -x else x) := by rw [gsOf, List.getElem?_map, hx]; rfl
      refine ⟨.int (if x < 0 then -x else x), _, _, ?_, fun _ h => .tail _ h, Kn.int _ _, by assumption⟩
      rw [take_snoc e, List.map_append]; rfl
    · intro s S
      refine cpost S (fun s' S' => ?_)
      have S1 := St.freeze S' 1 rfl
      simp only [List.eraseIdx_cons_succ, List.eraseIdx_cons_zero] at S1
      have e : ((ns.take 9).map PyData.int).length = (gsOf ns).length := by rw [List.length_map, gsOf, List.length_map]
      rw [e, List.take_length] at S1
      walk_at "mr"
      with_reducible refine newLM (ds := [.int ((0 : Nat) : Int), lz (gsOf ns)]) S1 ?_ ?_ (Nat.le_of_ble_eq_true rfl)
      · exact .cons (Kn.int _ _) (.cons (Kn.mem (by k_mem)) .nil)
      intro tb s' S'
      walk_at "mr"
      exact ⟨by first | rfl | trivial, tb, by walk_at "mst"⟩
  clear S
  rintro s ⟨tb, S⟩
  exact h s tb S
set_option maxHeartbeats 8000000 in
theorem law1 {prog : Program} {w : World} {mg mb : Str → Option Value} {H : Heap} {A : Around} {f : Fm} {L fa : Addr} {cd : Value} {Q : Flow → Shared → Prop} {E : Value → Shared → Prop} {s : Shared} {k : Nat} (W : Wd w mg mb H) (hA : Ok (k + 1) A) {tb : Addr} {gs : List Int} (hg : gs.length ≤ 1000)
    (S : St H f [(L, .ns []), (tb, .list [.int ((0 : Nat) : Int), lz gs]), (L + 6, .cell none), (L + 5, .cell none), (L + 4, .cell none), (L + 3, .cell none), (L + 2, .cell none), (L + 1, .cell (some (.ref tb)))] [] s)
    (h : ∀ s (wd n spot more : Nat) (tw ts tm : Tok) (r : Addr) (rs : List Int), 3 ≤ wd → wd ≤ 8 → n ≤ 4 → spot < n + 4 → 1 ≤ more → more ≤ 9 → rs.length = n + 1 → (∀ x ∈ rs, -5 ≤ x ∧ x ≤ 5) →
      St H f [(L, .ns [(Str.ofString "n", .i n), (Str.ofString "many", .i (n + 4 : Nat))]), (L + 6, .cell none), (L + 5, .cell (some (.int more tm))), (L + 4, .cell (some (.int spot ts))), (L + 3, .cell (some (.ref r))), (L + 2, .cell (some (.int wd tw)))] [(.ref r, lz rs)] s → wpAny (model prog w) A (execs (lawBody 5) (lawEnv L fa cd)) Q E s) :
    wpAny (model prog w) A (execs (lawBody 1) (lawEnv L fa cd)) Q E s := by
  refine wpAny_execs_cons ?_
  with_reducible refine cut (P := fun s => ∃ (wd n : Nat) (tw : Tok), 3 ≤ wd ∧ wd ≤ 8 ∧ n ≤ 4 ∧ St H f [(L, .ns [(Str.ofString "n", .i n)]), (tb, .list [.int ((2 : Nat) : Int), lz gs]), (L + 6, .cell none), (L + 5, .cell none), (L + 4, .cell none), (L + 3, .cell none), (L + 2, .cell (some (.int wd tw))), (L + 1, .cell (some (.ref tb)))] [] s) ?_ ?_
  · walk_at "mr"
    walk_at "msift1"
    walk_at "mr"
    walk_at "msift1"
    have r1 := siftV_range gs (0 + 1) (m := 6) (by decide)
    have r2 := siftV_range gs (0 + 1 + 1) (m := 5) (by decide)
    obtain ⟨wd, hwd⟩ : ∃ wd : Nat, (3 + siftV gs (0 + 1) 6) = wd := ⟨(3 + siftV gs (0 + 1) 6).toNat, by omega⟩
    obtain ⟨n, hn⟩ : ∃ n : Nat, siftV gs (0 + 1 + 1) 5 = n := ⟨(siftV gs (0 + 1 + 1) 5).toNat, by omega⟩
    have b1 : 3 ≤ wd ∧ wd ≤ 8 ∧ n ≤ 4 := by omega
    rw [hwd, hn] at *
    walk_at "mr"
    walk_at "mtup"
    walk_at "mr"
    exact ⟨by first | rfl | trivial, wd, n, _, b1.1, b1.2.1, b1.2.2, by walk_at "mst"⟩
  clear S
  rintro s ⟨wd, n, tw, hw3, hw8, hn4, S⟩
  refine wpAny_execs_cons ?_
  with_reducible refine cut (P := fun s => ∃ (r : Addr) (rs : List Int), rs.length = n + 1 ∧ (∀ x ∈ rs, -5 ≤ x ∧ x ≤ 5) ∧ St H f [(L, .ns [(Str.ofString "n", .i n)]), (tb, .list [.int ((2 + (n + 1) : Nat) : Int), lz gs]), (L + 6, .cell none), (L + 5, .cell none), (L + 4, .cell none), (L + 3, .cell (some (.ref r))), (L + 2, .cell (some (.int wd tw))), (L + 1, .cell (some (.ref tb)))] [(.ref r, lz rs)] s) ?_ ?_
  · walk_at "mr"
    with_reducible refine ListComp_ (cl := [(Str.ofString "tub", L + 1)]) ?_ ?_ ?_ ?_ ?_ ?_
    walk_at "mlc"
    walk_at "mr"
    walk_at "mr1"
    with_reducible refine iterR1 (n + 1) (by assumption) (.inl (by omega)) (by omega) (by omega) (by omega) (by omega) ?_
    intro J s₂ S₂
    generalize hrl : (List.range (n + 1)).map (fun i => siftV gs (2 + i + 1) 11 - 5) = rl
    have hrlen : rl.length = n + 1 := by rw [← hrl, List.length_map, List.length_range]
    refine ⟨J, _, _, _, _, _, _, rfl, S₂, fun _ _ _ S h => selfR S h, fun acc C s₃ S₃ => ?_⟩
    with_reducible refine CompR hA (n + 1) 0 1 (fun i => (rl.take i).map .int) (fun i => [(tb, .list [.int ((2 + i : Nat) : Int), lz gs]), (L + 6, .cell none), (L + 5, .cell none), (L + 4, .cell none), (L + 3, .cell none), (L + 2, .cell (some (.int wd tw))), (L + 1, .cell (some (.ref tb)))]) rfl S₃ ?_ ?_ ?_ ?_ ?_ ?_
    · intro i hi
      rw [List.length_map, List.length_take]
      show _ ≤ 2 ^ 24
      omega
    rotate_left 2
    · rfl
    · rfl
    · rfl
    · clear S S₂ S₃
      intro i s t hi S E'
      refine CStep.plain ?_
      walk_at "mr"
      walk_at "msift4"
      walk_at "mr"
      have e : rl[i]? = some (siftV gs (2 + i + 1) 11 - 5) := by rw [← hrl, List.getElem?_map, List.getElem?_range hi]; rfl
      refine ⟨.int (siftV gs (2 + i + 1) 11 - 5), _, _, ?_, fun _ h => h, Kn.int _ _, by assumption⟩
      rw [take_snoc e, List.map_append]; rfl
    · intro s S
      refine cpost S (fun s' S' => ?_)
      have S1 := St.freeze S' 1 rfl
      simp only [List.eraseIdx_cons_succ, List.eraseIdx_cons_zero] at S1
      rw [List.take_of_length_le (by omega)] at S1
      walk_at "mr"

      refine ⟨by first | rfl | trivial, acc, rl, by assumption, fun x hx => ?_, by walk_at "mst"⟩
      rw [← hrl] at hx
      obtain ⟨i, _, rfl⟩ := List.mem_map.mp hx
      have := siftV_range gs (2 + i + 1) (m := 11) (by decide)
      omega
  clear S
  rintro s ⟨r, rs, hrs, hrb, S⟩
  refine wpAny_execs_cons ?_
  with_reducible refine cut (P := fun s => St H f [(L, .ns [(Str.ofString "n", .i n), (Str.ofString "many", .i (n + 4 : Nat))]), (tb, .list [.int ((2 + (n + 1) : Nat) : Int), lz gs]), (L + 6, .cell none), (L + 5, .cell none), (L + 4, .cell none), (L + 3, .cell (some (.ref r))), (L + 2, .cell (some (.int wd tw))), (L + 1, .cell (some (.ref tb)))] [(.ref r, lz rs)] s) ?_ ?_
  · walk_at "mr"
    exact ⟨by first | rfl | trivial, by walk_at "mst"⟩
  clear S
  intro s S
  refine wpAny_execs_cons ?_
  with_reducible refine cut (P := fun s => ∃ (spot more : Nat) (ts tm : Tok), spot < n + 4 ∧ 1 ≤ more ∧ more ≤ 9 ∧ St H f [(L, .ns [(Str.ofString "n", .i n), (Str.ofString "many", .i (n + 4 : Nat))]), (L + 6, .cell none), (L + 5, .cell (some (.int more tm))), (L + 4, .cell (some (.int spot ts))), (L + 3, .cell (some (.ref r))), (L + 2, .cell (some (.int wd tw)))] [(.ref r, lz rs)] s) ?_ ?_
  · generalize hc : 2 + (n + 1) = c at *
    generalize hm : ((n + 4 : Nat) : Int) = m at *
    walk_at "mr"
    walk_at "msift1"
    walk_at "mr"
    walk_at "msift1"
    have r1 := siftV_range gs (c + 1) (m := m) (by omega)
    have r2 := siftV_range gs (c + 1 + 1) (m := 9) (by decide)
    obtain ⟨spot, hs⟩ : ∃ wd : Nat, siftV gs (c + 1) m = wd := ⟨(siftV gs (c + 1) m).toNat, by omega⟩
    walk_at "mr"
    obtain ⟨more, hmo⟩ : ∃ n : Nat, 1 + siftV gs (c + 1 + 1) 9 = n := ⟨(1 + siftV gs (c + 1 + 1) 9).toNat, by omega⟩
    have b1 : spot < n + 4 ∧ 1 ≤ more ∧ more ≤ 9 := by omega
    rw [hs, hmo] at *
    walk_at "mtup"
    walk_at "mr"
    exact ⟨by first | rfl | trivial, spot, more, _, _, b1.1, b1.2.1, b1.2.2, by walk_at "mst"⟩
  clear S
  rintro s ⟨spot, more, ts, tm, hs, hm1, hm9, S⟩
  exact h s wd n spot more tw ts tm r rs hw3 hw8 hn4 hs hm1 hm9 hrs hrb S
set_option maxHeartbeats 8000000 in
theorem law2 {prog : Program} {w : World} {mg mb : Str → Option Value} {H : Heap} {A : Around} {f : Fm} {L fa : Addr} {cd : Value} {Q : Flow → Shared → Prop} {E : Value → Shared → Prop} {s : Shared} {k : Nat} (W : Wd w mg mb H) (hA : Ok (k + 25) A) {wd n spot more : Nat} {tw ts tm : Tok} {r : Addr} {rs : List Int} (hw3 : 3 ≤ wd) (hw8 : wd ≤ 8) (hn : n ≤ 4) (hrs : rs.length = n + 1) (hrb : ∀ x ∈ rs, -5 ≤ x ∧ x ≤ 5)
    (S : St H f [(L, .ns [(Str.ofString "n", .i n), (Str.ofString "many", .i (n + 4 : Nat))]), (L + 6, .cell none), (L + 5, .cell (some (.int more tm))), (L + 4, .cell (some (.int spot ts))), (L + 3, .cell (some (.ref r))), (L + 2, .cell (some (.int wd tw)))] [(.ref r, lz rs)] s)
    (h : ∀ s v lv, St H f [(L, .ns [(Str.ofString "n", .i n), (Str.ofString "many", .i (n + 4 : Nat)), (Str.ofString "values", .v (.ref v)), (Str.ofString "levels", .v (.ref lv))]), (L + 6, .cell none), (L + 5, .cell (some (.int more tm))), (L + 4, .cell (some (.int spot ts))), (L + 3, .cell (some (.ref r))), (L + 2, .cell (some (.int wd tw)))] [(.ref lv, .list ((levs (valsOf rs n) (n + 1)).map (zl wd))), (.ref v, zl wd (valsOf rs n)), (.ref r, lz rs)] s → wpAny (model prog w) A (execs (lawBody 7) (lawEnv L fa cd)) Q E s) :
    wpAny (model prog w) A (execs (lawBody 5) (lawEnv L fa cd)) Q E s := by
  have hw0 : 0 < wd := by omega
  have hw20 : wd ≤ 20 := by omega
  have p20 : (2 : Nat) ^ 20 < 2 ^ 1000 := Nat.pow_lt_pow_right (by decide) (by decide)
  refine wpAny_execs_cons ?_
  with_reducible refine cut (P := fun s => ∃ v, St H f [(L, .ns [(Str.ofString "n", .i n), (Str.ofString "many", .i (n + 4 : Nat)), (Str.ofString "values", .v (.ref v))]), (L + 6, .cell none), (L + 5, .cell (some (.int more tm))), (L + 4, .cell (some (.int spot ts))), (L + 3, .cell (some (.ref r))), (L + 2, .cell (some (.int wd tw)))] [(.ref v, zl wd (valsOf rs n)), (.ref r, lz rs)] s) ?_ ?_
  · with_reducible refine AssignComp_ (cl := [(Str.ofString "w", L + 2), (Str.ofString "row", L + 3)]) ?_ ?_ ?_ ?_ ?_ ?_ ?_
    walk_at "mac"
    walk_at "mr"
    walk_at "mr1"
    with_reducible refine iterR1 (n + 4) (by assumption) (.inl (by omega)) (by omega) (by omega) (by omega) (by omega) ?_
    intro J s₂ S₂
    have hvl := vals_len rs n
    refine ⟨J, _, _, _, _, _, _, rfl, S₂, fun _ _ _ S h => selfR S h, fun acc C s₃ S₃ => ?_⟩
    with_reducible refine CompR hA (n + 4) 0 1 (fun i => ((valsOf rs n).take i).map (sg wd)) (fun i => [(L + 6, .cell none), (L + 5, .cell (some (.int more tm))), (L + 4, .cell (some (.int spot ts))), (L + 3, .cell (some (.ref r))), (L + 2, .cell (some (.int wd tw)))]) rfl S₃ ?_ ?_ ?_ ?_ ?_ ?_
    · intro i hi
      rw [List.length_map, List.length_take]
      show _ ≤ 2 ^ 24
      omega
    rotate_left 2
    · rfl
    · rfl
    · rfl
    · clear S S₂ S₃
      intro i s t hi S E'
      rw [show ((0 : Int) + i * 1) = ((i : Nat) : Int) by omega] at S
      refine CStep.plain ?_
      walk_at "mr"
      with_reducible refine callI (law_worth_spec W (k + 24) rs i (by omega) (by omega)) (by assumption) ?_ ?_ ?_
      walk_at "mcall"
      intro _ _ _
      walk_at "mr"
      have hb := worth_bound (rs := rs) (k := i) (by omega) (by omega) hrb
      with_reducible refine callD (law_signed_spec W (k + 23) wd hw0 hw20 (worth rs i) (Nat.lt_trans hb p20)) (by assumption) ?_ ?_ ?_
      walk_at "mcall"
      intro r1 s4 S4
      have e : (valsOf rs n)[i]? = some (worth rs i) := by rw [valsOf, List.getElem?_map, List.getElem?_range hi]; rfl
      refine ⟨sg wd (worth rs i), _, _, ?_, fun _ h => .tail _ h, .mem (.head _), S4⟩
      rw [take_snoc e, List.map_append]; rfl
    · intro s S
      refine cpostA S (fun s' S' => ?_)
      have S1 := St.freeze S' 1 rfl
      simp only [List.eraseIdx_cons_succ, List.eraseIdx_cons_zero] at S1
      rw [List.take_of_length_le (by omega)] at S1
      exact ⟨by first | rfl | trivial, acc, by walk_at "mst"⟩
  clear S
  rintro s ⟨v, S⟩
  refine wpAny_execs_cons ?_
  with_reducible refine cut (P := fun s => ∃ lv, St H f [(L, .ns [(Str.ofString "n", .i n), (Str.ofString "many", .i (n + 4 : Nat)), (Str.ofString "values", .v (.ref v)), (Str.ofString "levels", .v (.ref lv))]), (L + 6, .cell none), (L + 5, .cell (some (.int more tm))), (L + 4, .cell (some (.int spot ts))), (L + 3, .cell (some (.ref r))), (L + 2, .cell (some (.int wd tw)))] [(.ref lv, .list ((levs (valsOf rs n) (n + 1)).map (zl wd))), (.ref v, zl wd (valsOf rs n)), (.ref r, lz rs)] s) ?_ ?_
  · walk_at "mr"
    rw [show ((n : Int) + 1) = ((n + 1 : Nat) : Int) by push_cast; rfl] at *
    with_reducible refine callR (levels_num W (k + 20) wd hw0 hw20 (valsOf rs n) (n + 1) ?_ ?_ ?_) (by assumption) ?_ ?_ ?_
    · rw [vals_len]; omega
    · omega
    · intro j hj i
      have := difN_bound (vals_bound hn hrs hrb) j i
      have h2 : (2 : Nat) ^ j * 2 ^ 20 ≤ 2 ^ 999 := by rw [← Nat.pow_add]; exact Nat.pow_le_pow_right (by decide) (by omega)
      exact Nat.lt_of_lt_of_le this h2
    walk_at "mcall"
    intro lv s' S'
    walk_at "mr"
    exact ⟨by first | rfl | trivial, lv, by walk_at "mst"⟩
  clear S
  rintro s ⟨lv, S⟩
  exact h s v lv S
def firstsOf (rs : List Int) (n : Nat) : List Int := (List.range (n + 1)).map fun j => (difN (valsOf rs n) j).getD 0 0
theorem bound999 {a : Nat} {z : Int} (h : z.natAbs < 2 ^ a) (ha : a ≤ 999) : z.natAbs < 2 ^ 999 := Nat.lt_of_lt_of_le h (Nat.pow_le_pow_right (by decide) ha)
theorem bound400 {a : Nat} {z : Int} (h : z.natAbs < 2 ^ a) (ha : a ≤ 400) : z.natAbs < 2 ^ 400 := Nat.lt_of_lt_of_le h (Nat.pow_le_pow_right (by decide) ha)
theorem bound1000 {a : Nat} {z : Int} (h : z.natAbs < 2 ^ a) (ha : a ≤ 1000) : z.natAbs < 2 ^ 1000 := Nat.lt_of_lt_of_le h (Nat.pow_le_pow_right (by decide) ha)
theorem nat400 {a z : Nat} (h : z < 2 ^ a) (ha : a ≤ 400) : z < 2 ^ 400 := Nat.lt_of_lt_of_le h (Nat.pow_le_pow_right (by decide) ha)
theorem facV_lt : ∀ n, n ≤ 4 → facV n < 2 ^ 10 := by decide
theorem rs_bound {rs : List Int} (hrb : ∀ x ∈ rs, -5 ≤ x ∧ x ≤ 5) (i : Nat) : (rs.getD i 0).natAbs < 2 ^ 10 := by
  by_cases h : i < rs.length
  · have : rs.getD i 0 = rs[i] := by simp [List.getD, h]
    rw [this]
    have := hrb _ (List.getElem_mem h)
    omega
  · rw [List.getD_eq_getElem?_getD, List.getElem?_eq_none (by omega)]; decide
set_option maxHeartbeats 8000000 in
theorem law3 {prog : Program} {w : World} {mg mb : Str → Option Value} {H : Heap} {A : Around} {f : Fm} {L fa : Addr} {cd : Value} {Q : Flow → Shared → Prop} {E : Value → Shared → Prop} {s : Shared} {k : Nat} (W : Wd w mg mb H) (hA : Ok (k + 25) A) {wd n spot more : Nat} {tw ts tm : Tok} {r v lv : Addr} {rs : List Int} (hw3 : 3 ≤ wd) (hw8 : wd ≤ 8) (hn : n ≤ 4) (hrs : rs.length = n + 1) (hrb : ∀ x ∈ rs, -5 ≤ x ∧ x ≤ 5)
    (S : St H f [(L, .ns [(Str.ofString "n", .i n), (Str.ofString "many", .i (n + 4 : Nat)), (Str.ofString "values", .v (.ref v)), (Str.ofString "levels", .v (.ref lv))]), (L + 6, .cell none), (L + 5, .cell (some (.int more tm))), (L + 4, .cell (some (.int spot ts))), (L + 3, .cell (some (.ref r))), (L + 2, .cell (some (.int wd tw)))] [(.ref lv, .list ((levs (valsOf rs n) (n + 1)).map (zl wd))), (.ref v, zl wd (valsOf rs n)), (.ref r, lz rs)] s)
    (h : ∀ s fi, St H f [(L, .ns [(Str.ofString "n", .i n), (Str.ofString "many", .i (n + 4 : Nat)), (Str.ofString "values", .v (.ref v))]), (L + 6, .cell (some (.ref fi))), (L + 5, .cell (some (.int more tm))), (L + 4, .cell (some (.int spot ts))), (L + 3, .cell (some (.ref r))), (L + 2, .cell (some (.int wd tw)))] [(.ref fi, zl wd (firstsOf rs n)), (.ref v, zl wd (valsOf rs n)), (.ref r, lz rs)] s → wpAny (model prog w) A (execs (lawBody 10) (lawEnv L fa cd)) Q E s) :
    wpAny (model prog w) A (execs (lawBody 7) (lawEnv L fa cd)) Q E s := by
  have hw0 : 0 < wd := by omega
  have hw20 : wd ≤ 20 := by omega
  obtain ⟨top1, top2⟩ := dif_top hn hrs
  have hvl := vals_len rs n
  have hll := levs_len (valsOf rs n) (n + 1)
  refine wpAny_execs_cons ?_
  with_reducible refine cut (P := fun s => St H f [(L, .ns [(Str.ofString "n", .i n), (Str.ofString "many", .i (n + 4 : Nat)), (Str.ofString "values", .v (.ref v)), (Str.ofString "levels", .v (.ref lv))]), (L + 6, .cell none), (L + 5, .cell (some (.int more tm))), (L + 4, .cell (some (.int spot ts))), (L + 3, .cell (some (.ref r))), (L + 2, .cell (some (.int wd tw)))] [(.ref lv, .list ((levs (valsOf rs n) (n + 1)).map (zl wd))), (.ref v, zl wd (valsOf rs n)), (.ref r, lz rs)] s) ?_ ?_
  · walk_at "mr"
    with_reducible refine itemR (ds := (levs (valsOf rs n) (n + 1)).map (zl wd)) (es := (difN (valsOf rs n) n).map (sg wd)) (by assumption) ?_ (by omega) ?_ (by omega) ?_ ?_
    · walk_at "mhas"
    · rw [Int.toNat_natCast, List.getElem?_map, levs_get _ _ _ (by omega)]; rfl
    rotate_left 1
    · with_unfolding_all rfl
    intro b1 S1
    walk_at "mr"
    with_reducible refine itemV (ds := (difN (valsOf rs n) n).map (sg wd)) (d := sg wd ((difN (valsOf rs n) n).getD 0 0)) (by assumption) ?_ (by omega) ?_ (by omega) ?_ ?_
    · walk_at "mhas"
    · exact zl_get rfl (by rw [difN_len]; omega)
    rotate_left 1
    · with_unfolding_all rfl
    intro v1 S2
    walk_at "mr"
    with_reducible refine callR (factorial_num W (k + 8) wd hw0 hw20 n hn) (by assumption) ?_ ?_ ?_
    walk_at "mcall"
    intro fc s3 S3
    walk_at "mr"
    with_reducible refine itemI (i := rs.getD n 0) (ds := rs.map .int) (by assumption) ?_ (by omega) ?_ (by omega) ?_ ?_
    · exact Or.inl (by k_mem)
    · exact lz_get' (Int.toNat_natCast n) (by omega)
    rotate_left 1
    · with_unfolding_all rfl
    intro _
    walk_at "mr"
    have hrn := rs_bound hrb n
    with_reducible refine callD (law_signed_spec W (k + 23) wd hw0 hw20 (rs.getD n 0) (bound1000 hrn (by decide))) (by assumption) ?_ ?_ ?_
    walk_at "mcall"
    intro v2 s4 S4
    walk_at "mr"
    with_reducible refine callD (law_times_num W (k + 21) wd hw0 hw20 (facV n) (rs.getD n 0) (nat400 (facV_lt n hn) (by decide)) (bound400 hrn (by decide))) (by assumption) ?_ ?_ ?_
    walk_at "mcall"
    intro v3 s5 S5
    walk_at "mr"
    rw [← top1] at S5
    with_reducible refine neD (d := sg wd ((difN (valsOf rs n) n).getD 0 0)) (e := sg wd ((difN (valsOf rs n) n).getD 0 0)) hA S5 ?_ ?_ (shaped_sg _ _) (shaped_sg _ _) ?_
    · exact .mem (by k_mem)
    · exact .mem (.head _)
    rw [eq_sg, show (!true) = false from rfl]
    walk_at "mr"
    exact ⟨by first | rfl | trivial, by walk_at "mst"⟩
  clear S
  intro s S
  refine wpAny_execs_cons ?_
  with_reducible refine cut (P := fun s => St H f [(L, .ns [(Str.ofString "n", .i n), (Str.ofString "many", .i (n + 4 : Nat)), (Str.ofString "values", .v (.ref v)), (Str.ofString "levels", .v (.ref lv))]), (L + 6, .cell none), (L + 5, .cell (some (.int more tm))), (L + 4, .cell (some (.int spot ts))), (L + 3, .cell (some (.ref r))), (L + 2, .cell (some (.int wd tw)))] [(.ref lv, .list ((levs (valsOf rs n) (n + 1)).map (zl wd))), (.ref v, zl wd (valsOf rs n)), (.ref r, lz rs)] s) ?_ ?_
  · walk_at "mr"
    with_reducible refine itemR (ds := (levs (valsOf rs n) (n + 1)).map (zl wd)) (es := (difN (valsOf rs n) (n + 1)).map (sg wd)) (by assumption) ?_ (by omega) ?_ (by omega) ?_ ?_
    · walk_at "mhas"
    · rw [show ((n : Int) + 1).toNat = n + 1 by omega, List.getElem?_map, levs_get _ _ _ (by omega)]; rfl
    rotate_left 1
    · with_unfolding_all rfl
    intro b1 S1
    walk_at "mr"
    rename_i z _ S2
    have S2 := St.freeze S2 1 rfl
    simp only [List.eraseIdx_cons_succ, List.eraseIdx_cons_zero] at S2
    with_reducible refine newTD (ds := [.bool false, .list []]) S2 ?_ ?_ (Nat.le_of_ble_eq_true rfl)
    · exact .cons (Kn.bool _) (.cons (Kn.mem (by k_mem)) .nil)
    intro t1 s3 S3
    walk_at "mr"
    with_reducible refine newLM (ds := [.tuple [.bool false, .list []]]) S3 ?_ ?_ (Nat.le_of_ble_eq_true rfl)
    · exact .cons (Kn.mem (.head _)) .nil
    intro q1 s4 S4
    walk_at "mr"
    have e3 : (((n + 4 : Nat) : Int) - n - 1).toNat = 3 := by omega
    with_reducible refine mulL (ds := [.tuple [.bool false, .list []]]) (by assumption) ?_ ?_ ?_ ?_ ?_
    · walk_at "mhas"
    · omega
    · omega
    · rw [e3]; decide
    intro q2 s5 S5
    rw [e3] at S5
    have S6 := St.freeze S5 1 rfl
    simp only [List.eraseIdx_cons_succ, List.eraseIdx_cons_zero] at S6
    walk_at "mr"
    with_reducible refine neD (d := .list [.tuple [.bool false, .list []], .tuple [.bool false, .list []], .tuple [.bool false, .list []]]) (e := .list [.tuple [.bool false, .list []], .tuple [.bool false, .list []], .tuple [.bool false, .list []]]) hA S6 ?_ ?_ shaped_zeros shaped_zeros ?_
    · have e0 : PyData.list ((difN (valsOf rs n) (n + 1)).map (sg wd)) = .list [.tuple [.bool false, .list []], .tuple [.bool false, .list []], .tuple [.bool false, .list []]] := by
        rw [top2]
        show PyData.list [sg wd 0, sg wd 0, sg wd 0] = _
        rw [sg_zero]
      rw [← e0]
      exact .mem (by k_mem)
    · exact .mem (.head _)
    rw [eq_zeros, show (!true) = false from rfl]
    walk_at "mr"
    exact ⟨by first | rfl | trivial, by walk_at "mst"⟩
  clear S
  intro s S
  refine wpAny_execs_cons ?_
  with_reducible refine cut (P := fun s => ∃ fi, St H f [(L, .ns [(Str.ofString "n", .i n), (Str.ofString "many", .i (n + 4 : Nat)), (Str.ofString "values", .v (.ref v))]), (L + 6, .cell (some (.ref fi))), (L + 5, .cell (some (.int more tm))), (L + 4, .cell (some (.int spot ts))), (L + 3, .cell (some (.ref r))), (L + 2, .cell (some (.int wd tw)))] [(.ref fi, zl wd (firstsOf rs n)), (.ref v, zl wd (valsOf rs n)), (.ref r, lz rs)] s) ?_ ?_
  · walk_at "mr"
    with_reducible refine ListComp_ (cl := []) ?_ ?_ ?_ ?_ ?_ ?_
    walk_at "mlc"
    walk_at "mr"
    refine ⟨_, _, _, _, by assumption, fun sc s' S' hsl => ?_⟩
    rw [show ((n : Int) + 1) = ((n + 1 : Nat) : Int) by push_cast; rfl] at hsl
    refine slice_upto (ds := (levs (valsOf rs n) (n + 1)).map (zl wd)) (b := n + 1) (by assumption) (.inl (by k_mem)) (by assumption) (by rw [List.length_map, hll]; show _ ≤ 2 ^ 24; omega) (fun c s' S' => ?_)
    with_reducible refine iterL (ds := ((levs (valsOf rs n) (n + 1)).map (zl wd)).take (n + 1)) S' ?_ ?_
    · walk_at "mhas"
    intro I o s₂ hI S₂
    have hdl : (((levs (valsOf rs n) (n + 1)).map (zl wd)).take (n + 1)).length = n + 1 := by rw [List.length_take, List.length_map, hll]; omega
    have hfl : (firstsOf rs n).length = n + 1 := by rw [firstsOf, List.length_map, List.length_range]
    refine ⟨I, _, _, _, _, _, _, rfl, S₂, fun _ _ _ S h => selfL hI S h, fun acc C s₃ S₃ => ?_⟩
    with_reducible refine CompL (ds := ((levs (valsOf rs n) (n + 1)).map (zl wd)).take (n + 1)) hA ?_ (fun i => ((firstsOf rs n).take i).map (sg wd)) (fun _ => [(L + 6, .cell none), (L + 5, .cell (some (.int more tm))), (L + 4, .cell (some (.int spot ts))), (L + 3, .cell (some (.ref r))), (L + 2, .cell (some (.int wd tw)))]) rfl hI S₃ ?_ ?_ ?_ ?_ ?_ ?_
    · k_mem
    · intro i hi
      rw [List.length_map, List.length_take]
      show _ ≤ 2 ^ 24
      omega
    rotate_left 2
    · rfl
    · rfl
    · rfl
    · clear S S' S₂ S₃
      intro i s v' d o' hd S E'
      have hi : i < n + 1 := by have := lt_of_getElem? hd; omega
      rw [List.getElem?_take, if_pos hi, List.getElem?_map, levs_get _ _ _ (by omega)] at hd
      have hd' : zl wd (difN (valsOf rs n) i) = d := by simpa using hd
      subst hd'
      obtain ⟨b, rfl⟩ := S.ref (.head _)
      refine CStep.plain ?_
      walk_at "mr"
      with_reducible refine itemV (ds := (difN (valsOf rs n) i).map (sg wd)) (d := sg wd ((difN (valsOf rs n) i).getD 0 0)) (by assumption) ?_ (by omega) ?_ (by omega) ?_ ?_
      · walk_at "mhas"
      · exact zl_get rfl (by rw [difN_len]; omega)
      rotate_left 1
      · with_unfolding_all rfl
      intro v1 S1
      have e : (firstsOf rs n)[i]? = some ((difN (valsOf rs n) i).getD 0 0) := by rw [firstsOf, List.getElem?_map, List.getElem?_range hi]; rfl
      refine ⟨sg wd ((difN (valsOf rs n) i).getD 0 0), _, _, ?_, fun _ h => .tail _ (.tail _ h), .mem (.head _), S1⟩
      rw [take_snoc e, List.map_append]; rfl
    · intro s S
      refine cpost S (fun s' S' => ?_)
      have S1 := St.freeze S' 1 rfl
      simp only [List.eraseIdx_cons_succ, List.eraseIdx_cons_zero] at S1
      rw [List.take_of_length_le (by omega)] at S1
      walk_at "mr"
      exact ⟨by first | rfl | trivial, acc, by walk_at "mst"⟩
  clear S
  rintro s ⟨fi, S⟩
  exact h s fi S
def tS (rs : List Int) (n k : Nat) : Nat → Int
  | 0 => 0
  | j + 1 => tS rs n k j + (chooseV k j : Nat) * (firstsOf rs n).getD j 0
theorem firsts_get {rs : List Int} {n j : Nat} (h : j < n + 1) : (firstsOf rs n).getD j 0 = (difN (valsOf rs n) j).getD 0 0 := by
  rw [List.getD_eq_getElem?_getD, firstsOf, List.getElem?_map, List.getElem?_range h]; rfl
theorem firsts_len (rs : List Int) (n : Nat) : (firstsOf rs n).length = n + 1 := by rw [firstsOf, List.length_map, List.length_range]
theorem firsts_bound {rs : List Int} {n : Nat} (hn : n ≤ 4) (hl : rs.length = n + 1) (h : ∀ x ∈ rs, -5 ≤ x ∧ x ≤ 5) (i : Nat) : ((firstsOf rs n).getD i 0).natAbs < 2 ^ 24 := by
  by_cases hi : i < n + 1
  · rw [firsts_get hi]
    have := difN_bound (vals_bound hn hl h) i 0
    have h2 : (2 : Nat) ^ i * 2 ^ 20 ≤ 2 ^ 24 := by rw [← Nat.pow_add]; exact Nat.pow_le_pow_right (by decide) (by omega)
    omega
  · rw [List.getD_eq_getElem?_getD, List.getElem?_eq_none (by rw [firsts_len]; omega)]; decide
theorem choose_lt : ∀ k, k ≤ 10 → ∀ j, j ≤ 5 → chooseV k j < 2 ^ 10 := by decide +kernel
theorem tS_bound {rs : List Int} {n k : Nat} (hn : n ≤ 4) (hk : k ≤ 10) (hl : rs.length = n + 1) (h : ∀ x ∈ rs, -5 ≤ x ∧ x ≤ 5) : ∀ j, j ≤ 5 → (tS rs n k j).natAbs ≤ j * 2 ^ 34
  | 0, _ => by simp [tS]
  | j + 1, hj => by
    have ih := tS_bound hn hk hl h j (by omega)
    have h1 := firsts_bound hn hl h j
    have h2 := choose_lt k hk j (by omega)
    have h3 : (((chooseV k j : Nat) : Int) * (firstsOf rs n).getD j 0).natAbs ≤ 2 ^ 10 * 2 ^ 24 := by
      rw [Int.natAbs_mul, Int.natAbs_natCast]
      exact Nat.mul_le_mul (by omega) (by omega)
    rw [tS]
    omega
set_option maxHeartbeats 8000000 in
theorem law4 {prog : Program} {w : World} {mg mb : Str → Option Value} {H : Heap} {A : Around} {f : Fm} {L fa : Addr} {cd : Value} {Q : Flow → Shared → Prop} {E : Value → Shared → Prop} {s : Shared} {k : Nat} (W : Wd w mg mb H) (hA : Ok (k + 25) A) {wd n spot more : Nat} {tw ts tm : Tok} {r v fi : Addr} {rs : List Int} (hw3 : 3 ≤ wd) (hw8 : wd ≤ 8) (hn : n ≤ 4) (hrs : rs.length = n + 1) (hrb : ∀ x ∈ rs, -5 ≤ x ∧ x ≤ 5)
    (hnew : ∀ kk, kk < n + 4 → tS rs n kk (n + 1) = worth rs kk)
    (S : St H f [(L, .ns [(Str.ofString "n", .i n), (Str.ofString "many", .i (n + 4 : Nat)), (Str.ofString "values", .v (.ref v))]), (L + 6, .cell (some (.ref fi))), (L + 5, .cell (some (.int more tm))), (L + 4, .cell (some (.int spot ts))), (L + 3, .cell (some (.ref r))), (L + 2, .cell (some (.int wd tw)))] [(.ref fi, zl wd (firstsOf rs n)), (.ref v, zl wd (valsOf rs n)), (.ref r, lz rs)] s)
    (h : ∀ s, St H f [(L, .ns [(Str.ofString "n", .i n), (Str.ofString "many", .i (n + 4 : Nat)), (Str.ofString "values", .v (.ref v))]), (L + 6, .cell (some (.ref fi))), (L + 5, .cell (some (.int more tm))), (L + 4, .cell (some (.int spot ts))), (L + 3, .cell (some (.ref r))), (L + 2, .cell (some (.int wd tw)))] [(.ref fi, zl wd (firstsOf rs n)), (.ref v, zl wd (valsOf rs n)), (.ref r, lz rs)] s → wpAny (model prog w) A (execs (lawBody 11) (lawEnv L fa cd)) Q E s) :
    wpAny (model prog w) A (execs (lawBody 10) (lawEnv L fa cd)) Q E s := by
  have hw0 : 0 < wd := by omega
  have hw20 : wd ≤ 20 := by omega
  have hvl := vals_len rs n
  have hfl := firsts_len rs n
  refine wpAny_execs_cons ?_
  with_reducible refine cut (P := fun s => St H f [(L, .ns [(Str.ofString "n", .i n), (Str.ofString "many", .i (n + 4 : Nat)), (Str.ofString "values", .v (.ref v))]), (L + 6, .cell (some (.ref fi))), (L + 5, .cell (some (.int more tm))), (L + 4, .cell (some (.int spot ts))), (L + 3, .cell (some (.ref r))), (L + 2, .cell (some (.int wd tw)))] [(.ref fi, zl wd (firstsOf rs n)), (.ref v, zl wd (valsOf rs n)), (.ref r, lz rs)] s) ?_ ?_
  · walk_at "mfor"
    walk_at "mr"
    walk_at "mr1"
    with_reducible refine iterR1 (n + 4) (by assumption) (.inl (by omega)) (by omega) (by omega) (by omega) (by omega) ?_
    intro I s₁ S₁
    with_reducible refine LoopR hA (fun _ => True) (fun _ => [(Str.ofString "n", .i n), (Str.ofString "many", .i (n + 4 : Nat)), (Str.ofString "values", .v (.ref v))]) (fun _ => [(L + 6, .cell (some (.ref fi))), (L + 5, .cell (some (.int more tm))), (L + 4, .cell (some (.int spot ts))), (L + 3, .cell (some (.ref r))), (L + 2, .cell (some (.int wd tw)))]) trivial S₁ ?_ ?_ ?_ ?_ ?_ ?_ ?_
    walk_at "ml3"
    rotate_left 1
    · exact fun s _ S => ⟨by first | rfl | trivial, by walk_at "mst"⟩
    clear S S₁
    intro kk s t hk _ S E'
    rw [show ((0 : Int) + kk * 1) = ((kk : Nat) : Int) by omega] at S
    refine wpAny_execs_cons ?_
    with_reducible refine cut (P := fun s => St H f [(L, .ns [(Str.ofString "told", .d (sg wd 0)), (Str.ofString "k", .i (kk : Nat)), (Str.ofString "n", .i n), (Str.ofString "many", .i (n + 4 : Nat)), (Str.ofString "values", .v (.ref v))]), (I, .raw (rgs 0 1 (n + 4) (kk + 1))), (L + 6, .cell (some (.ref fi))), (L + 5, .cell (some (.int more tm))), (L + 4, .cell (some (.int spot ts))), (L + 3, .cell (some (.ref r))), (L + 2, .cell (some (.int wd tw)))] [(.ref fi, zl wd (firstsOf rs n)), (.ref v, zl wd (valsOf rs n)), (.ref r, lz rs)] s) ?_ ?_
    · walk_at "mr"
      rename_i z _ S2
      have S2 := St.freeze S2 1 rfl
      simp only [List.eraseIdx_cons_succ, List.eraseIdx_cons_zero] at S2
      with_reducible refine newTD (ds := [.bool false, .list []]) S2 ?_ ?_ (Nat.le_of_ble_eq_true rfl)
      · exact .cons (Kn.bool _) (.cons (Kn.mem (by k_mem)) .nil)
      intro t1 s3 S3
      rw [← sg_zero wd] at S3
      walk_at "mr"
      exact ⟨by first | rfl | trivial, by walk_at "mst"⟩
    clear S
    intro s S
    refine wpAny_execs_cons ?_
    with_reducible refine cut (P := fun s => St H f [(L, .ns [(Str.ofString "told", .d (sg wd (worth rs kk))), (Str.ofString "k", .i (kk : Nat)), (Str.ofString "n", .i n), (Str.ofString "many", .i (n + 4 : Nat)), (Str.ofString "values", .v (.ref v))]), (I, .raw (rgs 0 1 (n + 4) (kk + 1))), (L + 6, .cell (some (.ref fi))), (L + 5, .cell (some (.int more tm))), (L + 4, .cell (some (.int spot ts))), (L + 3, .cell (some (.ref r))), (L + 2, .cell (some (.int wd tw)))] [(.ref fi, zl wd (firstsOf rs n)), (.ref v, zl wd (valsOf rs n)), (.ref r, lz rs)] s) ?_ ?_
    · walk_at "mfor"
      walk_at "mr"
      walk_at "mr1"
      with_reducible refine iterR1 (n + 1) (by assumption) (.inl (by omega)) (by omega) (by omega) (by omega) (by omega) ?_
      intro J s₂ S₂
      with_reducible refine LoopR hA (fun _ => True) (fun j => [(Str.ofString "told", .d (sg wd (tS rs n kk j))), (Str.ofString "k", .i (kk : Nat)), (Str.ofString "n", .i n), (Str.ofString "many", .i (n + 4 : Nat)), (Str.ofString "values", .v (.ref v))]) (fun _ => [(I, .raw (rgs 0 1 (n + 4) (kk + 1))), (L + 6, .cell (some (.ref fi))), (L + 5, .cell (some (.int more tm))), (L + 4, .cell (some (.int spot ts))), (L + 3, .cell (some (.ref r))), (L + 2, .cell (some (.int wd tw)))]) trivial S₂ ?_ ?_ ?_ ?_ ?_ ?_ ?_
      walk_at "ml3"
      rotate_left 1
      · intro s _ S
        rw [hnew kk hk] at S
        exact ⟨by first | rfl | trivial, by walk_at "mst"⟩
      clear S S₂
      intro j s t hj _ S E''
      rw [show ((0 : Int) + j * 1) = ((j : Nat) : Int) by omega] at S
      have hb1 := tS_bound (k := kk) hn (by omega) hrs hrb j (by omega)
      have hb2 := firsts_bound hn hrs hrb j
      have hb3 := choose_lt kk (by omega) j (by omega)
      have hb4 : (((chooseV kk j : Nat) : Int) * (firstsOf rs n).getD j 0).natAbs < 2 ^ 35 := by
        rw [Int.natAbs_mul, Int.natAbs_natCast]
        have : chooseV kk j * ((firstsOf rs n).getD j 0).natAbs ≤ 2 ^ 10 * 2 ^ 24 := Nat.mul_le_mul (by omega) (by omega)
        omega
      have hb5 : (tS rs n kk j).natAbs < 2 ^ 40 := by omega
      walk_at "mr"
      with_reducible refine callR (binomial_num W (k + 11) wd hw0 hw20 kk j (by omega) (by omega)) (by assumption) ?_ ?_ ?_
      walk_at "mcall"
      intro bc s3 S3
      walk_at "mr"
      with_reducible refine itemV (ds := (firstsOf rs n).map (sg wd)) (d := sg wd ((firstsOf rs n).getD j 0)) (by assumption) ?_ (by omega) ?_ (by omega) ?_ ?_
      · walk_at "mhas"
      · exact zl_get (by omega) (by omega)
      rotate_left 1
      · with_unfolding_all rfl
      intro v1 S4
      walk_at "mr"
      with_reducible refine callD (law_times_num W (k + 21) wd hw0 hw20 (chooseV kk j) ((firstsOf rs n).getD j 0) (nat400 hb3 (by decide)) (bound400 hb2 (by decide))) (by assumption) ?_ ?_ ?_
      walk_at "mcall"
      intro v2 s5 S5
      walk_at "mr"
      with_reducible refine callD (s_add_num W (k + 22) wd hw0 hw20 (tS rs n kk j) ((chooseV kk j : Nat) * (firstsOf rs n).getD j 0) (bound999 hb5 (by decide)) (bound999 hb4 (by decide))) (by assumption) ?_ ?_ ?_
      walk_at "mcall"
      intro v3 s6 S6
      walk_at "mr"
      rw [show tS rs n kk (j + 1) = tS rs n kk j + (chooseV kk j : Nat) * (firstsOf rs n).getD j 0 from rfl]
      exact ⟨trivial, by walk_at "mst"⟩
    clear S
    intro s S
    walk_at "mr"
    with_reducible refine itemV (ds := (valsOf rs n).map (sg wd)) (d := sg wd (worth rs kk)) (by assumption) ?_ (by omega) ?_ (by omega) ?_ ?_
    · walk_at "mhas"
    · rw [← vals_get (rs := rs) hk]; exact zl_get (by omega) (by omega)
    rotate_left 1
    · with_unfolding_all rfl
    intro v1 S4
    walk_at "mr"
    with_reducible refine neD (d := sg wd (worth rs kk)) (e := sg wd (worth rs kk)) hA S4 ?_ ?_ (shaped_sg _ _) (shaped_sg _ _) ?_
    · exact .mem (by k_mem)
    · exact .mem (.head _)
    rw [eq_sg, show (!true) = false from rfl]
    walk_at "mr"
    exact ⟨trivial, by walk_at "mst"⟩
  clear S
  intro s S
  exact h s S
def sh (n : Nat) (fs : List Int) : List Int := ((List.range n).map fun at_ => fs.getD at_ 0 + fs.getD (at_ + 1) 0) ++ [fs.getD n 0]
def shN (n : Nat) (fs : List Int) : Nat → List Int
  | 0 => fs
  | i + 1 => sh n (shN n fs i)
theorem sh_len (n : Nat) (fs : List Int) : (sh n fs).length = n + 1 := by rw [sh, List.length_append, List.length_map, List.length_range]; rfl
theorem shN_len {n : Nat} {fs : List Int} (h : fs.length = n + 1) : ∀ i, (shN n fs i).length = n + 1
  | 0 => h
  | i + 1 => sh_len n _
theorem sh_get {n : Nat} {fs : List Int} {j : Nat} (h : j < n) : (sh n fs).getD j 0 = fs.getD j 0 + fs.getD (j + 1) 0 := by
  rw [sh, List.getD_eq_getElem?_getD, List.getElem?_append_left (by rw [List.length_map, List.length_range]; exact h), List.getElem?_map, List.getElem?_range h]; rfl
theorem sh_getn {n : Nat} {fs : List Int} : (sh n fs).getD n 0 = fs.getD n 0 := by
  rw [sh, List.getD_eq_getElem?_getD, List.getElem?_append_right (by rw [List.length_map, List.length_range]; exact Nat.le_refl _), List.length_map, List.length_range]
  simp
theorem sh_get0 {n : Nat} {fs : List Int} {j : Nat} (h : n < j) : (sh n fs).getD j 0 = 0 := by
  rw [List.getD_eq_getElem?_getD, List.getElem?_eq_none (by rw [sh_len]; omega)]; rfl
theorem shN_bound {n : Nat} {fs : List Int} {B : Nat} (h : ∀ i, (fs.getD i 0).natAbs < B) : ∀ i j, ((shN n fs i).getD j 0).natAbs < 2 ^ i * B
  | 0, j => by show (fs.getD j 0).natAbs < _; rw [Nat.pow_zero, Nat.one_mul]; exact h j
  | i + 1, j => by
    have h1 := shN_bound (n := n) h i j
    have h2 := shN_bound (n := n) h i (j + 1)
    have h3 : 2 ^ (i + 1) * B = 2 ^ i * B + 2 ^ i * B := by rw [Nat.pow_succ, Nat.mul_assoc, Nat.two_mul, Nat.mul_add]
    rw [shN, h3]
    generalize 2 ^ i * B = P at *
    by_cases hj : j < n
    · rw [sh_get hj]; omega
    · by_cases hj2 : j = n
      · subst hj2; rw [sh_getn]; omega
      · rw [sh_get0 (by omega)]; omega
set_option maxHeartbeats 8000000 in
theorem law5 {prog : Program} {w : World} {mg mb : Str → Option Value} {H : Heap} {A : Around} {f : Fm} {L fa : Addr} {cd : Value} {Q : Flow → Shared → Prop} {E : Value → Shared → Prop} {s : Shared} {k : Nat} (W : Wd w mg mb H) (hA : Ok (k + 25) A) {wd n spot more : Nat} {tw ts tm : Tok} {r v fi : Addr} {rs : List Int} (hw3 : 3 ≤ wd) (hw8 : wd ≤ 8) (hn : n ≤ 4) (hrs : rs.length = n + 1) (hrb : ∀ x ∈ rs, -5 ≤ x ∧ x ≤ 5)
    (hsh : ∀ kk, kk < n + 7 → (shN n (firstsOf rs n) kk).getD 0 0 = worth rs kk)
    (S : St H f [(L, .ns [(Str.ofString "n", .i n), (Str.ofString "many", .i (n + 4 : Nat)), (Str.ofString "values", .v (.ref v))]), (L + 6, .cell (some (.ref fi))), (L + 5, .cell (some (.int more tm))), (L + 4, .cell (some (.int spot ts))), (L + 3, .cell (some (.ref r))), (L + 2, .cell (some (.int wd tw)))] [(.ref fi, zl wd (firstsOf rs n)), (.ref v, zl wd (valsOf rs n)), (.ref r, lz rs)] s)
    (h : ∀ s, St H f [(L, .ns [(Str.ofString "n", .i n), (Str.ofString "many", .i (n + 4 : Nat)), (Str.ofString "values", .v (.ref v))]), (L + 5, .cell (some (.int more tm))), (L + 4, .cell (some (.int spot ts))), (L + 2, .cell (some (.int wd tw)))] [(.ref v, zl wd (valsOf rs n))] s → wpAny (model prog w) A (execs (lawBody 12) (lawEnv L fa cd)) Q E s) :
    wpAny (model prog w) A (execs (lawBody 11) (lawEnv L fa cd)) Q E s := by
  have hw0 : 0 < wd := by omega
  have hw20 : wd ≤ 20 := by omega
  have hvl := vals_len rs n
  have hfl := firsts_len rs n
  refine wpAny_execs_cons ?_
  with_reducible refine cut (P := fun s => St H f [(L, .ns [(Str.ofString "n", .i n), (Str.ofString "many", .i (n + 4 : Nat)), (Str.ofString "values", .v (.ref v))]), (L + 5, .cell (some (.int more tm))), (L + 4, .cell (some (.int spot ts))), (L + 2, .cell (some (.int wd tw)))] [(.ref v, zl wd (valsOf rs n))] s) ?_ ?_
  · walk_at "mfor"
    walk_at "mr"
    walk_at "mr1"
    with_reducible refine iterR1 (n + 7) (by assumption) (.inl (by omega)) (by omega) (by omega) (by omega) (by omega) ?_
    intro I s₁ S₁
    with_reducible refine LoopX (β := Addr) hA (fun _ _ => [(Str.ofString "n", .i n), (Str.ofString "many", .i (n + 4 : Nat)), (Str.ofString "values", .v (.ref v))]) (fun _ b => [(L + 6, .cell (some (.ref b))), (L + 5, .cell (some (.int more tm))), (L + 4, .cell (some (.int spot ts))), (L + 3, .cell (some (.ref r))), (L + 2, .cell (some (.int wd tw)))]) (fun i b => [(.ref b, zl wd (shN n (firstsOf rs n) i)), (.ref v, zl wd (valsOf rs n)), (.ref r, lz rs)]) fi S₁ ?_ ?_ ?_ ?_ ?_ ?_ ?_ ?_
    walk_at "mlx"
    rotate_left 1
    · intro b s S
      exact ⟨by first | rfl | trivial, by walk_at "mst"⟩
    clear S S₁
    intro kk b s t hk S E'
    rw [show ((0 : Int) + kk * 1) = ((kk : Nat) : Int) by omega] at S
    have hsl := shN_len (n := n) hfl kk
    have hsb := shN_bound (n := n) (firsts_bound hn hrs hrb) kk
    have hkk := hsh kk hk
    rw [show shN n (firstsOf rs n) (kk + 1) = sh n (shN n (firstsOf rs n) kk) from rfl]
    generalize shN n (firstsOf rs n) kk = fs at *
    have hsb2 : ∀ i, (fs.getD i 0).natAbs < 2 ^ 999 := fun i => by
      have h2 : (2 : Nat) ^ kk * 2 ^ 24 ≤ 2 ^ 999 := by rw [← Nat.pow_add]; exact Nat.pow_le_pow_right (by decide) (by omega)
      exact Nat.lt_of_lt_of_le (hsb i) h2
    refine wpAny_execs_cons ?_
    with_reducible refine cut (P := fun s => St H f [(L, .ns [(Str.ofString "n", .i n), (Str.ofString "many", .i (n + 4 : Nat)), (Str.ofString "values", .v (.ref v))]), (I, .raw (rgs 0 1 (n + 7) (kk + 1))), (L + 6, .cell (some (.ref b))), (L + 5, .cell (some (.int more tm))), (L + 4, .cell (some (.int spot ts))), (L + 3, .cell (some (.ref r))), (L + 2, .cell (some (.int wd tw)))] [(.ref b, zl wd fs), (.ref v, zl wd (valsOf rs n)), (.ref r, lz rs)] s) ?_ ?_
    · walk_at "mr"
      with_reducible refine itemV (ds := fs.map (sg wd)) (d := sg wd (fs.getD 0 0)) (by assumption) ?_ (by omega) ?_ (by omega) ?_ ?_
      · walk_at "mhas"
      · exact zl_get rfl (by omega)
      rotate_left 1
      · with_unfolding_all rfl
      intro v1 S4
      walk_at "mr"
      with_reducible refine callI (law_worth_spec W (k + 24) rs kk (by omega) (by omega)) (by assumption) ?_ ?_ ?_
      walk_at "mcall"
      intro _ _ _
      walk_at "mr"
      have hb := worth_bound (rs := rs) (k := kk) (by omega) (by omega) hrb
      with_reducible refine callD (law_signed_spec W (k + 23) wd hw0 hw20 (worth rs kk) (bound1000 hb (by decide))) (by assumption) ?_ ?_ ?_
      walk_at "mcall"
      intro v2 s5 S5
      rw [← hkk] at S5
      with_reducible refine neD (d := sg wd (fs.getD 0 0)) (e := sg wd (fs.getD 0 0)) hA S5 ?_ ?_ (shaped_sg _ _) (shaped_sg _ _) ?_
      · exact .mem (by k_mem)
      · exact .mem (.head _)
      rw [eq_sg, show (!true) = false from rfl]
      walk_at "mr"
      exact ⟨by first | rfl | trivial, by walk_at "mst"⟩
    clear S
    intro s S
    walk_at "mr"
    with_reducible refine ListComp_ (cl := [(Str.ofString "w", L + 2), (Str.ofString "first", L + 6)]) ?_ ?_ ?_ ?_ ?_ ?_
    walk_at "mlc"
    walk_at "mr"
    walk_at "mr1"
    with_reducible refine iterR1 n (by assumption) (.inl (by omega)) (by omega) (by omega) (by omega) (by omega) ?_
    intro J s₂ S₂
    generalize hf2 : (List.range n).map (fun at_ => fs.getD at_ 0 + fs.getD (at_ + 1) 0) = f2
    have hf2l : f2.length = n := by rw [← hf2, List.length_map, List.length_range]
    refine ⟨J, _, _, _, _, _, _, rfl, S₂, fun _ _ _ S h => selfR S h, fun acc C s₃ S₃ => ?_⟩
    with_reducible refine CompR hA n 0 1 (fun i => (f2.take i).map (sg wd)) (fun _ => [(I, .raw (rgs 0 1 (n + 7) (kk + 1))), (L + 6, .cell (some (.ref b))), (L + 5, .cell (some (.int more tm))), (L + 4, .cell (some (.int spot ts))), (L + 3, .cell (some (.ref r))), (L + 2, .cell (some (.int wd tw)))]) rfl S₃ ?_ ?_ ?_ ?_ ?_ ?_
    · intro i hi
      rw [List.length_map, List.length_take]
      show _ ≤ 2 ^ 24
      omega
    rotate_left 2
    · rfl
    · rfl
    · rfl
    · clear S S₂ S₃
      intro j s t hj S E''
      refine CStep.plain ?_
      walk_at "mr"
      with_reducible refine itemV (ds := fs.map (sg wd)) (d := sg wd (fs.getD j 0)) (by assumption) ?_ (by omega) ?_ (by omega) ?_ ?_
      · walk_at "mhas"
      · exact zl_get (by omega) (by omega)
      rotate_left 1
      · with_unfolding_all rfl
      intro v1 S1
      walk_at "mr"
      with_reducible refine itemV (ds := fs.map (sg wd)) (d := sg wd (fs.getD (j + 1) 0)) (by assumption) ?_ (by omega) ?_ (by omega) ?_ ?_
      · walk_at "mhas"
      · exact zl_get (by omega) (by omega)
      rotate_left 1
      · with_unfolding_all rfl
      intro v2 S2
      walk_at "mr"
      with_reducible refine callD (s_add_num W (k + 22) wd hw0 hw20 (fs.getD j 0) (fs.getD (j + 1) 0) (hsb2 j) (hsb2 (j + 1))) (by assumption) ?_ ?_ ?_
      walk_at "mcall"
      intro r1 s4 S4
      have e : f2[j]? = some (fs.getD j 0 + fs.getD (j + 1) 0) := by rw [← hf2, List.getElem?_map, List.getElem?_range hj]; rfl
      refine ⟨sg wd (fs.getD j 0 + fs.getD (j + 1) 0), _, _, ?_, fun _ h => .tail _ (.tail _ (.tail _ h)), .mem (.head _), S4⟩
      rw [take_snoc e, List.map_append]; rfl
    · intro s S
      refine cpost S (fun s' S' => ?_)
      rw [List.take_of_length_le (by omega)] at S'
      walk_at "mr"
      with_reducible refine itemV (ds := fs.map (sg wd)) (d := sg wd (fs.getD n 0)) (by assumption) ?_ (by omega) ?_ (by omega) ?_ ?_
      · exact Or.inl (by k_mem)
      · exact zl_get (by omega) (by omega)
      rotate_left 1
      · with_unfolding_all rfl
      intro v1 S1
      walk_at "mr"
      with_reducible refine newLM (ds := [sg wd (fs.getD n 0)]) (by assumption) ?_ ?_ (Nat.le_of_ble_eq_true rfl)
      · exact .cons (Kn.mem (by k_mem)) .nil
      intro q s4 S4
      walk_at "mr"
      with_reducible refine catL (ds := f2.map (sg wd)) (es := [sg wd (fs.getD n 0)]) (by assumption) ?_ ?_ ?_ ?_
      · exact Or.inr (by k_mem)
      · exact Or.inr (by k_mem)
      · rw [List.length_map, hf2l]
        show n + 1 ≤ 2 ^ 24
        omega
      intro q2 s5 S5
      have S6 := St.freeze S5 1 rfl
      simp only [List.eraseIdx_cons_succ, List.eraseIdx_cons_zero] at S6
      have e : PyData.list (f2.map (sg wd) ++ [sg wd (fs.getD n 0)]) = zl wd (sh n fs) := by rw [sh, hf2, zl, List.map_append]; rfl
      rw [e] at S6
      walk_at "mr"
      exact ⟨q2, by walk_at "mst"⟩
  clear S
  intro s S
  exact h s S
def spoil (zs : List Int) (spot : Nat) (more : Int) : List Int := (List.range zs.length).map fun i => if i = spot then zs.getD i 0 + more else zs.getD i 0
theorem spoil_len (zs : List Int) (spot : Nat) (more : Int) : (spoil zs spot more).length = zs.length := by rw [spoil, List.length_map, List.length_range]
theorem spoil_get {zs : List Int} {spot : Nat} {more : Int} {i : Nat} (h : i < zs.length) : (spoil zs spot more).getD i 0 = if i = spot then zs.getD i 0 + more else zs.getD i 0 := by
  rw [List.getD_eq_getElem?_getD, spoil, List.getElem?_map, List.getElem?_range h]; rfl
theorem spoil_bound {zs : List Int} {spot : Nat} {more : Int} (hm : more.natAbs ≤ 9) (h : ∀ i, (zs.getD i 0).natAbs < 2 ^ 20) (i : Nat) : ((spoil zs spot more).getD i 0).natAbs < 2 ^ 21 := by
  by_cases hi : i < zs.length
  · rw [spoil_get hi]
    have := h i
    split <;> omega
  · rw [List.getD_eq_getElem?_getD, List.getElem?_eq_none (by rw [spoil_len]; omega)]; decide
def dueV (n spot : Nat) (more : Int) (a : Nat) : Int := if a ≤ spot ∧ spot - a ≤ n + 1 then (chooseV (n + 1) (spot - a) : Nat) * (if (n + 1 - (spot - a)) % 2 = 0 then more else 0 - more) else 0
set_option maxHeartbeats 8000000 in
theorem law6 {prog : Program} {w : World} {mg mb : Str → Option Value} {H : Heap} {A : Around} {f : Fm} {L fa : Addr} {cd : Value} {E : Value → Shared → Prop} {s : Shared} {k : Nat} (W : Wd w mg mb H) (hA : Ok (k + 25) A) {wd n spot more : Nat} {tw ts tm : Tok} {v : Addr} {rs : List Int} (hw3 : 3 ≤ wd) (hw8 : wd ≤ 8) (hn : n ≤ 4) (hrs : rs.length = n + 1) (hrb : ∀ x ∈ rs, -5 ≤ x ∧ x ≤ 5) (hspot : spot < n + 4) (hm1 : 1 ≤ more) (hm9 : more ≤ 9)
    (hdue : ∀ a, a < 3 → (difN (spoil (valsOf rs n) spot more) (n + 1)).getD a 0 = dueV n spot more a)
    (S : St H f [(L, .ns [(Str.ofString "n", .i n), (Str.ofString "many", .i (n + 4 : Nat)), (Str.ofString "values", .v (.ref v))]), (L + 5, .cell (some (.int more tm))), (L + 4, .cell (some (.int spot ts))), (L + 2, .cell (some (.int wd tw)))] [(.ref v, zl wd (valsOf rs n))] s) :
    wpAny (model prog w) A (execs (lawBody 12) (lawEnv L fa cd)) (fun fl s' => fl = .ret (.bool true) ∧ ∃ M D, St H f M D s') E s := by
  have hw0 : 0 < wd := by omega
  have hw20 : wd ≤ 20 := by omega
  have hvl := vals_len rs n
  have hspl := spoil_len (valsOf rs n) spot more
  have hspb := spoil_bound (spot := spot) (more := (more : Int)) (by omega) (vals_bound hn hrs hrb)
  have hspg := fun i (hi : i < n + 4) => spoil_get (zs := valsOf rs n) (spot := spot) (more := (more : Int)) (i := i) (by omega)
  have hvb := vals_bound hn hrs hrb
  generalize hvs : valsOf rs n = vals at *
  generalize hsp : spoil vals spot more = sp at *
  refine wpAny_execs_cons ?_
  with_reducible refine cut (P := fun s => ∃ z, St H f [(L, .ns [(Str.ofString "n", .i n), (Str.ofString "many", .i (n + 4 : Nat)), (Str.ofString "spoilt", .v (.ref z))]), (L + 5, .cell (some (.int more tm))), (L + 4, .cell (some (.int spot ts))), (L + 2, .cell (some (.int wd tw)))] [(.ref z, zl wd sp)] s) ?_ ?_
  · with_reducible refine AssignComp_ (cl := [(Str.ofString "w", L + 2), (Str.ofString "spot", L + 4), (Str.ofString "more", L + 5)]) ?_ ?_ ?_ ?_ ?_ ?_ ?_
    walk_at "mac"
    walk_at "mr"
    with_reducible refine enumL (ds := vals.map (sg wd)) (by assumption) ?_ ?_
    · walk_at "mhas"
    intro e it o s₁ hI S₁
    refine wpAny_pyIter_enum ((St.own1 S₁ 1 rfl)) ?_
    refine ⟨e, _, _, _, _, _, _, rfl, S₁, fun _ _ _ S h => wpAny_pyIter_enum (S.own1 1 rfl) h, fun acc C s₃ S₃ => ?_⟩
    with_reducible refine CompE (ds := vals.map (sg wd)) hA ?_ (fun i => (sp.take i).map (sg wd)) rfl hI S₃ ?_ ?_ ?_ ?_ ?_ ?_ ?_
    · k_mem
    · intro i hi
      rw [List.length_map, List.length_take]
      rw [List.length_map] at hi
      show _ ≤ 2 ^ 24
      omega
    rotate_left 2
    · rfl
    · rfl
    · rfl
    · rfl
    · clear S S₁ S₃
      intro i s v' d t hd M' S E'
      simp only [List.cons_append, List.nil_append] at S ⊢
      rw [List.getElem?_map] at hd
      obtain ⟨x, hx, rfl⟩ := Option.map_eq_some_iff.mp hd
      have hi : i < vals.length := lt_of_getElem? hx
      have hxg : vals.getD i 0 = x := by rw [List.getD_eq_getElem?_getD, hx]; rfl
      have hxb := hvb i
      rw [hxg] at hxb
      have hs1 := hspg i (by omega)
      rw [hxg] at hs1
      have e1 : sp[i]? = some (sp.getD i 0) := by
        rw [List.getD_eq_getElem?_getD]
        have : i < sp.length := by omega
        rw [List.getElem?_eq_getElem this]; rfl
      walk_at "mr"
      by_cases his : i = spot
      · rw [if_pos his] at hs1
        rw [if_pos (by simp [his])]
        walk_at "mr"
        with_reducible refine callD (law_signed_spec W (k + 23) wd hw0 hw20 (more : Int) (bound1000 (a := 10) (by omega) (by decide))) (by assumption) ?_ ?_ ?_
        walk_at "mcall"
        intro v1 s4 S4
        walk_at "mr"
        with_reducible refine callD (s_add_num W (k + 22) wd hw0 hw20 x (more : Int) (bound999 hxb (by decide)) (bound999 (a := 10) (by omega) (by decide))) (by assumption) ?_ ?_ ?_
        walk_at "mcall"
        intro v2 s5 S5
        refine ⟨sg wd (x + more), _, _, ?_, fun _ h => .tail _ (.tail _ (.tail _ h)), .mem (.head _), S5⟩
        rw [take_snoc e1, List.map_append, hs1]; rfl
      · rw [if_neg his] at hs1
        rw [if_neg (by simp; omega)]
        walk_at "mr"
        refine ⟨sg wd x, _, _, ?_, fun _ h => .tail _ h, .mem (.head _), by assumption⟩
        rw [take_snoc e1, List.map_append, hs1]; rfl
    · intro s S
      refine cpostA S (fun s' S' => ?_)
      have S1 := St.freeze S' 1 rfl
      simp only [List.eraseIdx_cons_succ, List.eraseIdx_cons_zero] at S1
      rw [List.length_map, List.take_of_length_le (by omega)] at S1
      exact ⟨by first | rfl | trivial, acc, by walk_at "mst"⟩
  clear S
  rintro s ⟨z, S⟩
  refine wpAny_execs_cons ?_
  with_reducible refine cut (P := fun s => ∃ la, St H f [(L, .ns [(Str.ofString "n", .i n), (Str.ofString "many", .i (n + 4 : Nat)), (Str.ofString "last", .v (.ref la))]), (L + 5, .cell (some (.int more tm))), (L + 4, .cell (some (.int spot ts))), (L + 2, .cell (some (.int wd tw)))] [(.ref la, zl wd (difN sp (n + 1)))] s) ?_ ?_
  · walk_at "mr"
    rw [show ((n : Int) + 1) = ((n + 1 : Nat) : Int) by push_cast; rfl] at *
    with_reducible refine callR (levels_num W (k + 20) wd hw0 hw20 sp (n + 1) ?_ ?_ ?_) (by assumption) ?_ ?_ ?_
    · omega
    · omega
    · intro j hj i
      have := difN_bound hspb j i
      have h2 : (2 : Nat) ^ j * 2 ^ 21 ≤ 2 ^ 999 := by rw [← Nat.pow_add]; exact Nat.pow_le_pow_right (by decide) (by omega)
      exact Nat.lt_of_lt_of_le this h2
    walk_at "mcall"
    intro lv s' S'
    walk_at "mr"
    with_reducible refine itemR (ds := (levs sp (n + 1)).map (zl wd)) (es := (difN sp (n + 1)).map (sg wd)) (by assumption) ?_ (by omega) ?_ (by omega) ?_ ?_
    · walk_at "mhas"
    · rw [show ((n : Int) + 1).toNat = n + 1 by omega, List.getElem?_map, levs_get _ _ _ (by omega)]; rfl
    rotate_left 1
    · with_unfolding_all rfl
    intro b1 S1
    walk_at "mr"
    exact ⟨by first | rfl | trivial, b1, by walk_at "mst"⟩
  clear S
  rintro s ⟨la, S⟩
  have hdl : (difN sp (n + 1)).length = 3 := by rw [difN_len]; omega
  refine wpAny_execs_cons ?_
  with_reducible refine cut (P := fun s => St H f [(L, .ns [])] [] s) ?_ ?_
  · walk_at "mfor"
    walk_at "mr"
    walk_at "mr1"
    with_reducible refine iterR1 3 (by assumption) (.inl (by omega)) (by omega) (by omega) (by omega) (by omega) ?_
    intro I s₁ S₁
    with_reducible refine LoopR hA (fun _ => True) (fun _ => [(Str.ofString "n", .i n), (Str.ofString "last", .v (.ref la))]) (fun _ => [(L + 5, .cell (some (.int more tm))), (L + 4, .cell (some (.int spot ts))), (L + 2, .cell (some (.int wd tw)))]) trivial S₁ ?_ ?_ ?_ ?_ ?_ ?_ ?_
    walk_at "ml3"
    rotate_left 1
    · exact fun s _ S => ⟨by first | rfl | trivial, by walk_at "mst"⟩
    clear S S₁
    intro a s t ha _ S E'
    rw [show ((0 : Int) + a * 1) = ((a : Nat) : Int) by omega] at S
    refine wpAny_execs_cons ?_
    with_reducible refine cut (P := fun s => St H f [(L, .ns [(Str.ofString "due", .d (sg wd 0)), (Str.ofString "dist", .i ((spot : Int) - a)), (Str.ofString "at", .i (a : Nat)), (Str.ofString "n", .i n), (Str.ofString "last", .v (.ref la))]), (I, .raw (rgs 0 1 3 (a + 1))), (L + 5, .cell (some (.int more tm))), (L + 4, .cell (some (.int spot ts))), (L + 2, .cell (some (.int wd tw)))] [(.ref la, zl wd (difN sp (n + 1)))] s) ?_ ?_
    · walk_at "mr"
      rename_i z _ S2
      have S2 := St.freeze S2 1 rfl
      simp only [List.eraseIdx_cons_succ, List.eraseIdx_cons_zero] at S2
      with_reducible refine newTD (ds := [.bool false, .list []]) S2 ?_ ?_ (Nat.le_of_ble_eq_true rfl)
      · exact .cons (Kn.bool _) (.cons (Kn.mem (by k_mem)) .nil)
      intro t1 s3 S3
      rw [← sg_zero wd] at S3
      walk_at "mr"
      walk_at "mtup"
      walk_at "mr"
      exact ⟨by first | rfl | trivial, by walk_at "mst"⟩
    clear S
    intro s S
    refine wpAny_execs_cons ?_
    with_reducible refine cut (P := fun s => St H f [(L, .ns [(Str.ofString "due", .d (sg wd (dueV n spot more a))), (Str.ofString "at", .i (a : Nat)), (Str.ofString "n", .i n), (Str.ofString "last", .v (.ref la))]), (I, .raw (rgs 0 1 3 (a + 1))), (L + 5, .cell (some (.int more tm))), (L + 4, .cell (some (.int spot ts))), (L + 2, .cell (some (.int wd tw)))] [(.ref la, zl wd (difN sp (n + 1)))] s) ?_ ?_
    · by_cases hin : a ≤ spot ∧ spot - a ≤ n + 1
      · obtain ⟨m, hm⟩ : ∃ m : Nat, spot - a = m := ⟨_, rfl⟩
        have hmi : (spot : Int) - a = (m : Nat) := by omega
        rw [dueV, if_pos hin, hm]
        rw [hm] at hin
        rw [hmi] at S
        walk_at "mr"
        walk_at "mpos"
        refine test_last ?_
        walk_at "mr"
        walk_at "mpos"
        walk_at "mr"
        rw [show ((n : Int) + 1) = ((n + 1 : Nat) : Int) by push_cast; rfl] at *
        with_reducible refine callR (binomial_num W (k + 11) wd hw0 hw20 (n + 1) m (by omega) (by omega)) (by assumption) ?_ ?_ ?_
        walk_at "mcall"
        intro bc s3 S3
        walk_at "mr"
        have hcl := choose_lt (n + 1) (by omega) m (by omega)
        rw [show ((n : Int) + 1 - m) = ((n + 1 - m : Nat) : Int) by omega, fmod_lit2] at *
        by_cases hp : (n + 1 - m) % 2 = 0
        · rw [if_pos hp]
          rw [if_pos (by simp [hp])]
          walk_at "mr"
          with_reducible refine callD (law_signed_spec W (k + 23) wd hw0 hw20 (more : Int) (bound1000 (a := 10) (by omega) (by decide))) (by assumption) ?_ ?_ ?_
          walk_at "mcall"
          intro v1 s4 S4
          walk_at "mr"
          with_reducible refine callD (law_times_num W (k + 21) wd hw0 hw20 (chooseV (n + 1) m) (more : Int) (nat400 hcl (by decide)) (bound400 (a := 10) (by omega) (by decide))) (by assumption) ?_ ?_ ?_
          walk_at "mcall"
          intro v2 s5 S5
          walk_at "mr"
          exact ⟨by first | rfl | trivial, by walk_at "mst"⟩
        · rw [if_neg hp]
          rw [if_neg (by simp; omega)]
          walk_at "mr"
          with_reducible refine callD (law_signed_spec W (k + 23) wd hw0 hw20 (0 - (more : Int)) (bound1000 (a := 10) (by omega) (by decide))) (by assumption) ?_ ?_ ?_
          walk_at "mcall"
          intro v1 s4 S4
          walk_at "mr"
          with_reducible refine callD (law_times_num W (k + 21) wd hw0 hw20 (chooseV (n + 1) m) (0 - (more : Int)) (nat400 hcl (by decide)) (bound400 (a := 10) (by omega) (by decide))) (by assumption) ?_ ?_ ?_
          walk_at "mcall"
          intro v2 s5 S5
          walk_at "mr"
          exact ⟨by first | rfl | trivial, by walk_at "mst"⟩
      · rw [dueV, if_neg hin]
        walk_at "mr"
        by_cases h0 : 0 ≤ (spot : Int) - a
        · walk_at "mpos"
          refine test_last ?_
          walk_at "mr"
          walk_at "mneg"
          walk_at "mr"
          exact ⟨by first | rfl | trivial, by walk_at "mst"⟩
        · walk_at "mneg"
          walk_at "mr"
          exact ⟨by first | rfl | trivial, by walk_at "mst"⟩
    clear S
    intro s S
    walk_at "mr"
    with_reducible refine itemV (ds := (difN sp (n + 1)).map (sg wd)) (d := sg wd (dueV n spot more a)) (by assumption) ?_ (by omega) ?_ (by omega) ?_ ?_
    · walk_at "mhas"
    · rw [← hdue a ha]; exact zl_get (by omega) (by omega)
    rotate_left 1
    · with_unfolding_all rfl
    intro v1 S4
    walk_at "mr"
    with_reducible refine neD (d := sg wd (dueV n spot more a)) (e := sg wd (dueV n spot more a)) hA (by assumption) ?_ ?_ (shaped_sg _ _) (shaped_sg _ _) ?_
    · exact .mem (by k_mem)
    · exact .mem (.head _)
    rw [eq_sg, show (!true) = false from rfl]
    walk_at "mr"
    exact ⟨trivial, by walk_at "mst"⟩
  clear S
  intro s S
  walk_at "mr"
  exact ⟨rfl, _, _, S⟩
theorem firsts_dI {rs : List Int} {n j : Nat} (h : j < n + 1) : (firstsOf rs n).getD j 0 = dI rs j 0 := by
  rw [firsts_get h, difN_dI rs n j 0 (by omega)]; rfl
theorem sh_dI {n : Nat} (hn : n ≤ 4) {rs : List Int} (hl : rs.length = n + 1) : ∀ k j, j < n + 1 → (shN n (firstsOf rs n) k).getD j 0 = dI rs j k
  | 0, j, hj => firsts_dI hj
  | k + 1, j, hj => by
    rw [shN]
    by_cases h : j < n
    · rw [sh_get h, sh_dI hn hl k j (by omega), sh_dI hn hl k (j + 1) (by omega), dI]
      push_cast; omega
    · have : j = n := by omega
      subst this
      rw [sh_getn, sh_dI hn hl k j (by omega)]
      have := dI_zero hn hl k
      rw [dI] at this
      push_cast; omega
theorem sh_worth {n : Nat} (hn : n ≤ 4) {rs : List Int} (hl : rs.length = n + 1) (k : Nat) : (shN n (firstsOf rs n) k).getD 0 0 = worth rs k := sh_dI hn hl k 0 (by omega)
/-- Newton's sum -/
def nS (rs : List Int) (k : Nat) (x : Int) : Nat → Int
  | 0 => 0
  | j + 1 => nS rs k x j + (chooseV k j : Nat) * dI rs j x
theorem nS_zero (rs : List Int) (x : Int) : ∀ j, nS rs 0 x (j + 1) = dI rs 0 x
  | 0 => by simp [nS, chooseV]
  | j + 1 => by rw [nS, nS_zero rs x j]; simp [chooseV]
theorem nS_step (rs : List Int) (k : Nat) (x : Int) : ∀ j, nS rs (k + 1) x (j + 1) = nS rs k (x + 1) j + (chooseV k j : Nat) * dI rs j x
  | 0 => by simp [nS, chooseV]
  | j + 1 => by
    rw [nS, nS_step rs k x j, nS]
    have e : chooseV (k + 1) (j + 1) = chooseV k j + chooseV k (j + 1) := by simp [chooseV]
    have e2 : dI rs (j + 1) x = dI rs j (x + 1) - dI rs j x := rfl
    rw [e]
    push_cast
    grind
theorem nS_all {n : Nat} (hn : n ≤ 4) {rs : List Int} (hl : rs.length = n + 1) : ∀ (k : Nat) (x : Int), nS rs k x (n + 1) = dI rs 0 (x + k)
  | 0, x => by rw [nS_zero]; simp
  | k + 1, x => by
    rw [nS_step]
    have h := nS_all hn hl k (x + 1)
    rw [nS] at h
    have h0 := dI_zero hn hl x
    rw [dI] at h0
    have e : dI rs n x = dI rs n (x + 1) := by omega
    rw [e, h]
    push_cast
    rw [show x + 1 + (k : Int) = x + (k + 1) by omega]
theorem tS_nS {rs : List Int} {n : Nat} (k : Nat) : ∀ j, j ≤ n + 1 → tS rs n k j = nS rs k 0 j
  | 0, _ => rfl
  | j + 1, h => by rw [tS, nS, tS_nS k j (by omega), firsts_dI (by omega)]
theorem newton {n : Nat} (hn : n ≤ 4) {rs : List Int} (hl : rs.length = n + 1) (k : Nat) : tS rs n k (n + 1) = worth rs k := by
  rw [tS_nS k (n + 1) (Nat.le_refl _), nS_all hn hl, Int.zero_add]; rfl
/-- the list with 1 at one place, 0 elsewhere -/
def unit (m spot : Nat) : List Int := (List.range m).map fun i => if i = spot then 1 else 0
theorem unit_len (m spot : Nat) : (unit m spot).length = m := by rw [unit, List.length_map, List.length_range]
theorem unit_get {m spot i : Nat} (h : i < m) : (unit m spot).getD i 0 = if i = spot then 1 else 0 := by
  rw [List.getD_eq_getElem?_getD, unit, List.getElem?_map, List.getElem?_range h]; rfl
theorem difN_spoil {zs : List Int} {spot : Nat} {more : Int} : ∀ j i, i + j < zs.length → (difN (spoil zs spot more) j).getD i 0 = (difN zs j).getD i 0 + more * (difN (unit zs.length spot) j).getD i 0
  | 0, i, h => by
    show (spoil zs spot more).getD i 0 = zs.getD i 0 + more * (unit zs.length spot).getD i 0
    rw [spoil_get (i := i) h, unit_get (i := i) h]
    split <;> simp
  | j + 1, i, h => by
    rw [difN, dif_get (by rw [difN_len, spoil_len]; omega), difN, dif_get (by rw [difN_len]; omega), difN, dif_get (by rw [difN_len, unit_len]; omega),
      difN_spoil j (i + 1) (by omega), difN_spoil j i (by omega)]
    grind
theorem unit_due : ∀ n, n < 5 → ∀ spot, spot < 8 → ∀ a, a < 3 → spot < n + 4 → (difN (unit (n + 4) spot) (n + 1)).getD a 0 = dueV n spot 1 a := by decide +kernel
theorem dueV_mul (n spot : Nat) (more : Int) (a : Nat) : dueV n spot more a = more * dueV n spot 1 a := by
  unfold dueV
  split
  · split <;> grind
  · simp
theorem due_all {n : Nat} (hn : n ≤ 4) {rs : List Int} (hl : rs.length = n + 1) {spot : Nat} (hs : spot < n + 4) (more : Int) (a : Nat) (ha : a < 3) : (difN (spoil (valsOf rs n) spot more) (n + 1)).getD a 0 = dueV n spot more a := by
  rw [difN_spoil (n + 1) a (by rw [vals_len]; omega), (dif_top hn hl).2, vals_len, unit_due n (by omega) spot (by omega) a ha hs, ← dueV_mul]
  match a, ha with
  | 0, _ => simp
  | 1, _ => simp
  | 2, _ => simp
theorem gsOf_len (ns : List Int) : (gsOf ns).length ≤ 1000 := by rw [gsOf, List.length_map, List.length_take]; omega
theorem law_all {prog : Program} {w : World} {mg mb : Str → Option Value} {H : Heap} {A : Around} {f : Fm} {L fa : Addr} {cd : Value} {E : Value → Shared → Prop} {s : Shared} {k : Nat} (W : Wd w mg mb H) (hA : Ok (k + 25) A) {sl : Addr} {vs : List Value} {ns : List Int} (hl : f.s0.heap.IsList sl vs.toArray) (hI : IntsAre vs ns) (hn : ns.length ≤ 63)
    (S : St H f [(L, .ns [(Str.ofString "script", .v (.ref sl))]), (L + 6, .cell none), (L + 5, .cell none), (L + 4, .cell none), (L + 3, .cell none), (L + 2, .cell none), (L + 1, .cell none)] [] s) :
    wpAny (model prog w) A (execs (lawBody 0) (lawEnv L fa cd)) (fun fl s' => fl = .ret (.bool true) ∧ ∃ M D, St H f M D s') E s := by
  refine law0 W hA hl hI hn S fun s tb S => ?_
  refine law1 (k := k + 24) W hA (gsOf_len ns) S fun s wd n spot more tw ts tm r rs hw3 hw8 hn4 hsp hm1 hm9 hrs hrb S => ?_
  refine law2 W hA hw3 hw8 hn4 hrs hrb S fun s v lv S => ?_
  refine law3 W hA hw3 hw8 hn4 hrs hrb S fun s fi S => ?_
  refine law4 W hA hw3 hw8 hn4 hrs hrb (fun kk _ => newton hn4 hrs kk) S fun s S => ?_
  refine law5 W hA hw3 hw8 hn4 hrs hrb (fun kk _ => sh_worth hn4 hrs kk) S fun s S => ?_
  exact law6 W hA hw3 hw8 hn4 hrs hrb hsp hm1 hm9 (fun a ha => due_all hn4 hrs hsp more a ha) S
theorem law_start {prog : Program} {w : World} {mg mb : Str → Option Value} {A : Around} {E : Value → Shared → Prop} {s₁ : Shared} {h₁ : Heap} {tk : Nat} {m : Str → Option Value} {fa sl : Addr} {cd : Value} {vs : List Value} {ns : List Int} {o1 o2 o3 o4 o5 o6 : Obj} {L : Addr}
    (W : Wd w mg mb s₁.heap) (F : Fr s₁.heap L h₁ m) (N : News s₁.heap L h₁ [(L + 6, o6), (L + 5, o5), (L + 4, o4), (L + 3, o3), (L + 2, o2), (L + 1, o1)]) (hL : s₁.heap.IsList sl vs.toArray) (hI : IntsAre vs ns) (hA : Ok 25 A) (hm : m (Str.ofString "script") = some (.ref sl))
    (d6 : o6.data = .cell none) (d5 : o5.data = .cell none) (d4 : o4.data = .cell none) (d3 : o3.data = .cell none) (d2 : o2.data = .cell none) (d1 : o1.data = .cell none) (hn : ns.length ≤ 63) :
    wpAny (model prog w) A (execs (lawBody 0) (lawEnv L fa cd)) (fun fl s' => fl = .ret (.bool true) ∧ (∀ b o, s₁.heap.get? b = some o → s'.heap.get? b = some o) ∧ s'.os = s₁.os ∧ s'.gens = s₁.gens) E { s₁ with heap := h₁, toks := tk } := by
  have S : St s₁.heap ⟨s₁, fun _ => none⟩ [(L, .ns [(Str.ofString "script", .v (.ref sl))]), (L + 6, .cell none), (L + 5, .cell none), (L + 4, .cell none), (L + 3, .cell none), (L + 2, .cell none), (L + 1, .cell none)] [] { s₁ with heap := h₁, toks := tk } := by
    have cell : ∀ c o, (c, o) ∈ [(L + 6, o6), (L + 5, o5), (L + 4, o4), (L + 3, o3), (L + 2, o2), (L + 1, o1)] → o.data = .cell none → MO.at (fun _ => none) h₁ c (.cell none) ∧ (fun _ => none : View) c = none ∧ s₁.heap.get? c = none := fun c o hm hd => ⟨⟨o, (N _ hm).1, hd⟩, rfl, (N _ hm).2.2⟩
    refine ⟨⟨h₁, tk, rfl⟩, fun _ _ e => e, F.keep, ⟨fun _ => none, ⟨fun _ _ e => (nomatch e), fun _ _ e => e, fun _ _ e => (nomatch e), fun _ h => (nomatch h), fun p hp => ?_⟩⟩, ?_⟩
    · rcases List.mem_cons.mp hp with rfl | hp
      · refine ⟨⟨m, F.ns, fun x e he => ?_⟩, rfl, none_ge F.above⟩
        rw [List.lookup_cons] at he
        cases hx : x == Str.ofString "script" with
        | true =>
          rw [hx] at he
          cases he
          exact ⟨_, by rw [beq_iff_eq.mp hx]; exact hm, rfl⟩
        | false => rw [hx] at he; cases he
      · rcases List.mem_cons.mp hp with rfl | hp
        · exact cell _ o6 (by simp) d6
        rcases List.mem_cons.mp hp with rfl | hp
        · exact cell _ o5 (by simp) d5
        rcases List.mem_cons.mp hp with rfl | hp
        · exact cell _ o4 (by simp) d4
        rcases List.mem_cons.mp hp with rfl | hp
        · exact cell _ o3 (by simp) d3
        rcases List.mem_cons.mp hp with rfl | hp
        · exact cell _ o2 (by simp) d2
        rcases List.mem_cons.mp hp with rfl | hp
        · exact cell _ o1 (by simp) d1
        cases hp
    · have ne : ∀ a b : Nat, a ≠ b → L + a ≠ L + b := fun a b h e => h (Nat.add_left_cancel e)
      have n0 : ∀ a : Nat, a ≠ 0 → L ≠ L + a := fun a h e => h (Nat.add_left_cancel (e.symm.trans (Nat.add_zero L).symm))
      simp only [List.map_cons, List.map_nil, List.nodup_cons, List.mem_cons, List.not_mem_nil, or_false, not_or, not_false_eq_true, List.nodup_nil, and_true]
      exact ⟨⟨n0 6 (by decide), n0 5 (by decide), n0 4 (by decide), n0 3 (by decide), n0 2 (by decide), n0 1 (by decide)⟩, ⟨ne 6 5 (by decide), ne 6 4 (by decide), ne 6 3 (by decide), ne 6 2 (by decide), ne 6 1 (by decide)⟩,
        ⟨ne 5 4 (by decide), ne 5 3 (by decide), ne 5 2 (by decide), ne 5 1 (by decide)⟩, ⟨ne 4 3 (by decide), ne 4 2 (by decide), ne 4 1 (by decide)⟩, ⟨ne 3 2 (by decide), ne 3 1 (by decide)⟩, ne 2 1 (by decide)⟩
  refine wpAny_mono (law_all (k := 0) W hA (by exact hL) hI hn S) (fun fl s' h => ?_) fun _ _ e => e
  obtain ⟨rfl, M, D, S'⟩ := h
  obtain ⟨h', tk', e⟩ := S'.same
  refine ⟨rfl, S'.keep, ?_, ?_⟩
  · rw [e]
  · rw [e]
theorem callerOk (env : Env) : Ok 25 (callerA.deeper env) := Ok.deeper ⟨rfl, by decide +kernel, by decide +kernel⟩
local macro_rules | `(tactic| k_qdec) => `(tactic| decide +kernel)
set_option maxHeartbeats 8000000 in
theorem cw : PySem.Challenge.rw_tk0046_01.Holds := hd (by
  k_go0
  refine wpAny_mono (law_start (ns := ‹List Int›) ⟨by assumption, topRead_of (by assumption)⟩ (by assumption) (by assumption) (by assumption) (by assumption) (callerOk _) (by rfl) (by assumption) (by assumption) (by assumption) (by assumption) (by assumption) (by assumption) (by omega)) (fun fl s' h => ?_) (fun _ _ e => e)
  obtain ⟨rfl, hk, hos, hg⟩ := h
  exact ⟨.inl ⟨_, _, _, rfl, raisesW_false (by wrow_none_raised), .bool true, by wrow_post, unshared_nil⟩, hk, hos, hg.trans (by assumption)⟩)
end Mine
theorem PySem.Challenge.cw_tk0046_01_holds : PySem.Challenge.rw_tk0046_01.Holds := by
  exact Mine.cw
