import PyProof.Rows.All
import Wide.All
import OpenK.AllK
import Wide.FinOn
import Lean
import PySem.Challenge.RW_xm0404_01
open PySem PySem.W PyProof.Rows PySem.Calls PySem.Spec
set_option Elab.async false
set_option compiler.extract_closed false
set_option maxRecDepth 100000
set_option maxHeartbeats 8000000
set_option linter.unusedVariables false
set_option linter.unusedSimpArgs false
namespace Mine
theorem cps {G : Prop} (h : ∀ P : Prop, (G → P) → P) : G := h G id

/-! ## the pure state -/
inductive MV where
  | int (k : Int) | bool (b : Bool) | none | ref (i : Nat) | fn (x : Str) | unb

inductive MO where
  | list (l : List MV) | tup (l : List MV) | cell (v : MV)

structure Gx where
  prog : Program
  w : World
  p : Program
  loose : List Str
  mean : ExcName → Option Value
  mg : Str → Option Value
  mb : Str → Option Value

inductive All2 {α β : Type} (R : α → β → Prop) : List α → List β → Prop where
  | nil : All2 R [] []
  | cons {a b as bs} : R a b → All2 R as bs → All2 R (a :: as) (b :: bs)

namespace All2
variable {α β : Type} {R R' : α → β → Prop}
theorem mono (h : ∀ a b, R a b → R' a b) : ∀ {as : List α} {bs : List β}, All2 R as bs → All2 R' as bs
  | _, _, .nil => .nil
  | _, _, .cons x y => .cons (h _ _ x) (mono h y)
theorem length : ∀ {as : List α} {bs : List β}, All2 R as bs → as.length = bs.length
  | _, _, .nil => rfl
  | _, _, .cons _ y => by simp [y.length]
theorem get : ∀ {as : List α} {bs : List β}, All2 R as bs → ∀ {i : Nat} {a : α}, as[i]? = some a → ∃ b, bs[i]? = some b ∧ R a b
  | _, _, .nil, _, _, h => by simp at h
  | _, _, .cons x y, 0, _, h => by simp at h; subst h; exact ⟨_, rfl, x⟩
  | _, _, .cons x y, i + 1, _, h => by simpa using y.get (i := i) (by simpa using h)
theorem get' : ∀ {as : List α} {bs : List β}, All2 R as bs → ∀ {i : Nat} {b : β}, bs[i]? = some b → ∃ a, as[i]? = some a ∧ R a b
  | _, _, .nil, _, _, h => by simp at h
  | _, _, .cons x y, 0, _, h => by simp at h; subst h; exact ⟨_, rfl, x⟩
  | _, _, .cons x y, i + 1, _, h => by simpa using y.get' (i := i) (by simpa using h)
theorem append : ∀ {as : List α} {bs : List β} {cs : List α} {ds : List β}, All2 R as bs → All2 R cs ds → All2 R (as ++ cs) (bs ++ ds)
  | _, _, _, _, .nil, z => z
  | _, _, _, _, .cons x y, z => .cons x (y.append z)
theorem set : ∀ {as : List α} {bs : List β}, All2 R as bs → ∀ {i : Nat} {a : α} {b : β}, R a b → All2 R (as.set i a) (bs.set i b)
  | _, _, .nil, _, _, _, _ => .nil
  | _, _, .cons _ y, 0, _, _, h => .cons h y
  | _, _, .cons x y, i + 1, _, _, h => .cons x (y.set h)
theorem take : ∀ {as : List α} {bs : List β}, All2 R as bs → ∀ (n : Nat), All2 R (as.take n) (bs.take n)
  | _, _, _, 0 => .nil
  | _, _, .nil, _ + 1 => .nil
  | _, _, .cons x y, n + 1 => .cons x (y.take n)
theorem drop : ∀ {as : List α} {bs : List β}, All2 R as bs → ∀ (n : Nat), All2 R (as.drop n) (bs.drop n)
  | _, _, x, 0 => x
  | _, _, .nil, _ + 1 => .nil
  | _, _, .cons _ y, n + 1 => y.drop n
theorem reverse : ∀ {as : List α} {bs : List β}, All2 R as bs → All2 R as.reverse bs.reverse
  | _, _, .nil => .nil
  | _, _, .cons x y => by
    rw [List.reverse_cons, List.reverse_cons]
    exact y.reverse.append (.cons x .nil)
theorem replicate {a : α} {b : β} (h : R a b) : ∀ n, All2 R (List.replicate n a) (List.replicate n b)
  | 0 => .nil
  | n + 1 => .cons h (replicate h n)
end All2

abbrev ad (news : List (Addr × Obj)) : List Addr := news.map Prod.fst

def VR (G : Gx) (ρ : List Addr) : MV → Value → Prop
  | .int k, v => ∃ t, v = .int k t
  | .bool b, v => v = .bool b
  | .none, v => v = .none
  | .ref i, v => ∃ a, ρ[i]? = some a ∧ v = .ref a
  | .fn x, v => (∃ d ∈ recsOf G.p, d.name = x) ∧ ∃ a, G.mg x = some (.ref a) ∧ v = .ref a
  | .unb, _ => False

theorem vr_int {G : Gx} {ρ : List Addr} (k : Int) (t : Tok) : VR G ρ (.int k) (.int k t) := ⟨t, rfl⟩
theorem vr_bool {G : Gx} {ρ : List Addr} (b : Bool) : VR G ρ (.bool b) (.bool b) := rfl
def tupOf (its : Array Value) (n : Nat) : Obj := { cls := .type "tuple", data := .seq its n }

def OR (G : Gx) (ρ : List Addr) : MO → Obj → Prop
  | .list l, o => ∃ vs n, o = listOf (List.toArray vs) n ∧ All2 (VR G ρ) l vs
  | .tup l, o => ∃ vs n, o = tupOf (List.toArray vs) n ∧ All2 (VR G ρ) l vs
  | .cell v, o => ∃ x, o.data = .cell x ∧ (v = .unb ∨ ∃ u, x = some u ∧ VR G ρ v u)

theorem pre_get {ρ ρ' : List Addr} (h : ρ <+: ρ') {i : Nat} {a : Addr} (e : ρ[i]? = some a) : ρ'[i]? = some a := by
  obtain ⟨t, rfl⟩ := h
  rw [List.getElem?_append_left (by rw [List.getElem?_eq_some_iff] at e; exact e.1)]
  exact e
theorem VR.mono {G : Gx} {ρ ρ' : List Addr} (h : ρ <+: ρ') : ∀ {v : MV} {u : Value}, VR G ρ v u → VR G ρ' v u
  | .int _, _, x => x
  | .bool _, _, x => x
  | .none, _, x => x
  | .ref _, _, ⟨a, e, q⟩ => ⟨a, pre_get h e, q⟩
  | .fn _, _, x => x
  | .unb, _, x => x
theorem VRs.mono {G : Gx} {ρ ρ' : List Addr} (h : ρ <+: ρ') {l : List MV} {vs : List Value} (x : All2 (VR G ρ) l vs) : All2 (VR G ρ') l vs := x.mono fun _ _ y => y.mono h
theorem OR.mono {G : Gx} {ρ ρ' : List Addr} (h : ρ <+: ρ') : ∀ {v : MO} {o : Obj}, OR G ρ v o → OR G ρ' v o
  | .list _, _, ⟨vs, n, e, q⟩ => ⟨vs, n, e, VRs.mono h q⟩
  | .tup _, _, ⟨vs, n, e, q⟩ => ⟨vs, n, e, VRs.mono h q⟩
  | .cell _, _, ⟨x, e, q⟩ => ⟨x, e, q.imp id fun ⟨u, e, r⟩ => ⟨u, e, r.mono h⟩⟩

/-! ## names -/
inductive SlotV : List Str → List MV → Str → MV → Prop where
  | here {x xs v vs} : SlotV (x :: xs) (v :: vs) x v
  | there {y xs u vs x v} : SlotV xs vs x v → SlotV (y :: xs) (u :: vs) x v
inductive SlotS : List Str → List MV → Str → MV → List MV → Prop where
  | here {x xs u vs v} : SlotS (x :: xs) (u :: vs) x v (v :: vs)
  | there {y xs u vs x v vs'} : SlotS xs vs x v vs' → SlotS (y :: xs) (u :: vs) x v (u :: vs')
theorem SlotV.mem {xs vs x v} (h : SlotV xs vs x v) : x ∈ xs := by
  induction h with
  | here => exact .head _
  | there _ ih => exact .tail _ ih
theorem SlotS.mem {xs vs x v vs'} (h : SlotS xs vs x v vs') : x ∈ xs := by
  induction h with
  | here => exact .head _
  | there _ ih => exact .tail _ ih
theorem SlotS.look {xs vs x v vs'} (h : SlotS xs vs x v vs') : xs.Nodup → ∀ {y w}, SlotV xs vs' y w → (y = x ∧ w = v) ∨ (y ≠ x ∧ SlotV xs vs y w) := by
  induction h with
  | here =>
    intro nd y w q
    rw [List.nodup_cons] at nd
    cases q with
    | here => exact .inl ⟨rfl, rfl⟩
    | there q => exact .inr ⟨fun e => nd.1 (e ▸ q.mem), .there q⟩
  | there hs ih =>
    intro nd y w q
    rw [List.nodup_cons] at nd
    cases q with
    | here => exact .inr ⟨fun e => nd.1 (e ▸ hs.mem), .here⟩
    | there q => exact (ih nd.2 q).imp id fun ⟨a, b⟩ => ⟨a, .there b⟩

structure FnOk (cs : Scope) (xs : List Str) : Prop where
  kind : cs.kind = .function
  nd : xs.Nodup
  loc : ∀ x ∈ xs, cs.names.lookup x = some .local ∧ (x == ("__debug__" : Str)) = false

/-! ## the real state -/
structure Fd where
  A₀ : Around
  base : Heap
  outer : List Env
  h₀ : Heap
  L : Addr
  cs : Scope
  ccd : Value
  cl : List (Str × Addr)
  qu : Str
  fu : Option Addr
  fm : Option Addr
abbrev Fd.env (d : Fd) : Env := { scope := d.cs, locals := d.L, globals := mainGlobals, cells := d.cl, qual := d.qu, func := d.fu, code := d.ccd, frame := d.fm, builtins := builtinsNs }

structure Rl (G : Gx) (xs : List Str) (cx : List (Str × Nat)) (d : Fd) (fz news : List (Addr × Obj)) (σ : List MV) (H : List MO) (h : Heap) : Prop where
  bel : Below d.A₀ d.base d.outer d.h₀
  top : Top G.p G.loose G.mean G.mg G.mb d.h₀
  fr : ∃ m, Fr d.h₀ d.L h m ∧ ∀ x v, SlotV xs σ x v → v ≠ .unb → ∃ u, m x = some u ∧ VR G (ad news) v u
  nw : News d.h₀ d.L h (fz ++ news)
  hr : All2 (fun mo p => OR G (ad news) mo p.2) H news
  nd : (ad (fz ++ news)).Nodup
  cells : ∀ x i, (x, i) ∈ cx → ∃ c, d.cl.lookup x = some c ∧ (ad news)[i]? = some c

def Up (h h' : Heap) : Prop := ∀ b o, h.get? b = some o → h'.get? b = some o
theorem Up.refl (h : Heap) : Up h h := fun _ _ e => e
theorem Up.trans {a b c : Heap} (x : Up a b) (y : Up b c) : Up a c := fun _ _ e => y _ _ (x _ _ e)
theorem Up.push (h : Heap) (o : Obj) : Up h (h.push o) := fun _ _ e => Heap.get?_push_of_some _ e
theorem Up.of_ext {h h' : Heap} (x : Heap.ExtBut h.objs.size h h') : Up h h' := fun b o e => x b o (Nat.ne_of_lt (Heap.lt_size e)) e

theorem ad_set {news : List (Addr × Obj)} {i : Nat} {a : Addr} {o o' : Obj} (e : news[i]? = some (a, o)) : ad (news.set i (a, o')) = ad news := by
  apply List.ext_getElem?
  intro j
  rw [ad, ad, List.getElem?_map, List.getElem?_map]
  by_cases q : i = j
  · subst q
    have hi : i < news.length := by rw [List.getElem?_eq_some_iff] at e; exact e.1
    rw [List.getElem?_set_self hi, e]; rfl
  · rw [List.getElem?_set_ne q]

namespace Rl
variable {G : Gx} {xs : List Str} {cx : List (Str × Nat)} {d : Fd} {fz news : List (Addr × Obj)} {σ : List MV} {H : List MO} {h h' : Heap}
theorem ndn (R : Rl G xs cx d fz news σ H h) : (ad news).Nodup := by
  have := R.nd
  rw [ad, List.map_append, List.nodup_append] at this
  exact this.2.1
theorem up (R : Rl G xs cx d fz news σ H h) (k : Up h h') : Rl G xs cx d fz news σ H h' :=
  { R with
    fr := let ⟨m, F, q⟩ := R.fr; ⟨m, ⟨F.ns.keeps k, fun b o e => k _ _ (F.keep b o e), F.above⟩, q⟩
    nw := fun p hp => ⟨k _ _ (R.nw p hp).1, (R.nw p hp).2⟩ }
theorem at_ (R : Rl G xs cx d fz news σ H h) {i : Nat} {mo : MO} (e : H[i]? = some mo) : ∃ a o, news[i]? = some (a, o) ∧ (ad news)[i]? = some a ∧ h.get? a = some o ∧ OR G (ad news) mo o := by
  obtain ⟨⟨a, o⟩, e1, q⟩ := R.hr.get e
  refine ⟨a, o, e1, by rw [List.getElem?_map, e1]; rfl, (R.nw (a, o) (List.mem_append_right _ (List.mem_of_getElem? e1))).1, q⟩
/-- a reference to a mini object -/
theorem ref_ (R : Rl G xs cx d fz news σ H h) {i : Nat} {mo : MO} {u : Value} (e : H[i]? = some mo) (v : VR G (ad news) (.ref i) u) : ∃ a o, u = .ref a ∧ news[i]? = some (a, o) ∧ h.get? a = some o ∧ OR G (ad news) mo o := by
  obtain ⟨a, o, e1, e2, e3, e4⟩ := R.at_ e
  obtain ⟨a', e5, rfl⟩ := v
  rw [e2] at e5; cases e5
  exact ⟨a, o, rfl, e1, e3, e4⟩
theorem list_ (R : Rl G xs cx d fz news σ H h) {i : Nat} {l : List MV} {u : Value} (e : H[i]? = some (.list l)) (v : VR G (ad news) (.ref i) u) :
    ∃ a vs n, u = .ref a ∧ news[i]? = some (a, listOf (List.toArray vs) n) ∧ h.get? a = some (listOf (List.toArray vs) n) ∧ h.IsList a vs.toArray ∧ All2 (VR G (ad news)) l vs := by
  obtain ⟨a, o, rfl, e1, e2, vs, n, rfl, q⟩ := R.ref_ e v
  exact ⟨a, vs, n, rfl, e1, e2, ⟨_, e2, rfl, n, rfl⟩, q⟩
theorem tup_ (R : Rl G xs cx d fz news σ H h) {i : Nat} {l : List MV} {u : Value} (e : H[i]? = some (.tup l)) (v : VR G (ad news) (.ref i) u) :
    ∃ a vs n, u = .ref a ∧ h.get? a = some (tupOf (List.toArray vs) n) ∧ IsTup h a vs.toArray ∧ All2 (VR G (ad news)) l vs := by
  obtain ⟨a, o, rfl, e1, e2, vs, n, rfl, q⟩ := R.ref_ e v
  exact ⟨a, vs, n, rfl, e2, ⟨_, e2, rfl, n, rfl⟩, q⟩

/-- a new object, by the library's words -/
theorem fresh (R : Rl G xs cx d fz news σ H h) {m : Str → Option Value} (F : Fr d.h₀ d.L h' m) (qf : ∀ x v, SlotV xs σ x v → v ≠ .unb → ∃ u, m x = some u ∧ VR G (ad news) v u)
    {a : Addr} {o : Obj} {mo : MO} (N : News d.h₀ d.L h' ((a, o) :: (fz ++ news))) (lt : ∀ p ∈ fz ++ news, p.1 ≠ a) (q : OR G (ad (news ++ [(a, o)])) mo o) :
    Rl G xs cx d fz (news ++ [(a, o)]) σ (H ++ [mo]) h' := by
  have pre : ad news <+: ad (news ++ [(a, o)]) := by simp [ad]
  refine ⟨R.bel, R.top, ⟨m, F, fun x v sv hv => ?_⟩, fun p hp => ?_, ?_, ?_, fun x i hx => ?_⟩
  · obtain ⟨u, e, r⟩ := qf x v sv hv
    exact ⟨u, e, r.mono pre⟩
  · rw [← List.append_assoc] at hp
    rcases List.mem_append.mp hp with hp | hp
    · exact N p (.tail _ hp)
    · rw [List.mem_singleton.mp hp]; exact N _ (.head _)
  · exact (R.hr.mono fun _ _ y => y.mono pre).append (.cons q .nil)
  · rw [← List.append_assoc, ad, List.map_append, List.nodup_append]
    refine ⟨R.nd, by simp, fun b hb c hc => ?_⟩
    simp only [List.map_cons, List.map_nil, List.mem_singleton] at hc
    subst hc
    rintro rfl
    obtain ⟨p, hp, e⟩ := List.mem_map.mp hb
    exact lt p hp e
  · obtain ⟨c, e1, e2⟩ := R.cells x i hx
    exact ⟨c, e1, pre_get pre e2⟩
/-- only the frame and the ledger as they stood -/
theorem same (R : Rl G xs cx d fz news σ H h) {m : Str → Option Value} (F : Fr d.h₀ d.L h' m) (qf : ∀ x v, SlotV xs σ x v → v ≠ .unb → ∃ u, m x = some u ∧ VR G (ad news) v u)
    (N : News d.h₀ d.L h' (fz ++ news)) : Rl G xs cx d fz news σ H h' := { R with fr := ⟨m, F, qf⟩, nw := N }
/-- a new object -/
theorem snoc (R : Rl G xs cx d fz news σ H h) {a : Addr} {o : Obj} {mo : MO} (k : Up h h') (hn : h.get? a = Option.none) (ho : h'.get? a = some o) (q : OR G (ad (news ++ [(a, o)])) mo o) :
    Rl G xs cx d fz (news ++ [(a, o)]) σ (H ++ [mo]) h' := by
  have R' := R.up k
  obtain ⟨m, F, qf⟩ := R'.fr
  have nL : a ≠ d.L := fun e => by
    obtain ⟨m0, F0, _⟩ := R.fr
    obtain ⟨oL, es, ep, hL, r⟩ := F0.ns
    rw [← e, hn] at hL; cases hL
  have n0 : d.h₀.get? a = Option.none := by
    cases e : d.h₀.get? a with
    | none => rfl
    | some o' => obtain ⟨m0, F0, _⟩ := R.fr; have := F0.keep _ _ e; rw [hn] at this; cases this
  refine R'.fresh F qf (fun p hp => ?_) (fun p hp e => ?_) q
  · rcases List.mem_cons.mp hp with rfl | hp
    · exact ⟨ho, nL, n0⟩
    · exact R'.nw p hp
  · have := (R.nw p hp).1
    rw [e, hn] at this; cases this
theorem push (R : Rl G xs cx d fz news σ H h) {o : Obj} {mo : MO} (q : OR G (ad (news ++ [(h.objs.size, o)])) mo o) (hf : o.isFreed = false := by rfl) :
    Rl G xs cx d fz (news ++ [(h.objs.size, o)]) σ (H ++ [mo]) (h.push o) := by
  refine R.snoc (Up.push h o) ?_ (Heap.get?_push_size _ hf) q
  cases e : h.get? h.objs.size with
  | none => rfl
  | some o' => exact absurd (Heap.lt_size e) (Nat.lt_irrefl _)
/-- an object changed in its place -/
theorem setAt (R : Rl G xs cx d fz news σ H h) {i : Nat} {a : Addr} {o o' : Obj} {mo : MO} (e : news[i]? = some (a, o)) (k : Heap.SameBut a h h') (ho : h'.get? a = some o') (q : OR G (ad news) mo o') :
    Rl G xs cx d fz (news.set i (a, o')) σ (H.set i mo) h' := by
  have hi : i < news.length := by rw [List.getElem?_eq_some_iff] at e; exact e.1
  have ead : ad (news.set i (a, o')) = ad news := ad_set e
  have ead' : ad (fz ++ news.set i (a, o')) = ad (fz ++ news) := by rw [ad, ad, List.map_append, List.map_append]; exact congrArg _ ead
  have hD := R.nw (a, o) (List.mem_append_right _ (List.mem_of_getElem? e))
  have nd := R.nd
  rw [ad, List.map_append, List.nodup_append] at nd
  obtain ⟨m, F, qf⟩ := R.fr
  refine ⟨R.bel, R.top, ⟨m, F.change k hD.2.1 hD.2.2, ead.symm ▸ qf⟩, fun p hp => ?_, ?_, ead'.symm ▸ R.nd, ead.symm ▸ R.cells⟩
  · rcases List.mem_append.mp hp with hp | hp
    · have z := R.nw p (List.mem_append_left _ hp)
      refine ⟨(k.2 p.1 fun ea => ?_).trans z.1, z.2⟩
      exact nd.2.2 p.1 (List.mem_map_of_mem hp) a (List.mem_map_of_mem (List.mem_of_getElem? e)) ea
    · obtain ⟨j, hj⟩ := List.getElem?_of_mem hp
      by_cases hne : i = j
      · subst hne; rw [List.getElem?_set_self hi] at hj; cases hj; exact ⟨ho, hD.2⟩
      · rw [List.getElem?_set_ne hne] at hj
        have z := R.nw p (List.mem_append_right _ (List.mem_of_getElem? hj))
        refine ⟨(k.2 p.1 fun ea => hne ?_).trans z.1, z.2⟩
        have h1 : (ad news)[j]? = some p.1 := by rw [ad, List.getElem?_map, hj]; rfl
        have h2 : (ad news)[i]? = some a := by rw [ad, List.getElem?_map, e]; rfl
        have hi' : i < (ad news).length := by rw [List.getElem?_eq_some_iff] at h2; exact h2.1
        exact (List.getElem?_inj hi' R.ndn).mp (h2.trans (ea ▸ h1.symm))
  · rw [ead]; exact R.hr.set q
/-- a name stored -/
theorem store (R : Rl G xs cx d fz news σ H h) {cs : Scope} (ok : FnOk cs xs) {x : Str} {v : MV} {u : Value} {σ' : List MV} {m : Str → Option Value} (hs : SlotS xs σ x v σ') (hv : VR G (ad news) v u)
    (qf : ∀ x v, SlotV xs σ x v → v ≠ .unb → ∃ u, m x = some u ∧ VR G (ad news) v u) (F' : Fr d.h₀ d.L h' (fun y => if y = x then some u else m y)) (N' : News d.h₀ d.L h' (fz ++ news)) : Rl G xs cx d fz news σ' H h' := by
  refine { R with fr := ⟨_, F', fun y w sv hw => ?_⟩, nw := N' }
  rcases hs.look ok.nd sv with ⟨rfl, rfl⟩ | ⟨hne, sv'⟩
  · exact ⟨u, by simp, hv⟩
  · obtain ⟨u', e, r⟩ := qf y w sv' hw
    exact ⟨u', by simp [hne, e], r⟩
end Rl

structure AOk (n : Nat) (d : Fd) (A : Around) : Prop where
  hh : A.handled = Option.none
  fr : 0 < n → A.frames = some (d.env :: d.outer) ∧ d.fm = some d.L
  dp : A.depth + n ≤ 900
  un : A.units + 10 * n ≤ 9800

structure Gr (s : Shared) (news : List (Addr × Obj)) (s' : Shared) (news' : List (Addr × Obj)) : Prop where
  gens : s'.gens = s.gens
  drawn : s'.drawn = s.drawn
  os : s'.os = s.os
  pre : ad news <+: ad news'
theorem Gr.refl (s : Shared) (news) : Gr s news s news := ⟨rfl, rfl, rfl, List.prefix_rfl⟩
theorem Gr.trans {s s' s'' : Shared} {n n' n''} (x : Gr s n s' n') (y : Gr s' n' s'' n'') : Gr s n s'' n'' :=
  ⟨y.gens.trans x.gens, y.drawn.trans x.drawn, y.os.trans x.os, x.pre.trans y.pre⟩
theorem Gr.same (s : Shared) (h' : Heap) (tk : Nat) (news) : Gr s news { s with heap := h', toks := tk } news := ⟨rfl, rfl, rfl, List.prefix_rfl⟩
theorem Gr.more (s : Shared) (h' : Heap) (tk : Nat) (news) (p) : Gr s news { s with heap := h', toks := tk } (news ++ [p]) := ⟨rfl, rfl, rfl, by simp [ad]⟩
theorem Gr.set (s : Shared) (h' : Heap) (tk : Nat) (news : List (Addr × Obj)) {i a o o'} (e : news[i]? = some (a, o)) : Gr s news { s with heap := h', toks := tk } (news.set i (a, o')) := by
  refine ⟨rfl, rfl, rfl, ?_⟩
  show ad news <+: ad _
  rw [ad_set e]
  exact List.prefix_rfl

end Mine
namespace Mine

def EP {α β : Type} (G : Gx) (xs : List Str) (cx : List (Str × Nat)) (d : Fd) (fz : List (Addr × Obj)) (s : Shared) (news : List (Addr × Obj)) (σ : List MV) (rel : Gx → List Addr → β → α → Prop) (Q : β → List MO → Prop) (a : α) (s' : Shared) : Prop :=
  ∃ b H' news', Rl G xs cx d fz news' σ H' s'.heap ∧ Gr s news s' news' ∧ rel G (ad news') b a ∧ Q b H'

theorem ep_mono {α β : Type} {G : Gx} {xs : List Str} {cx : List (Str × Nat)} {d : Fd} {fz : List (Addr × Obj)} {s : Shared} {news : List (Addr × Obj)} {σ : List MV} {rel : Gx → List Addr → β → α → Prop} {Q : β → List MO → Prop}
    {M : Model} {A : Around} {t : Sem α} {E : Value → Shared → Prop} {P : α → Shared → Prop} (h : wpAny M A t (EP G xs cx d fz s news σ rel Q) E s)
    (k : ∀ b H' news' a s', Rl G xs cx d fz news' σ H' s'.heap → Gr s news s' news' → rel G (ad news') b a → Q b H' → P a s') : wpAny M A t P E s :=
  wpAny_mono h (fun a s' ⟨b, H', n', R, g, r, q⟩ => k b H' n' a s' R g r q) fun _ _ e => e

theorem ep_from {α β : Type} {G : Gx} {xs : List Str} {cx : List (Str × Nat)} {d : Fd} {fz : List (Addr × Obj)} {s s1 : Shared} {news n1 : List (Addr × Obj)} {σ : List MV} {rel : Gx → List Addr → β → α → Prop} {Q : β → List MO → Prop}
    {M : Model} {A : Around} {t : Sem α} {E : Value → Shared → Prop} (g : Gr s news s1 n1) (h : wpAny M A t (EP G xs cx d fz s1 n1 σ rel Q) E s1) : wpAny M A t (EP G xs cx d fz s news σ rel Q) E s1 :=
  ep_mono h fun b H' n' a s' R g' r q => ⟨b, H', n', R, g.trans g', r, q⟩

def W {α β : Type} (G : Gx) (cs : Scope) (xs : List Str) (cx : List (Str × Nat)) (n : Nat) (t : Env → Sem α) (rel : Gx → List Addr → β → α → Prop) (Q : β → List MO → Prop) (σ : List MV) (H : List MO) : Prop :=
  FnOk cs xs → ∀ (d : Fd) (A : Around) (E : Value → Shared → Prop) (s : Shared) (fz news : List (Addr × Obj)), d.cs = cs → AOk n d A → Rl G xs cx d fz news σ H s.heap →
    wpAny (model G.prog G.w) A (t d.env) (EP G xs cx d fz s news σ rel Q) E s

def BR (_ : Gx) (_ : List Addr) (b c : Bool) : Prop := c = b
def VRs (G : Gx) (ρ : List Addr) : List MV → List Value → Prop := All2 (VR G ρ)

/-- an expression -/
def WE (G : Gx) (cs : Scope) (xs : List Str) (cx : List (Str × Nat)) (n : Nat) (e : Expr) (Q : MV → List MO → Prop) (σ : List MV) (H : List MO) : Prop := W G cs xs cx n (fun env => eval e env) VR Q σ H
/-- a test -/
def WT (G : Gx) (cs : Scope) (xs : List Str) (cx : List (Str × Nat)) (n : Nat) (e : Expr) (Q : Bool → List MO → Prop) (σ : List MV) (H : List MO) : Prop := W G cs xs cx n (fun env => PySem.isTrue e env (eval e env)) BR Q σ H
/-- a row of expressions -/
def WEs (G : Gx) (cs : Scope) (xs : List Str) (cx : List (Str × Nat)) (n : Nat) (es : List Expr) (Q : List MV → List MO → Prop) (σ : List MV) (H : List MO) : Prop :=
  ∀ pos, W G cs xs cx n (fun env => spliced (backTo pos (starEach es env))) VRs Q σ H
/-- a binary operator on values -/
def BO (G : Gx) (op : Operator) (a b : MV) (Q : MV → List MO → Prop) (H : List MO) : Prop :=
  ∀ cs xs cx n σ, FnOk cs xs → ∀ (d : Fd) (A : Around) (E : Value → Shared → Prop) (s : Shared) (fz news : List (Addr × Obj)) (u v : Value), d.cs = cs → AOk n d A → Rl G xs cx d fz news σ H s.heap →
    VR G (ad news) a u → VR G (ad news) b v → wpAny (model G.prog G.w) A (binaryOp op u v) (EP G xs cx d fz s news σ VR Q) E s
/-- a comparison of values -/
def CO (G : Gx) (op : CmpOp) (a b : MV) (Q : Bool → List MO → Prop) (H : List MO) : Prop :=
  ∀ cs xs cx n σ, FnOk cs xs → ∀ (d : Fd) (A : Around) (E : Value → Shared → Prop) (s : Shared) (fz news : List (Addr × Obj)) (u v : Value), d.cs = cs → AOk n d A → Rl G xs cx d fz news σ H s.heap →
    VR G (ad news) a u → VR G (ad news) b v → wpAny (model G.prog G.w) A (compareOp op u v) (EP G xs cx d fz s news σ (fun _ _ b w => w = .bool b) Q) E s
/-- a call of a value -/
def WC (G : Gx) (n : Nat) (f : MV) (args : List MV) (Q : MV → List MO → Prop) (H : List MO) : Prop :=
  ∀ cs xs cx σ, FnOk cs xs → ∀ (d : Fd) (A : Around) (E : Value → Shared → Prop) (s : Shared) (fz news : List (Addr × Obj)) (u : Value) (vs : List Value), d.cs = cs → AOk n d A → Rl G xs cx d fz news σ H s.heap →
    VR G (ad news) f u → All2 (VR G (ad news)) args vs → wpAny (model G.prog G.w) A (call u vs) (EP G xs cx d fz s news σ VR Q) E s

section
variable {G : Gx} {cs : Scope} {xs : List Str} {cx : List (Str × Nat)} {n : Nat} {Q : MV → List MO → Prop} {QB : Bool → List MO → Prop} {σ : List MV} {H : List MO} {pos : Pos}

theorem WE_int {k : Int} {kk : Nat} (h : Q (.int k) H) : WE G cs xs cx n (.Constant (.int k) kk pos) Q σ H := by
  intro ok d A E s fz news hd ha R
  exact wpAny_Constant_int ⟨.int k, H, news, R, Gr.same s s.heap _ news, vr_int _ _, h⟩
theorem WE_bool {b : Bool} {kk : Nat} (h : Q (.bool b) H) : WE G cs xs cx n (.Constant (.bool b) kk pos) Q σ H := by
  intro ok d A E s fz news hd ha R
  exact wpAny_Constant_bool ⟨.bool b, H, news, R, Gr.refl s news, rfl, h⟩
theorem WE_loc {x : Str} {v : MV} (hv : SlotV xs σ x v) (hu : v ≠ .unb) (h : Q v H) : WE G cs xs cx n (.Name x pos) Q σ H := by
  intro ok d A E s fz news hd ha R
  subst hd
  obtain ⟨m, F, q⟩ := R.fr
  obtain ⟨u, e, r⟩ := q x v hv hu
  have := ok.loc x hv.mem
  exact wpAny_Name (wpAny_loadName_local (env := d.env) ok.kind this.1 F.ns e ⟨v, H, news, R, Gr.refl s news, r, h⟩) this.2
theorem WE_cell {x : Str} {i : Nat} {v : MV} (hc : (x, i) ∈ cx) (hv : H[i]? = some (.cell v)) (hu : v ≠ .unb) (hk : cs.names.lookup x = some .cell) (hd' : (x == ("__debug__" : Str)) = false) (h : Q v H) : WE G cs xs cx n (.Name x pos) Q σ H := by
  intro ok d A E s fz news hd ha R
  subst hd
  obtain ⟨c, e1, e2⟩ := R.cells x i hc
  obtain ⟨a, o, e3, e4, e5, y, e6, e7⟩ := R.at_ hv
  obtain rfl : c = a := Option.some.inj (e2.symm.trans e4)
  rcases e7 with e7 | ⟨u, rfl, r⟩
  · exact absurd e7 hu
  · exact wpAny_Name (wpAny_loadName_cell (env := d.env) ok.kind hk e1 ⟨o, e5, e6⟩ ⟨v, H, news, R, Gr.refl s news, r, h⟩) hd'
theorem WE_fn {x : Str} (hm : ∃ d ∈ recsOf G.p, d.name = x) (hk : cs.names.lookup x = some .globalImplicit) (hd' : (x == ("__debug__" : Str)) = false) (h : Q (.fn x) H) : WE G cs xs cx n (.Name x pos) Q σ H := by
  intro ok d A E s fz news hd ha R
  subst hd
  obtain ⟨m, F, q⟩ := R.fr
  obtain ⟨r, hr, rfl⟩ := hm
  obtain ⟨a, o, pm, code, doc, h1, _⟩ := R.top.fn r hr
  exact Name_function_global (env := d.env) ok.kind hk (loadGlobal_global (env := d.env) (R.top.g.keeps F.keep) h1 ⟨.fn r.name, H, news, R, Gr.refl s news, ⟨⟨r, hr, rfl⟩, a, h1, rfl⟩, h⟩) hd'

theorem WE_bin {l r : Expr} {op : Operator} (h : WE G cs xs cx n l (fun a H1 => WE G cs xs cx n r (fun b H2 => BO G op a b Q H2) σ H1) σ H) : WE G cs xs cx n (.BinOp l op r pos) Q σ H := by
  intro ok d A E s fz news hd ha R
  refine wpAny_BinOp (ep_mono (h ok d A E s fz news hd ha R) fun a H1 n1 u s1 R1 g1 va h1 => ?_)
  refine ep_mono (h1 ok d A E s1 fz n1 hd ha R1) fun b H2 n2 v s2 R2 g2 vb h2 => ?_
  exact ep_from (g1.trans g2) (h2 cs xs cx n σ ok d A E s2 fz n2 u v hd ha R2 (va.mono g2.pre) vb)

theorem BO_add {a b : Int} (h : Q (.int (a + b)) H) : BO G .Add (.int a) (.int b) Q H := by
  rintro cs xs cx n σ ok d A E s fz news u v hd ha R ⟨t, rfl⟩ ⟨t', rfl⟩
  exact add_int ⟨_, H, news, R, Gr.same s s.heap _ news, vr_int _ _, h⟩
theorem BO_sub {a b : Int} (h : Q (.int (a - b)) H) : BO G .Sub (.int a) (.int b) Q H := by
  rintro cs xs cx n σ ok d A E s fz news u v hd ha R ⟨t, rfl⟩ ⟨t', rfl⟩
  exact sub_int ⟨_, H, news, R, Gr.same s s.heap _ news, vr_int _ _, h⟩
theorem BO_mul {a b : Int} (h : Q (.int (a * b)) H) (ok : IntMulOk a b) : BO G .Mult (.int a) (.int b) Q H := by
  rintro cs xs cx n σ _ d A E s fz news u v hd ha R ⟨t, rfl⟩ ⟨t', rfl⟩
  exact mul_int ⟨_, H, news, R, Gr.same s s.heap _ news, vr_int _ _, h⟩ ok
theorem BO_floordiv {a b : Int} (hb : b ≠ 0) (h : Q (.int (a.fdiv b)) H) (ok : Builtin.divisionGoesByPylong a b = false) : BO G .FloorDiv (.int a) (.int b) Q H := by
  rintro cs xs cx n σ _ d A E s fz news u v hd ha R ⟨t, rfl⟩ ⟨t', rfl⟩
  exact floordiv_int hb ⟨_, H, news, R, Gr.same s s.heap _ news, vr_int _ _, h⟩ (.inl ok)
theorem BO_mod {a b : Int} (hb : b ≠ 0) (h : Q (.int (a.fmod b)) H) : BO G .Mod (.int a) (.int b) Q H := by
  rintro cs xs cx n σ _ d A E s fz news u v hd ha R ⟨t, rfl⟩ ⟨t', rfl⟩
  exact mod_int' hb ⟨_, H, news, R, Gr.same s s.heap _ news, vr_int _ _, h⟩
theorem BO_shl {a k : Int} (h0 : 0 ≤ k) (h1 : k ≤ 1000000) (h2 : a.natAbs < 2 ^ 64) (h : Q (.int (a * 2 ^ k.toNat)) H) : BO G .LShift (.int a) (.int k) Q H := by
  rintro cs xs cx n σ _ d A E s fz news u v hd ha R ⟨t, rfl⟩ ⟨t', rfl⟩
  exact lshift_int_small h0 h1 h2 ⟨_, H, news, R, Gr.same s s.heap _ news, vr_int _ _, h⟩
theorem BO_shr {a k : Int} (h0 : 0 ≤ k) (h : Q (.int (a.fdiv (2 ^ k.toNat))) H) : BO G .RShift (.int a) (.int k) Q H := by
  rintro cs xs cx n σ _ d A E s fz news u v hd ha R ⟨t, rfl⟩ ⟨t', rfl⟩
  exact rshift_int h0 ⟨_, H, news, R, Gr.same s s.heap _ news, vr_int _ _, h⟩
theorem BO_and {a b : Int} (h : Q (.int (Builtin.bitAnd a b)) H) : BO G .BitAnd (.int a) (.int b) Q H := by
  rintro cs xs cx n σ ok d A E s fz news u v hd ha R ⟨t, rfl⟩ ⟨t', rfl⟩
  exact and_int ⟨_, H, news, R, Gr.same s s.heap _ news, vr_int _ _, h⟩
theorem BO_or {a b : Int} (h : Q (.int (Builtin.bitOr a b)) H) : BO G .BitOr (.int a) (.int b) Q H := by
  rintro cs xs cx n σ ok d A E s fz news u v hd ha R ⟨t, rfl⟩ ⟨t', rfl⟩
  exact or_int ⟨_, H, news, R, Gr.same s s.heap _ news, vr_int _ _, h⟩
theorem BO_pow {a k : Int} (h0 : 0 ≤ k) (h1 : k ≤ 1000000) (h2 : a.natAbs < 2 ^ 64) (h : Q (.int (a ^ k.toNat)) H) : BO G .Pow (.int a) (.int k) Q H := by
  rintro cs xs cx n σ _ d A E s fz news u v hd ha R ⟨t, rfl⟩ ⟨t', rfl⟩
  exact pow_int_small h0 h1 h2 ⟨_, H, news, R, Gr.same s s.heap _ news, vr_int _ _, h⟩

theorem WE_neg {e : Expr} (h : WE G cs xs cx n e (fun a H1 => ∃ k, a = .int k ∧ Q (.int (-k)) H1) σ H) : WE G cs xs cx n (.UnaryOp .USub e pos) Q σ H := by
  intro ok d A E s fz news hd ha R
  refine wpAny_UnaryOp (ep_mono (h ok d A E s fz news hd ha R) fun a H1 n1 u s1 R1 g1 va h1 => ?_)
  obtain ⟨k, rfl, h1⟩ := h1
  obtain ⟨t, rfl⟩ := va
  exact neg_int ⟨_, H1, n1, R1, g1.trans (Gr.same s1 s1.heap _ n1), vr_int _ _, h1⟩

/-! tests -/
theorem truthy_bool {M : Model} {A : Around} {E : Value → Shared → Prop} {s : Shared} {b : Bool} {Q : Bool → Shared → Prop} (h : Q b s) : wpAny M A (truthy (.bool b)) Q E s := wpAny_truthy_bool h

theorem WT_cmp {l r : Expr} {op : CmpOp} (h : WE G cs xs cx n l (fun a H1 => WE G cs xs cx n r (fun b H2 => CO G op a b QB H2) σ H1) σ H) (hb : behindInMarks op r = false := by rfl) : WT G cs xs cx n (.Compare l [op] [r] pos) QB σ H := by
  intro ok d A E s fz news hd ha R
  refine wpAny_isTrue_Compare1 (ep_mono (h ok d A E s fz news hd ha R) fun a H1 n1 u s1 R1 g1 va h1 => ?_) hb
  refine ep_mono (h1 ok d A E s1 fz n1 hd ha R1) fun b H2 n2 v s2 R2 g2 vb h2 => ?_
  refine ep_mono (h2 cs xs cx n σ ok d A E s2 fz n2 u v hd ha R2 (va.mono g2.pre) vb) fun c H3 n3 w s3 R3 g3 vc h3 => ?_
  subst vc
  exact truthy_bool ⟨c, H3, n3, R3, (g1.trans g2).trans g3, rfl, h3⟩
theorem WE_cmp {l r : Expr} {op : CmpOp} (h : WE G cs xs cx n l (fun a H1 => WE G cs xs cx n r (fun b H2 => CO G op a b (fun c => Q (.bool c)) H2) σ H1) σ H) (hb : behindInMarks op r = false := by rfl) : WE G cs xs cx n (.Compare l [op] [r] pos) Q σ H := by
  intro ok d A E s fz news hd ha R
  refine wpAny_Compare1 (ep_mono (h ok d A E s fz news hd ha R) fun a H1 n1 u s1 R1 g1 va h1 => ?_) hb
  refine ep_mono (h1 ok d A E s1 fz n1 hd ha R1) fun b H2 n2 v s2 R2 g2 vb h2 => ?_
  refine ep_mono (h2 cs xs cx n σ ok d A E s2 fz n2 u v hd ha R2 (va.mono g2.pre) vb) fun c H3 n3 w s3 R3 g3 vc h3 => ?_
  exact ⟨.bool c, H3, n3, R3, (g1.trans g2).trans g3, vc, h3⟩

theorem CO_lt {a b : Int} (h : QB (decide (a < b)) H) : CO G .Lt (.int a) (.int b) QB H := by
  rintro cs xs cx n σ ok d A E s fz news u v hd ha R ⟨t, rfl⟩ ⟨t', rfl⟩
  exact PyProof.Rows.lt_int ⟨_, H, news, R, Gr.refl s news, rfl, h⟩
theorem CO_gt {a b : Int} (h : QB (decide (b < a)) H) : CO G .Gt (.int a) (.int b) QB H := by
  rintro cs xs cx n σ ok d A E s fz news u v hd ha R ⟨t, rfl⟩ ⟨t', rfl⟩
  exact PyProof.Rows.gt_int ⟨_, H, news, R, Gr.refl s news, rfl, h⟩
theorem CO_le {a b : Int} (h : QB (decide (a ≤ b)) H) : CO G .LtE (.int a) (.int b) QB H := by
  rintro cs xs cx n σ ok d A E s fz news u v hd ha R ⟨t, rfl⟩ ⟨t', rfl⟩
  exact PyProof.Rows.le_int ⟨_, H, news, R, Gr.refl s news, rfl, h⟩
theorem CO_eq {a b : Int} (h : QB (a == b) H) : CO G .Eq (.int a) (.int b) QB H := by
  rintro cs xs cx n σ ok d A E s fz news u v hd ha R ⟨t, rfl⟩ ⟨t', rfl⟩
  exact PyProof.Rows.eq_int ⟨_, H, news, R, Gr.refl s news, rfl, h⟩
theorem CO_ne {a b : Int} (h : QB (a != b) H) : CO G .NotEq (.int a) (.int b) QB H := by
  rintro cs xs cx n σ ok d A E s fz news u v hd ha R ⟨t, rfl⟩ ⟨t', rfl⟩
  exact PyProof.Rows.ne_int ⟨_, H, news, R, Gr.refl s news, rfl, h⟩
theorem CO_eqb {a b : Bool} (h : QB (a == b) H) : CO G .Eq (.bool a) (.bool b) QB H := by
  rintro cs xs cx n σ ok d A E s fz news u v hd ha R rfl rfl
  exact PyProof.Rows.eq_bool ⟨_, H, news, R, Gr.refl s news, rfl, h⟩
theorem CO_neb {a b : Bool} (h : QB (a != b) H) : CO G .NotEq (.bool a) (.bool b) QB H := by
  rintro cs xs cx n σ ok d A E s fz news u v hd ha R rfl rfl
  exact PyProof.Rows.ne_bool ⟨_, H, news, R, Gr.refl s news, rfl, h⟩
end
end Mine
namespace Mine

section
variable {G : Gx} {cs : Scope} {xs : List Str} {cx : List (Str × Nat)} {n : Nat} {Q : MV → List MO → Prop} {QB : Bool → List MO → Prop} {QL : List MV → List MO → Prop} {σ : List MV} {H : List MO} {pos : Pos}

theorem Rl.len {fz news : List (Addr × Obj)} {d : Fd} {h : Heap} (R : Rl G xs cx d fz news σ H h) : (ad news).length = H.length := by
  rw [ad, List.length_map]; exact R.hr.length.symm
theorem vr_new {fz news : List (Addr × Obj)} {d : Fd} {h : Heap} (R : Rl G xs cx d fz news σ H h) (a : Addr) (o : Obj) : VR G (ad (news ++ [(a, o)])) (.ref H.length) (.ref a) := by
  refine ⟨a, ?_, rfl⟩
  rw [ad, List.map_append, ← R.len]
  simp

/-- not x, x an expression whose value is a bool -/
theorem WE_notb {e : Expr} (h : WE G cs xs cx n e (fun a H1 => ∃ b, a = .bool b ∧ Q (.bool (!b)) H1) σ H) : WE G cs xs cx n (.UnaryOp .Not e pos) Q σ H := by
  intro ok d A E s fz news hd ha R
  refine wpAny_UnaryOp (ep_mono (h ok d A E s fz news hd ha R) fun a H1 n1 u s1 R1 g1 va h1 => ?_)
  obtain ⟨b, rfl, h1⟩ := h1
  obtain rfl : u = .bool b := va
  exact not_of (truthy_bool ⟨_, H1, n1, R1, g1, vr_bool _, h1⟩)

theorem WE_if {t b o : Expr} (h : WT G cs xs cx n t (fun c H1 => (c = true → WE G cs xs cx n b Q σ H1) ∧ (c = false → WE G cs xs cx n o Q σ H1)) σ H) : WE G cs xs cx n (.IfExp t b o pos) Q σ H := by
  intro ok d A E s fz news hd ha R
  refine wpAny_IfExp (ep_mono (h ok d A E s fz news hd ha R) fun c H1 n1 u s1 R1 g1 va h1 => ?_)
  obtain rfl : u = c := va
  cases u with
  | true => rw [if_pos rfl]; exact ep_from g1 (h1.1 rfl ok d A E s1 fz n1 hd ha R1)
  | false => rw [if_neg (by decide)]; exact ep_from g1 (h1.2 rfl ok d A E s1 fz n1 hd ha R1)

/-- x and y, x a bool, as a value -/
theorem WE_andb {x y : Expr} (h : WE G cs xs cx n x (fun a H1 => ∃ b, a = .bool b ∧ (b = true → WE G cs xs cx n y Q σ H1) ∧ (b = false → Q (.bool false) H1)) σ H) : WE G cs xs cx n (.BoolOp .And [x, y] pos) Q σ H := by
  intro ok d A E s fz news hd ha R
  refine wpAny_And2 (ep_mono (h ok d A E s fz news hd ha R) fun a H1 n1 u s1 R1 g1 va h1 => ?_)
  obtain ⟨b, rfl, h1⟩ := h1
  obtain rfl : u = .bool b := va
  refine truthy_bool ?_
  cases b with
  | true => rw [if_pos rfl]; exact ep_from g1 (h1.1 rfl ok d A E s1 fz n1 hd ha R1)
  | false => rw [if_neg (by decide)]; exact ⟨_, H1, n1, R1, g1, vr_bool _, h1.2 rfl⟩
theorem WT_and {x y : Expr} (h : WT G cs xs cx n x (fun b H1 => (b = true → WT G cs xs cx n y QB σ H1) ∧ (b = false → QB false H1)) σ H) : WT G cs xs cx n (.BoolOp .And [x, y] pos) QB σ H := by
  intro ok d A E s fz news hd ha R
  refine wpAny_isTrue_BoolOp (wpAny_allTrue_And_cons (ep_mono (h ok d A E s fz news hd ha R) fun c H1 n1 u s1 R1 g1 va h1 => ?_))
  obtain rfl : u = c := va
  cases u with
  | false => rw [if_neg (by decide)]; exact ⟨_, H1, n1, R1, g1, rfl, h1.2 rfl⟩
  | true =>
    rw [if_pos rfl]
    refine wpAny_allTrue_And_cons (ep_mono (h1.1 rfl ok d A E s1 fz n1 hd ha R1) fun c H2 n2 u s2 R2 g2 va h2 => ?_)
    obtain rfl : u = c := va
    cases u with
    | true => rw [if_pos rfl]; exact wpAny_allTrue_And_nil ⟨_, H2, n2, R2, g1.trans g2, rfl, h2⟩
    | false => rw [if_neg (by decide)]; exact ⟨_, H2, n2, R2, g1.trans g2, rfl, h2⟩
theorem WT_or {x y : Expr} (h : WT G cs xs cx n x (fun b H1 => (b = false → WT G cs xs cx n y QB σ H1) ∧ (b = true → QB true H1)) σ H) : WT G cs xs cx n (.BoolOp .Or [x, y] pos) QB σ H := by
  intro ok d A E s fz news hd ha R
  refine wpAny_isTrue_BoolOp (wpAny_allTrue_Or_cons (ep_mono (h ok d A E s fz news hd ha R) fun c H1 n1 u s1 R1 g1 va h1 => ?_))
  obtain rfl : u = c := va
  cases u with
  | true => rw [if_pos rfl]; exact ⟨_, H1, n1, R1, g1, rfl, h1.2 rfl⟩
  | false =>
    rw [if_neg (by decide)]
    refine wpAny_allTrue_Or_cons (ep_mono (h1.1 rfl ok d A E s1 fz n1 hd ha R1) fun c H2 n2 u s2 R2 g2 va h2 => ?_)
    obtain rfl : u = c := va
    cases u with
    | false => rw [if_neg (by decide)]; exact wpAny_allTrue_Or_nil ⟨_, H2, n2, R2, g1.trans g2, rfl, h2⟩
    | true => rw [if_pos rfl]; exact ⟨_, H2, n2, R2, g1.trans g2, rfl, h2⟩

/-! rows -/
theorem WEs_nil (h : QL [] H) : WEs G cs xs cx n [] QL σ H := by
  intro pos ok d A E s fz news hd ha R
  exact args_nil ⟨[], H, news, R, Gr.refl s news, .nil, h⟩
theorem WEs_cons {e : Expr} {es : List Expr} (h : WE G cs xs cx n e (fun v H1 => WEs G cs xs cx n es (fun vs H2 => QL (v :: vs) H2) σ H1) σ H)
    (he : ∀ env, starEach (e :: es) env = (false, eval e env) :: starEach es env := by intro _; rfl) : WEs G cs xs cx n (e :: es) QL σ H := by
  intro pos ok d A E s fz news hd ha R
  refine args_cons (ep_mono (h ok d A E s fz news hd ha R) fun v H1 n1 u s1 R1 g1 vv h1 => ?_) (he _)
  refine ep_mono (h1 pos ok d A E s1 fz n1 hd ha R1) fun vs H2 n2 us s2 R2 g2 vvs h2 => ?_
  exact ⟨v :: vs, H2, n2, R2, g1.trans g2, .cons (vv.mono g2.pre) vvs, h2⟩

theorem WE_tuple {es : List Expr} {k : Nat} (h : WEs G cs xs cx n es (fun vs H1 => vs.length ≤ 1000 ∧ Q (.ref H1.length) (H1 ++ [.tup vs])) σ H) : WE G cs xs cx n (.Tuple es k pos) Q σ H := by
  intro ok d A E s fz news hd ha R
  refine wpAny_Tuple (ep_mono (h pos ok d A E s fz news hd ha R) fun vs H1 n1 us s1 R1 g1 vvs h1 => ?_)
  refine ⟨by rw [← vvs.length, sizeLine_eq]; omega, _, _, _, R1.push (mo := .tup vs) ⟨us, 0, rfl, VRs.mono (by simp [ad]) vvs⟩, g1.trans (Gr.more s1 _ _ n1 _), vr_new R1 _ _, h1.2⟩
theorem WE_list {es : List Expr} (h : WEs G cs xs cx n es (fun vs H1 => vs.length ≤ 1000 ∧ Q (.ref H1.length) (H1 ++ [.list vs])) σ H) : WE G cs xs cx n (.List es pos) Q σ H := by
  intro ok d A E s fz news hd ha R
  refine wpAny_List (ep_mono (h pos ok d A E s fz news hd ha R) fun vs H1 n1 us s1 R1 g1 vvs h1 => ?_)
  refine ⟨by rw [← vvs.length, sizeLine_eq]; omega, _, _, _, R1.push (mo := .list vs) ⟨us, 0, rfl, VRs.mono (by simp [ad]) vvs⟩, g1.trans (Gr.more s1 _ _ n1 _), vr_new R1 _ _, h1.2⟩

/-! items -/
inductive IX (Q : MV → List MO → Prop) (H : List MO) : MV → MV → Prop where
  | list {j : Nat} {l : List MV} {k : Int} {x : MV} (hl : H[j]? = some (.list l)) (h0 : 0 ≤ k) (hx : l[k.toNat]? = some x) (hf : k < 2 ^ 63) (q : Q x H) : IX Q H (.ref j) (.int k)
  | neg {j : Nat} {l : List MV} {k : Int} {x : MV} (hl : H[j]? = some (.list l)) (h0 : k < 0) (h1 : -(l.length : Int) ≤ k) (hx : l[(k + l.length).toNat]? = some x) (hf : -(2 ^ 63) ≤ k) (q : Q x H) : IX Q H (.ref j) (.int k)
  | tup {j : Nat} {l : List MV} {k : Nat} {x : MV} (hl : H[j]? = some (.tup l)) (hx : l[k]? = some x) (hf : k < 100) (q : Q x H) : IX Q H (.ref j) (.int (k : Nat))

theorem seqIndex_nat {k len : Nat} (h : k < len) : seqIndex? ((k : Nat) : Int) len = some k := by
  unfold seqIndex?
  have h1 : ¬ ((k : Nat) : Int) < 0 := by omega
  simp only [h1, if_false]
  rw [if_pos (by simp; omega)]
  simp

theorem WE_sub {value slice : Expr} (h : WE G cs xs cx n value (fun v H1 => WE G cs xs cx n slice (fun i H2 => IX Q H2 v i) σ H1) σ H)
    (hs : ∀ o i, subscripted slice false o i = operate [o, i] (getItem o i) := by intro _ _; rfl) : WE G cs xs cx n (.Subscript value slice pos) Q σ H := by
  intro ok d A E s fz news hd ha R
  refine Subscript_ (ep_mono (h ok d A E s fz news hd ha R) fun v H1 n1 u s1 R1 g1 vv h1 => ?_)
  refine ep_mono (h1 ok d A E s1 fz n1 hd ha R1) fun i H2 n2 w s2 R2 g2 vi h2 => ?_
  replace vv := vv.mono g2.pre
  have gg := g1.trans g2
  cases h2 with
  | list hl h0 hx hf q =>
    obtain ⟨t, rfl⟩ := vi
    obtain ⟨a, vs, c, rfl, e1, e2, e3, e4⟩ := R2.list_ hl vv
    obtain ⟨b, e5, e6⟩ := e4.get hx
    exact tail_any e3.typeIs slot_list_getitem.lookup (wpAny_getItem_list e3 h0 hf (by simpa using e5) ⟨_, H2, n2, R2, gg, e6, q⟩) (hs _ _)
  | neg hl h0 hlo hx hf q =>
    obtain ⟨t, rfl⟩ := vi
    obtain ⟨a, vs, c, rfl, e1, e2, e3, e4⟩ := R2.list_ hl vv
    obtain ⟨b, e5, e6⟩ := e4.get hx
    have el := e4.length
    exact tail_any e3.typeIs slot_list_getitem.lookup (wpAny_getItem_list_neg e3 h0 (by rw [List.size_toArray, ← el]; exact hlo) hf (by rw [List.size_toArray, ← el]; simpa using e5) ⟨_, H2, n2, R2, gg, e6, q⟩) (hs _ _)
  | tup hl hx hf q =>
    obtain ⟨t, rfl⟩ := vi
    obtain ⟨a, vs, c, rfl, e2, e3, e4⟩ := R2.tup_ hl vv
    obtain ⟨b, e5, e6⟩ := e4.get hx
    have : _ < vs.length := (List.getElem?_eq_some_iff.mp e5).1
    exact tail_any e3.typeIs slot_tuple_getitem.lookup (getItem_tuple e3 (by omega) (by omega) (by rw [List.size_toArray]; exact seqIndex_nat this) (by simpa using e5) ⟨_, H2, n2, R2, gg, e6, q⟩) (hs _ _)

/-! parts of lists -/
/-- one part of a slice -/
def WP (G : Gx) (cs : Scope) (xs : List Str) (cx : List (Str × Nat)) (n : Nat) (e : Option Expr) (Q : Option Int → List MO → Prop) (σ : List MV) (H : List MO) : Prop := W G cs xs cx n (fun env => evalPart e env) (fun _ _ k v => IsPart v k) Q σ H
theorem WP_none {Q : Option Int → List MO → Prop} (h : Q Option.none H) : WP G cs xs cx n Option.none Q σ H := by
  intro ok d A E s fz news hd ha R
  exact wpAny_pure ⟨Option.none, H, news, R, Gr.refl s news, .none, h⟩
theorem WP_some {Q : Option Int → List MO → Prop} {e : Expr} (h : WE G cs xs cx n e (fun v H1 => ∃ k, v = .int k ∧ Q (some k) H1) σ H) : WP G cs xs cx n (some e) Q σ H := by
  intro ok d A E s fz news hd ha R
  refine ep_mono (h ok d A E s fz news hd ha R) fun v H1 n1 u s1 R1 g1 vv h1 => ?_
  obtain ⟨k, rfl, h1⟩ := h1
  obtain ⟨t, rfl⟩ := vv
  exact ⟨some k, H1, n1, R1, g1, .int k t, h1⟩

/-- what a slice picks -/
inductive Pick : List MV → Option Int → Option Int → Option Int → List MV → Prop where
  | run {l : List MV} {lo hi : Option Int} {a b : Nat} (e : sliceBounds lo hi Option.none l.length = ((a : Int), (b : Int), 1)) : Pick l lo hi Option.none ((l.drop a).take (b - a))
  | rev {l : List MV} : Pick l Option.none Option.none (some (-1)) l.reverse
theorem Pick.ok {G : Gx} {ρ : List Addr} {l : List MV} {lo hi st : Option Int} {r : List MV} (p : Pick l lo hi st r) {vs : List Value} (x : All2 (VR G ρ) l vs) :
    ∃ us, slicePick vs.toArray lo hi st = List.toArray us ∧ All2 (VR G ρ) r us ∧ st ≠ some 0 := by
  cases p with
  | run e =>
    rw [x.length] at e
    exact ⟨_, kmk_pick_nat _ (by simpa using e), (x.drop _).take _, by simp⟩
  | rev => exact ⟨_, krv_pick _, x.reverse, by decide⟩

theorem WE_slice {value : Expr} {lo hi st : Option Expr} {p : Pos}
    (h : WE G cs xs cx n value (fun v H1 => WP G cs xs cx n lo (fun a H2 => WP G cs xs cx n hi (fun b H3 => WP G cs xs cx n st (fun c H4 => ∃ j l r, v = .ref j ∧ H4[j]? = some (.list l) ∧ l.length ≤ 100000 ∧ Pick l a b c r ∧ Q (.ref H4.length) (H4 ++ [.list r])) σ H3) σ H2) σ H1) σ H) :
    WE G cs xs cx n (.Subscript value (.Slice lo hi st p) pos) Q σ H := by
  intro ok d A E s fz news hd ha R
  refine Subscript_ (ep_mono (h ok d A E s fz news hd ha R) fun v H1 n1 u s1 R1 g1 vv h1 => wpAny_Slice ?_)
  refine ep_mono (h1 ok d A E s1 fz n1 hd ha R1) fun a H2 n2 ua s2 R2 g2 va h2 => ?_
  refine ep_mono (h2 ok d A E s2 fz n2 hd ha R2) fun b H3 n3 ub s3 R3 g3 vb h3 => ?_
  refine ep_mono (h3 ok d A E s3 fz n3 hd ha R3) fun c H4 n4 uc s4 R4 g4 vc h4 => ?_
  obtain ⟨j, l, r, rfl, hl, hz, hp, q⟩ := h4
  have gg := ((g1.trans g2).trans g3).trans g4
  obtain ⟨al, vs, cc, rfl, e1, e2, e3, e4⟩ := R4.list_ hl (vv.mono ((g2.trans g3).trans g4).pre)
  obtain ⟨us, e5, e6, e7⟩ := hp.ok e4
  have R5 := R4.up (Up.push s4.heap { cls := .type "slice", data := .fields #[ua, ub, uc] })
  have e3' := e3.push { cls := .type "slice", data := .fields #[ua, ub, uc] }
  have hs : ∃ ops, subscripted (.Slice lo hi st p) false (.ref al) (.ref s4.heap.objs.size) = operate ops (getItem (.ref al) (.ref s4.heap.objs.size)) := by
    cases st with
    | none => exact ⟨_, rfl⟩
    | some st => exact ⟨_, rfl⟩
  obtain ⟨ops, hs⟩ := hs
  refine tail_any (Heap.IsList.typeIs (s := { s4 with heap := s4.heap.push { cls := .type "slice", data := .fields #[ua, ub, uc] } }) e3') slot_list_getitem.lookup
    (wpAny_getItem_list_slice e3' (Heap.IsSliceOf.new ..) va vb vc e7 ?_ ?_) hs
  · rw [e5]
    exact ⟨_, _, _, R5.push (mo := .list r) ⟨us, 0, rfl, VRs.mono (by simp [ad]) e6⟩, gg.trans (Gr.more s4 _ _ n4 _), vr_new R5 _ _, q⟩
  · rw [List.size_toArray, ← e4.length, sizeLine_eq]; omega
end
end Mine
namespace Mine

structure GOk (G : Gx) : Prop where
  free : ∀ x : String, x ∈ ["len", "range", "enumerate", "min", "abs", "int", "sum"] → G.mg (Str.ofString x) = none

abbrev iL (l : List Int) : List MV := l.map MV.int
theorem ints_are {G : Gx} {ρ : List Addr} : ∀ {l : List Int} {vs : List Value}, All2 (VR G ρ) (iL l) vs → IntsAre vs l
  | [], _, .nil => .nil
  | _ :: _, _, .cons ⟨t, e⟩ y => by subst e; exact .cons _ t (ints_are y)
theorem are_ints {G : Gx} {ρ : List Addr} {l : List Int} {vs : List Value} (h : IntsAre vs l) : All2 (VR G ρ) (iL l) vs := by
  induction h with
  | nil => exact .nil
  | cons n t _ ih => exact .cons (vr_int _ _) ih

section
variable {G : Gx} {cs : Scope} {xs : List Str} {cx : List (Str × Nat)} {n : Nat} {Q : MV → List MO → Prop} {QB : Bool → List MO → Prop} {QL : List MV → List MO → Prop} {σ : List MV} {H : List MO} {pos p : Pos}

/-! calls of the text's own -/
theorem WE_call {func e : Expr} {es : List Expr} (h : WE G cs xs cx n func (fun f H1 => ∃ x, f = .fn x ∧ WEs G cs xs cx n (e :: es) (fun vs H2 => WC G n f vs Q H2) σ H1) σ H)
    (he : ∀ env, starEach (e :: es) env = (false, eval e env) :: starEach es env := by intro _; rfl) (hc : ∀ env, eval (.Call func (e :: es) [] pos) env = (do callWith pos (← eval func env) [] (backTo pos (starEach (e :: es) env)) (backToKw pos (keywordEach [] env))) := by intro _; rfl) :
    WE G cs xs cx n (.Call func (e :: es) [] pos) Q σ H := by
  intro ok d A E s fz news hd ha R
  refine Call_ (ep_mono (h ok d A E s fz news hd ha R) fun f H1 n1 u s1 R1 g1 vf h1 => ?_) (hc _)
  obtain ⟨x, rfl, h1⟩ := h1
  obtain ⟨⟨r, hr, rfl⟩, a, ha', rfl⟩ := vf
  obtain ⟨a', o, pm, code, doc, e1, e2, e3, e4⟩ := R1.top.fn r hr
  rw [ha'] at e1; cases e1
  refine callWith_def (o := o) e3 (ep_mono (h1 pos ok d A E s1 fz n1 hd ha R1) fun vs H2 n2 us s2 R2 g2 vvs h2 => ?_) (he _)
  obtain ⟨m, F, q⟩ := R2.fr
  exact ⟨F.keep _ _ e2, ep_from (g1.trans g2) (h2 cs xs cx σ ok d A E s2 fz n2 _ us hd ha R2 ⟨⟨r, hr, rfl⟩, _, ha', rfl⟩ vvs)⟩

/-! built-ins -/
/-- a call of a built-in value -/
def BC (G : Gx) (b : Value) (args : List MV) (Q : MV → List MO → Prop) (H : List MO) : Prop :=
  ∀ cs xs cx n σ, FnOk cs xs → ∀ (d : Fd) (A : Around) (E : Value → Shared → Prop) (s : Shared) (fz news : List (Addr × Obj)) (vs : List Value), d.cs = cs → AOk n d A → Rl G xs cx d fz news σ H s.heap →
    All2 (VR G (ad news)) args vs → wpAny (model G.prog G.w) A (call b vs) (EP G xs cx d fz s news σ VR Q) E s

theorem name_bi {x : String} {b : Value} {d : Fd} {A : Around} {E : Value → Shared → Prop} {s : Shared} {fz news : List (Addr × Obj)} {P : Value → Shared → Prop} (hx : x ∈ ["len", "range", "enumerate", "min", "abs", "int", "sum"])
    (go : GOk G) (hb : bootBuiltins (Str.ofString x) = some b) (hk : cs.names.lookup (Str.ofString x) = some .globalImplicit) (ok : FnOk cs xs) (hd : d.cs = cs) (R : Rl G xs cx d fz news σ H s.heap) (h : P b s) :
    wpAny (model G.prog G.w) A (eval (.Name (Str.ofString x) p) d.env) P E s := by
  subst hd
  obtain ⟨m, F, q⟩ := R.fr
  refine Name_function_global (env := d.env) ok.kind hk (loadGlobal_builtin (env := d.env) (R.top.g.keeps F.keep) (go.free x hx) (R.top.b.keeps F.keep) ((R.top.builtins _ ?_).trans hb) h) ?_
  · simp at hx; rcases hx with rfl | rfl | rfl | rfl | rfl | rfl | rfl <;> decide
  · simp at hx; rcases hx with rfl | rfl | rfl | rfl | rfl | rfl | rfl <;> decide

theorem boot_len : bootBuiltins (Str.ofString "len") = some (.builtin "len") := by decide +kernel
theorem boot_min : bootBuiltins (Str.ofString "min") = some (.builtin "min") := by decide +kernel
theorem boot_abs : bootBuiltins (Str.ofString "abs") = some (.builtin "abs") := by decide +kernel
theorem boot_sum : bootBuiltins (Str.ofString "sum") = some (.builtin "sum") := by decide +kernel
theorem boot_int : bootBuiltins (Str.ofString "int") = some (.type "int") := by decide +kernel
theorem boot_range : bootBuiltins (Str.ofString "range") = some (.type "range") := by decide +kernel
theorem boot_enum : bootBuiltins (Str.ofString "enumerate") = some (.type "enumerate") := by decide +kernel

theorem WE_bi {x id : String} {e : Expr} {es : List Expr} (go : GOk G) (hx : x ∈ ["len", "range", "enumerate", "min", "abs", "int", "sum"]) (hb : bootBuiltins (Str.ofString x) = some (.builtin id))
    (hk : cs.names.lookup (Str.ofString x) = some .globalImplicit) (h : WEs G cs xs cx n (e :: es) (fun vs H2 => BC G (.builtin id) vs Q H2) σ H)
    (he : ∀ env, starEach (e :: es) env = (false, eval e env) :: starEach es env := by intro _; rfl) (hp : ∀ env, (backTo pos (starEach es env)).any (·.1) = false := by intro _; rfl)
    (hc : ∀ env, eval (.Call (.Name (Str.ofString x) p) (e :: es) [] pos) env = (do callWith pos (← eval (.Name (Str.ofString x) p) env) [] (backTo pos (starEach (e :: es) env)) (backToKw pos (keywordEach [] env))) := by intro _; rfl) :
    WE G cs xs cx n (.Call (.Name (Str.ofString x) p) (e :: es) [] pos) Q σ H := by
  intro ok d A E s fz news hd ha R
  refine Call_ (name_bi hx go hb hk ok hd R ?_) (hc _)
  refine PyProof.Rows.callWith_builtin1 (ep_mono (h pos ok d A E s fz news hd ha R) fun vs H2 n2 us s2 R2 g2 vvs h2 => ?_) (he _) (hp _)
  exact ep_from g2 (h2 cs xs cx n σ ok d A E s2 fz n2 us hd ha R2 vvs)
theorem WE_ty {x T : String} {e : Expr} {es : List Expr} (go : GOk G) (hx : x ∈ ["len", "range", "enumerate", "min", "abs", "int", "sum"]) (hb : bootBuiltins (Str.ofString x) = some (.type T))
    (hk : cs.names.lookup (Str.ofString x) = some .globalImplicit) (h : WEs G cs xs cx n (e :: es) (fun vs H2 => BC G (.type T) vs Q H2) σ H)
    (he : ∀ env, starEach (e :: es) env = (false, eval e env) :: starEach es env := by intro _; rfl) (hp : ∀ env, (backTo pos (starEach es env)).any (·.1) = false := by intro _; rfl)
    (hc : ∀ env, eval (.Call (.Name (Str.ofString x) p) (e :: es) [] pos) env = (do callWith pos (← eval (.Name (Str.ofString x) p) env) [] (backTo pos (starEach (e :: es) env)) (backToKw pos (keywordEach [] env))) := by intro _; rfl) :
    WE G cs xs cx n (.Call (.Name (Str.ofString x) p) (e :: es) [] pos) Q σ H := by
  intro ok d A E s fz news hd ha R
  refine Call_ (name_bi hx go hb hk ok hd R ?_) (hc _)
  refine PyProof.Rows.callWith_type1 (ep_mono (h pos ok d A E s fz news hd ha R) fun vs H2 n2 us s2 R2 g2 vvs h2 => ?_) (he _) (hp _)
  exact ep_from g2 (h2 cs xs cx n σ ok d A E s2 fz n2 us hd ha R2 vvs)

theorem BC_len {i : Nat} {l : List MV} (hl : H[i]? = some (.list l)) (hz : l.length < 2 ^ 62) (q : Q (.int (l.length : Int)) H) : BC G (.builtin "len") [.ref i] Q H := by
  intro cs xs cx n σ ok d A E s fz news vs hd ha R hv
  cases hv with
  | cons v y =>
    cases y
    obtain ⟨a, us, c, rfl, e1, e2, e3, e4⟩ := R.list_ hl v
    refine PyProof.Rows.len_list e3 (by rw [List.size_toArray, ← e4.length]; omega) ⟨_, H, news, R, Gr.same s s.heap _ news, vr_int _ _, ?_⟩
    rw [List.size_toArray, ← e4.length]; exact q
theorem BC_abs {k : Int} (q : Q (.int (if k < 0 then -k else k)) H) : BC G (.builtin "abs") [.int k] Q H := by
  intro cs xs cx n σ ok d A E s fz news vs hd ha R hv
  cases hv with
  | cons v y =>
    cases y
    obtain ⟨t, rfl⟩ := v
    exact call_abs_int fun u tk => ⟨_, H, news, R, Gr.same s s.heap _ news, vr_int _ _, q⟩
theorem BC_int {k : Int} (q : Q (.int k) H) : BC G (.type "int") [.int k] Q H := by
  intro cs xs cx n σ ok d A E s fz news vs hd ha R hv
  cases hv with
  | cons v y =>
    cases y
    obtain ⟨t, rfl⟩ := v
    exact call_int_int ⟨_, H, news, R, Gr.refl s news, vr_int _ _, q⟩
theorem BC_min {a b : Int} (q : Q (.int (if b < a then b else a)) H) : BC G (.builtin "min") [.int a, .int b] Q H := by
  intro cs xs cx n σ ok d A E s fz news vs hd ha R hv
  cases hv with
  | cons v y =>
    cases y with
    | cons w z =>
      cases z
      obtain ⟨t, rfl⟩ := v
      obtain ⟨u, rfl⟩ := w
      obtain ⟨m, F, qf⟩ := R.fr
      exact min_two_N ha.hh F R.nw fun h' tk F' N' => ⟨_, H, news, R.same F' qf N', Gr.same s h' tk news, vr_int _ _, q⟩
theorem BC_sum {i : Nat} {l : List Int} (hl : H[i]? = some (.list (iL l))) (q : Q (.int l.sum) H) : BC G (.builtin "sum") [.ref i] Q H := by
  intro cs xs cx n σ ok d A E s fz news vs hd ha R hv
  cases hv with
  | cons v y =>
    cases y
    obtain ⟨a, us, c, rfl, e1, e2, e3, e4⟩ := R.list_ hl v
    obtain ⟨m, F, qf⟩ := R.fr
    exact LSm.sum_ints F R.nw ha.hh e3 (ints_are e4) fun h' tk t F' N' => ⟨_, H, news, R.same F' qf N', Gr.same s h' tk news, vr_int _ _, q⟩

/-- x.bit_length() -/
theorem WE_bits {o : Expr} {apos : Pos} (h : WE G cs xs cx n o (fun v H1 => ∃ k, v = .int k ∧ Q (.int (Builtin.Int.intBits k : Nat)) H1) σ H)
    (he : ∀ env, eval (.Call (.Attribute o (Str.ofString "bit_length") apos) [] [] pos) env = (do
      let ov ← eval o env
      standAt apos.atName
      let (f, first) ← holding [ov] (getMethod ov (Str.ofString "bit_length") (do return (← importBound o env).getD true))
      callWith pos f first (backTo pos (starEach [] env)) []) := by intro _; rfl) : WE G cs xs cx n (.Call (.Attribute o (Str.ofString "bit_length") apos) [] [] pos) Q σ H := by
  intro ok d A E s fz news hd ha R
  refine MethodCall_ (ep_mono (h ok d A E s fz news hd ha R) fun v H1 n1 u s1 R1 g1 vv h1 => ?_) (he _)
  obtain ⟨k, rfl, h1⟩ := h1
  obtain ⟨t, rfl⟩ := vv
  refine getMethod_int_bit_length (callWith_method0 (call_int_bit_length ⟨_, H1, n1, R1, g1.trans (Gr.same s1 s1.heap _ n1), vr_int _ _, h1⟩))

/-! lists -/
theorem BO_mulList {i : Nat} {l : List Int} {k : Int} (hl : H[i]? = some (.list (iL l))) (h0 : 0 ≤ k) (h1 : l.length * k.toNat ≤ 10000) (h2 : k ≤ 10000) (q : Q (.ref H.length) (H ++ [.list (iL (List.replicate k.toNat l).flatten)])) :
    BO G .Mult (.ref i) (.int k) Q H := by
  rintro cs xs cx n σ ok d A E s fz news u v hd ha R vu ⟨t, rfl⟩
  obtain ⟨a, us, c, rfl, e1, e2, e3, e4⟩ := R.list_ hl vu
  obtain ⟨m, F, qf⟩ := R.fr
  have hlen := e4.length
  simp at hlen
  refine KM.mul F R.nw e3 (ints_are e4) (by omega) (by omega) (by rw [← hlen]; omega) fun D h' F' N' lt hi _ _ _ _ _ => ?_
  exact ⟨_, _, _, R.fresh (mo := .list (iL (List.replicate k.toNat l).flatten)) F' qf N' (fun p hp => Nat.ne_of_lt (lt p hp)) ⟨_, 0, rfl, are_ints hi⟩, Gr.more s h' _ news _, vr_new R _ _, q⟩
theorem BO_addList {i j : Nat} {l r : List Int} (hl : H[i]? = some (.list (iL l))) (hr : H[j]? = some (.list (iL r))) (h1 : l.length + r.length ≤ 10000) (q : Q (.ref H.length) (H ++ [.list (iL (l ++ r))])) :
    BO G .Add (.ref i) (.ref j) Q H := by
  rintro cs xs cx n σ ok d A E s fz news u v hd ha R vu vv
  obtain ⟨a, us, c, rfl, e1, e2, e3, e4⟩ := R.list_ hl vu
  obtain ⟨a', us', c', rfl, f1, f2, f3, f4⟩ := R.list_ hr vv
  obtain ⟨m, F, qf⟩ := R.fr
  refine kmk_add_ints F R.nw e3 f3 (ints_are e4) (ints_are f4) (fun D ws h' F' N' lt hi => ?_) (by rw [sizeLine_eq]; omega)
  exact ⟨_, _, _, R.fresh (mo := .list (iL (l ++ r))) F' qf N' (fun p hp => Nat.ne_of_lt (lt p hp)) ⟨_, 0, rfl, are_ints hi⟩, Gr.more s h' _ news _, vr_new R _ _, q⟩
theorem CO_eqL {i j : Nat} {l r : List Int} (hl : H[i]? = some (.list (iL l))) (hr : H[j]? = some (.list (iL r))) (q : QB (decide (l = r)) H) : CO G .Eq (.ref i) (.ref j) QB H := by
  rintro cs xs cx n σ ok d A E s fz news u v hd ha R vu vv
  obtain ⟨a, us, c, rfl, e1, e2, e3, e4⟩ := R.list_ hl vu
  obtain ⟨a', us', c', rfl, f1, f2, f3, f4⟩ := R.list_ hr vv
  exact eq_intsK e3 (ints_are e4) f3 (ints_are f4) (by have := ha.un; rw [cLine_is]; omega) ⟨_, H, news, R, Gr.refl s news, rfl, q⟩
theorem CO_neL {i j : Nat} {l r : List Int} (hl : H[i]? = some (.list (iL l))) (hr : H[j]? = some (.list (iL r))) (q : QB (!decide (l = r)) H) : CO G .NotEq (.ref i) (.ref j) QB H := by
  rintro cs xs cx n σ ok d A E s fz news u v hd ha R vu vv
  obtain ⟨a, us, c, rfl, e1, e2, e3, e4⟩ := R.list_ hl vu
  obtain ⟨a', us', c', rfl, f1, f2, f3, f4⟩ := R.list_ hr vv
  exact ne_intsK e3 (ints_are e4) f3 (ints_are f4) (by have := ha.un; rw [cLine_is]; omega) ⟨_, H, news, R, Gr.refl s news, rfl, q⟩
end
end Mine
namespace Mine

def FP (G : Gx) (xs : List Str) (cx : List (Str × Nat)) (d : Fd) (fz : List (Addr × Obj)) (s : Shared) (news : List (Addr × Obj)) (Qn : List MV → List MO → Prop) (Qr : MV → List MO → Prop) (f : Flow) (s' : Shared) : Prop :=
  (f = .next ∧ ∃ σ' H' news', Rl G xs cx d fz news' σ' H' s'.heap ∧ Gr s news s' news' ∧ Qn σ' H') ∨
  (∃ v mv σ' H' news', f = .ret v ∧ Rl G xs cx d fz news' σ' H' s'.heap ∧ Gr s news s' news' ∧ VR G (ad news') mv v ∧ Qr mv H')

/-- a statement -/
def WS (G : Gx) (cs : Scope) (xs : List Str) (cx : List (Str × Nat)) (n : Nat) (st : Stmt) (Qn : List MV → List MO → Prop) (Qr : MV → List MO → Prop) (σ : List MV) (H : List MO) : Prop :=
  FnOk cs xs → ∀ (d : Fd) (A : Around) (E : Value → Shared → Prop) (s : Shared) (fz news : List (Addr × Obj)), d.cs = cs → AOk n d A → Rl G xs cx d fz news σ H s.heap →
    wpAny (model G.prog G.w) A (exec st d.env) (FP G xs cx d fz s news Qn Qr) E s
/-- a row of statements -/
def WSs (G : Gx) (cs : Scope) (xs : List Str) (cx : List (Str × Nat)) (n : Nat) (st : List Stmt) (Qn : List MV → List MO → Prop) (Qr : MV → List MO → Prop) (σ : List MV) (H : List MO) : Prop :=
  FnOk cs xs → ∀ (d : Fd) (A : Around) (E : Value → Shared → Prop) (s : Shared) (fz news : List (Addr × Obj)), d.cs = cs → AOk n d A → Rl G xs cx d fz news σ H s.heap →
    wpAny (model G.prog G.w) A (execs st d.env) (FP G xs cx d fz s news Qn Qr) E s

theorem FP.from {G : Gx} {xs : List Str} {cx : List (Str × Nat)} {d : Fd} {fz : List (Addr × Obj)} {s s1 : Shared} {news n1 : List (Addr × Obj)} {Qn : List MV → List MO → Prop} {Qr : MV → List MO → Prop} {f : Flow} {s' : Shared}
    (g : Gr s news s1 n1) (h : FP G xs cx d fz s1 n1 Qn Qr f s') : FP G xs cx d fz s news Qn Qr f s' := by
  rcases h with ⟨rfl, σ', H', n', R, g', q⟩ | ⟨v, mv, σ', H', n', rfl, R, g', vv, q⟩
  · exact .inl ⟨rfl, σ', H', n', R, g.trans g', q⟩
  · exact .inr ⟨v, mv, σ', H', n', rfl, R, g.trans g', vv, q⟩
theorem fp_from {G : Gx} {xs : List Str} {cx : List (Str × Nat)} {d : Fd} {fz : List (Addr × Obj)} {s s1 : Shared} {news n1 : List (Addr × Obj)} {Qn : List MV → List MO → Prop} {Qr : MV → List MO → Prop}
    {M : Model} {A : Around} {t : Sem Flow} {E : Value → Shared → Prop} (g : Gr s news s1 n1) (h : wpAny M A t (FP G xs cx d fz s1 n1 Qn Qr) E s1) : wpAny M A t (FP G xs cx d fz s news Qn Qr) E s1 :=
  wpAny_mono h (fun _ _ x => x.from g) fun _ _ e => e

inductive Stores (xs : List Str) : List Str → List MV → List MV → List MV → Prop where
  | nil {σ} : Stores xs [] [] σ σ
  | cons {x v ns vs σ σ1 σ'} : SlotS xs σ x v σ1 → Stores xs ns vs σ1 σ' → Stores xs (x :: ns) (v :: vs) σ σ'

section
variable {G : Gx} {cs : Scope} {xs : List Str} {cx : List (Str × Nat)} {n : Nat} {Qn : List MV → List MO → Prop} {Qr : MV → List MO → Prop} {σ : List MV} {H : List MO} {pos p tp : Pos}

theorem WSs_nil (h : Qn σ H) : WSs G cs xs cx n [] Qn Qr σ H := by
  intro ok d A E s fz news hd ha R
  exact wpAny_execs_nil (.inl ⟨rfl, σ, H, news, R, Gr.refl s news, h⟩)
theorem WSs_cons {st : Stmt} {rest : List Stmt} (h : WS G cs xs cx n st (fun σ' H' => WSs G cs xs cx n rest Qn Qr σ' H') Qr σ H) : WSs G cs xs cx n (st :: rest) Qn Qr σ H := by
  intro ok d A E s fz news hd ha R
  refine wpAny_execs_cons (wpAny_mono (h ok d A E s fz news hd ha R) (fun f s' hf => ?_) fun _ _ e => e)
  rcases hf with ⟨rfl, σ', H', n', R', g', q⟩ | ⟨v, mv, σ', H', n', rfl, R', g', vv, q⟩
  · exact fp_from g' (q ok d A E s' fz n' hd ha R')
  · exact .inr ⟨v, mv, σ', H', n', rfl, R', g', vv, q⟩

/-- a store into a local -/
theorem store_ {d : Fd} {A : Around} {E : Value → Shared → Prop} {s : Shared} {fz news : List (Addr × Obj)} {P : Unit → Shared → Prop} {x : Str} {v : MV} {u : Value} {σ' : List MV} (ok : FnOk cs xs) (hd : d.cs = cs) (R : Rl G xs cx d fz news σ H s.heap)
    (hs : SlotS xs σ x v σ') (hv : VR G (ad news) v u) (h : ∀ h' tk, Rl G xs cx d fz news σ' H h' → P () { s with heap := h', toks := tk }) : wpAny (model G.prog G.w) A (storeName d.env x u) P E s := by
  subst hd
  obtain ⟨m, F, qf⟩ := R.fr
  exact wpAny_storeName_local (env := d.env) (ok.loc x hs.mem).1 F.ns (fun h' hn hs' => h h' _ (R.store ok hs hv qf (F.set hn hs') (R.nw.set hs'))) (by show (d.cs.kind == .class || (d.cs.kind == .module && d.L != mainGlobals)) = false; rw [ok.kind]; rfl)
/-- a store into a cell -/
theorem storeC_ {d : Fd} {A : Around} {E : Value → Shared → Prop} {s : Shared} {fz news : List (Addr × Obj)} {P : Unit → Shared → Prop} {x : Str} {i : Nat} {v w : MV} {u : Value} (ok : FnOk cs xs) (hd : d.cs = cs) (R : Rl G xs cx d fz news σ H s.heap)
    (hc : (x, i) ∈ cx) (hi : H[i]? = some (.cell w)) (hk : cs.names.lookup x = some .cell) (hv : VR G (ad news) v u) (h : ∀ h' news', ad news' = ad news → Rl G xs cx d fz news' σ (H.set i (.cell v)) h' → P () { s with heap := h' }) :
    wpAny (model G.prog G.w) A (storeName d.env x u) P E s := by
  subst hd
  obtain ⟨c, e1, e2⟩ := R.cells x i hc
  obtain ⟨a, o, e3, e4, e5, y, e6, _⟩ := R.at_ hi
  obtain rfl : c = a := Option.some.inj (e2.symm.trans e4)
  refine wpAny_storeName_cell (env := d.env) ok.kind hk e1 ⟨o, e5, e6⟩ fun h' hv' hs => ?_
  obtain ⟨o', ho', hd'⟩ := hv'
  exact h h' _ (ad_set e3) (R.setAt (o' := o') e3 hs ho' ⟨_, hd', .inr ⟨u, rfl, hv⟩⟩)

theorem WS_assign {x : Str} {e : Expr} (h : WE G cs xs cx n e (fun v H1 => ∃ σ', SlotS xs σ x v σ' ∧ Qn σ' H1) σ H) (hs : ∀ env, swapsWith e (some (.Name x p)) pos.line env = pure false := by intro _; rfl) :
    WS G cs xs cx n (.Assign [.Name x p] e pos) Qn Qr σ H := by
  intro ok d A E s fz news hd ha R
  refine wpAny_Assign_Name (ep_mono (h ok d A E s fz news hd ha R) fun v H1 n1 u s1 R1 g1 vv h1 => ?_) (hs _)
  obtain ⟨σ', hs', q⟩ := h1
  exact store_ ok hd R1 hs' vv fun h' tk R' => .inl ⟨rfl, σ', H1, n1, R', g1.trans (Gr.same s1 h' tk n1), q⟩
theorem WS_assignC {x : Str} {e : Expr} (hk : cs.names.lookup x = some .cell) (h : WE G cs xs cx n e (fun v H1 => ∃ i w, (x, i) ∈ cx ∧ H1[i]? = some (.cell w) ∧ Qn σ (H1.set i (.cell v))) σ H) (hs : ∀ env, swapsWith e (some (.Name x p)) pos.line env = pure false := by intro _; rfl) :
    WS G cs xs cx n (.Assign [.Name x p] e pos) Qn Qr σ H := by
  intro ok d A E s fz news hd ha R
  refine wpAny_Assign_Name (ep_mono (h ok d A E s fz news hd ha R) fun v H1 n1 u s1 R1 g1 vv h1 => ?_) (hs _)
  obtain ⟨i, w, hc, hi, q⟩ := h1
  exact storeC_ ok hd R1 hc hi hk vv fun h' n' en R' => .inl ⟨rfl, σ, _, n', R', g1.trans ⟨rfl, rfl, rfl, by rw [en]; exact List.prefix_rfl⟩, q⟩

/-- names bound one after the other -/
theorem binds_ {d : Fd} {A : Around} {E : Value → Shared → Prop} (ok : FnOk cs xs) (hd : d.cs = cs) {ns : List Str} {vs : List MV} {σ σ' : List MV} (hs : Stores xs ns vs σ σ') :
    ∀ {s : Shared} {fz news : List (Addr × Obj)} {us : List Value} {P : Unit → Shared → Prop}, Rl G xs cx d fz news σ H s.heap → All2 (VR G (ad news)) vs us →
      (∀ h' tk, Rl G xs cx d fz news σ' H h' → P () { s with heap := h', toks := tk }) → wpAny (model G.prog G.w) A (assignInOrder (ns.map fun n => bindName d.env n) us) P E s := by
  induction hs with
  | nil =>
    intro s fz news us P R hv h
    cases hv
    exact wpAny_pure (h s.heap s.toks R)
  | cons h1 _ ih =>
    intro s fz news us P R hv h
    cases hv with
    | cons v y =>
      refine wpAny_bind (wpAny_holding (wpAny_bindName (store_ ok hd R h1 v fun h' tk R' => ?_)))
      exact ih R' y fun h'' tk' R'' => h h'' tk' R''

theorem WS_assignSw {elts : List Expr} {k : Nat} {value : Expr} {names : List Str} (h : WE G cs xs cx n value (fun v H1 => ∃ j vs σ', v = .ref j ∧ H1[j]? = some (.tup vs) ∧ names.length = vs.length ∧ Stores xs names.reverse vs.reverse σ σ' ∧ Qn σ' H1) σ H)
    (hw : ∀ env : Env, env.scope = cs → swappedStores [.Tuple elts k tp] value env = pure (some names)) (hs : ∀ env, swapsWithSole [.Tuple elts k tp] value pos.line env = pure false := by intro _; rfl) :
    WS G cs xs cx n (.Assign [.Tuple elts k tp] value pos) Qn Qr σ H := by
  intro ok d A E s fz news hd ha R
  refine Assign_Tuple_swapped (ep_mono (h ok d A E s fz news hd ha R) fun v H1 n1 u s1 R1 g1 vv h1 => ?_) (hs _) (hw _ hd)
  obtain ⟨j, vs, σ', rfl, hj, hl, hst, q⟩ := h1
  obtain ⟨a, us, c, rfl, e1, e2, e3⟩ := R1.tup_ hj vv
  obtain ⟨m, F, qf⟩ := R1.fr
  rw [hl, e3.length]
  have el : us.length = us.toArray.size := by simp
  rw [el]
  refine wpAny_unpackItems_tuple ha.hh e2 fun h' he => ?_
  have R2 := R1.up (Up.of_ext he)
  have e3' : All2 (VR G (ad n1)) vs.reverse us.toArray.toList.reverse := by simpa using e3.reverse
  exact binds_ ok hd hst (s := { s1 with heap := h' }) R2 e3' fun h'' tk R'' => .inl ⟨rfl, σ', H1, n1, R'', g1.trans (Gr.same s1 h'' tk n1), q⟩

/-- a pair of names bound from a tuple, in order -/
theorem pair_ {d : Fd} {A : Around} {E : Value → Shared → Prop} {s : Shared} {fz news : List (Addr × Obj)} {P : Unit → Shared → Prop} {x y : Str} {px py : Pos} {k : Nat} {v w : MV} {u1 u2 : Value} {t : Addr} {its : Array Value} {σ1 σ' : List MV} (ok : FnOk cs xs) (hd : d.cs = cs) (hh : A.handled = Option.none)
    (R : Rl G xs cx d fz news σ H s.heap) (ht : s.heap.IsTuple t its) (hi : its = #[u1, u2]) (h1 : SlotS xs σ x v σ1) (h2 : SlotS xs σ1 y w σ') (v1 : VR G (ad news) v u1) (v2 : VR G (ad news) w u2)
    (h : ∀ h' tk, Rl G xs cx d fz news σ' H h' → P () { s with heap := h', toks := tk }) : wpAny (model G.prog G.w) A (assign (.Tuple [.Name x px, .Name y py] k tp) d.env (.ref t)) P E s := by
  subst hi
  refine wpAny_assign_Tuple hh ht rfl rfl fun h' he => ?_
  have R2 := R.up (Up.of_ext he)
  show wpAny _ A (do holding [u2] (assign (.Name x px) d.env u1); do holding [] (assign (.Name y py) d.env u2); pure ()) _ _ _
  refine wpAny_bind (wpAny_holding (PySem.wpAny_assign_Name (store_ (s := { s with heap := h' }) ok hd R2 h1 v1 fun h3 tk R3 => ?_)))
  refine wpAny_bind (wpAny_holding (PySem.wpAny_assign_Name (store_ (s := { s with heap := h3, toks := tk }) ok hd R3 h2 v2 fun h4 tk' R4 => ?_)))
  exact wpAny_pure (h h4 tk' R4)

theorem WS_assignT {x y : Str} {px py : Pos} {k : Nat} {value : Expr} (h : WE G cs xs cx n value (fun v H1 => ∃ j a b σ1 σ', v = .ref j ∧ H1[j]? = some (.tup [a, b]) ∧ SlotS xs σ x a σ1 ∧ SlotS xs σ1 y b σ' ∧ Qn σ' H1) σ H)
    (hw : ∀ env : Env, env.scope = cs → swappedStores [.Tuple [.Name x px, .Name y py] k tp] value env = pure Option.none) (hs : ∀ env, swapsWithSole [.Tuple [.Name x px, .Name y py] k tp] value pos.line env = pure false := by intro _; rfl) :
    WS G cs xs cx n (.Assign [.Tuple [.Name x px, .Name y py] k tp] value pos) Qn Qr σ H := by
  intro ok d A E s fz news hd ha R
  refine PyProof.Rows.Assign_Tuple (ep_mono (h ok d A E s fz news hd ha R) fun v H1 n1 u s1 R1 g1 vv h1 => ?_) (hs _) (hw _ hd)
  obtain ⟨j, a, b, σ1, σ', rfl, hj, s1', s2', q⟩ := h1
  obtain ⟨t, us, c, rfl, e1, e2, e3⟩ := R1.tup_ hj vv
  cases e3 with
  | cons v1 y1 =>
    cases y1 with
    | cons v2 y2 =>
      cases y2
      exact pair_ ok hd ha.hh R1 e2 rfl s1' s2' v1 v2 fun h' tk R' => .inl ⟨rfl, σ', H1, n1, R', g1.trans (Gr.same s1 h' tk n1), q⟩

theorem setIfInBounds_toArray (vs : List Value) (i : Nat) (v : Value) : vs.toArray.setIfInBounds i v = (vs.set i v).toArray := by
  apply Array.toList_inj.mp
  simp
theorem WS_setitem {o i value : Expr} (h : WE G cs xs cx n value (fun v H1 => WE G cs xs cx n o (fun ov H2 => WE G cs xs cx n i (fun iv H3 => ∃ j l k, ov = .ref j ∧ iv = .int k ∧ H3[j]? = some (.list l) ∧ 0 ≤ k ∧ k < l.length ∧ k < 2 ^ 63 ∧ Qn σ (H3.set j (.list (l.set k.toNat v)))) σ H2) σ H1) σ H)
    (hs : ∀ env, swapsWith value (some (o.Subscript i p)) pos.line env = pure false := by intro _; rfl) : WS G cs xs cx n (.Assign [.Subscript o i p] value pos) Qn Qr σ H := by
  intro ok d A E s fz news hd ha R
  refine wpAny_Assign_Subscript (ep_mono (h ok d A E s fz news hd ha R) fun v H1 n1 u s1 R1 g1 vv h1 => ?_) (hs _)
  refine ep_mono (h1 ok d A E s1 fz n1 hd ha R1) fun ov H2 n2 uo s2 R2 g2 vo h2 => ?_
  refine ep_mono (h2 ok d A E s2 fz n2 hd ha R2) fun iv H3 n3 ui s3 R3 g3 vi h3 => ?_
  obtain ⟨j, l, k, rfl, rfl, hj, h0, hk, hf, q⟩ := h3
  obtain ⟨t, rfl⟩ := vi
  obtain ⟨a, vs, c, rfl, e1, e2, e3, e4⟩ := R3.list_ hj (vo.mono g3.pre)
  refine ki_setAt e2 h0 hf (by rw [List.size_toArray, ← e4.length]; exact hk) (.inl ⟨rfl, σ, _, _, R3.setAt (mo := .list (l.set k.toNat v)) e1 (Heap.SameBut.update ..) (PySem.IsL.update e2 _) ⟨vs.set k.toNat u, _, by rw [setIfInBounds_toArray], e4.set ((vv.mono g2.pre).mono g3.pre)⟩, ((g1.trans g2).trans g3).trans (Gr.set s3 _ _ n3 e1), q⟩)

theorem WS_aug {x : Str} {op : Operator} {e : Expr} {v : MV} (hv : SlotV xs σ x v) (hu : v ≠ .unb) (h : WE G cs xs cx n e (fun b H1 => ∃ f : Int → Int → Int, ∃ a k σ', v = .int a ∧ b = .int k ∧
    (∀ (A : Around) (E : Value → Shared → Prop) (s : Shared) (P : Value → Shared → Prop) (t u : Tok), P (.int (f a k) s.toks) { s with toks := s.toks + 1 } → wpAny (model G.prog G.w) A (inplaceOp op (.int a t) (.int k u)) P E s) ∧
    SlotS xs σ x (.int (f a k)) σ' ∧ Qn σ' H1) σ H) : WS G cs xs cx n (.AugAssign (.Name x p) op e pos) Qn Qr σ H := by
  intro ok d A E s fz news hd ha R
  obtain ⟨m, F, qf⟩ := R.fr
  obtain ⟨u, e1, vu⟩ := qf x v hv hu
  refine wpAny_AugAssign_Name (wpAny_loadName_local (env := d.env) (by rw [← hd] at ok; exact ok.kind) (by rw [← hd] at ok; exact (ok.loc x hv.mem).1) F.ns e1 ?_)
  refine ep_mono (h ok d A E s fz news hd ha R) fun b H1 n1 w s1 R1 g1 vb h1 => ?_
  obtain ⟨f, a, k, σ', rfl, rfl, hi, hs, q⟩ := h1
  obtain ⟨t, rfl⟩ := vu
  obtain ⟨t', rfl⟩ := vb
  refine hi A E s1 _ t t' (store_ (s := { s1 with toks := s1.toks + 1 }) ok hd R1 hs (vr_int _ _) fun h' tk R' => ?_)
  exact .inl ⟨rfl, σ', H1, n1, R', g1.trans (Gr.same s1 h' tk n1), q⟩

theorem WS_if {t : Expr} {b o : List Stmt} (h : WT G cs xs cx n t (fun c H1 => (c = true → WSs G cs xs cx n b Qn Qr σ H1) ∧ (c = false → WSs G cs xs cx n o Qn Qr σ H1)) σ H) : WS G cs xs cx n (.If t b o pos) Qn Qr σ H := by
  intro ok d A E s fz news hd ha R
  refine wpAny_If (ep_mono (h ok d A E s fz news hd ha R) fun c H1 n1 u s1 R1 g1 va h1 => ?_)
  obtain rfl : u = c := va
  cases u with
  | true => rw [if_pos rfl]; exact fp_from g1 (h1.1 rfl ok d A E s1 fz n1 hd ha R1)
  | false => rw [if_neg (by decide)]; exact fp_from g1 (h1.2 rfl ok d A E s1 fz n1 hd ha R1)

theorem WS_return {e : Expr} (h : WE G cs xs cx n e Qr σ H) : WS G cs xs cx n (.Return (some e) pos) Qn Qr σ H := by
  intro ok d A E s fz news hd ha R
  exact wpAny_Return_some (ep_mono (h ok d A E s fz news hd ha R) fun v H1 n1 u s1 R1 g1 vv h1 => .inr ⟨u, v, σ, H1, n1, rfl, R1, g1, vv, h1⟩)

theorem WS_append {x : Str} {np apos cpos : Pos} {e : Expr} {i : Nat} {l0 : List MV} (hv : SlotV xs σ x (.ref i)) (hl0 : H[i]? = some (.list l0)) (h : WE G cs xs cx n e (fun v H1 => ∃ l, H1[i]? = some (.list l) ∧ l.length ≤ 100000 ∧ Qn σ (H1.set i (.list (l ++ [v])))) σ H)
    (hi : ∀ env : Env, env.scope = cs → interactive env = false) (hs : ∀ env, swapsWith (.Call (.Attribute (.Name x np) (Str.ofString "append") apos) [e] [] cpos) Option.none pos.line env = pure false := by intro _; rfl)
    (hst : ∀ env, starEach [e] env = (false, eval e env) :: starEach [] env := by intro _; rfl)
    (he : ∀ env, eval (.Call (.Attribute (.Name x np) (Str.ofString "append") apos) [e] [] cpos) env = (do
      let ov ← eval (.Name x np) env
      standAt apos.atName
      let (f, first) ← holding [ov] (getMethod ov (Str.ofString "append") (do return (← importBound (.Name x np) env).getD true))
      callWith cpos f first (backTo cpos (starEach [e] env)) []) := by intro _; rfl) :
    WS G cs xs cx n (.Expr (.Call (.Attribute (.Name x np) (Str.ofString "append") apos) [e] [] cpos) pos) Qn Qr σ H := by
  intro ok d A E s fz news hd ha R
  refine wpAny_Expr_any (MethodCall_ ?_ (he _)) (hi _ hd) (hs _)
  refine ep_mono (WE_loc (Q := fun v H1 => v = .ref i ∧ H1 = H) hv (by intro e; cases e) ⟨rfl, rfl⟩ ok d A E s fz news hd ha R) fun ov H0 n0 uo s0 R0 g0 vo h0 => ?_
  obtain ⟨rfl, rfl⟩ := h0
  obtain ⟨a, vs, c, rfl, e1, e2, e3, e4⟩ := R0.list_ hl0 vo
  refine getMethod_list_append e2 rfl rfl (callWith_method1 ?_ (hst _) rfl)
  refine args_cons (ep_mono (h ok d A E s0 fz n0 hd ha R0) fun v H1 n1 u s1 R1 g1 vv h1 => args_nil ?_) (hst _)
  obtain ⟨l, hl, hz, q⟩ := h1
  obtain ⟨a', vs', c', ea, f1, f2, f3, f4⟩ := R1.list_ hl (vo.mono g1.pre)
  cases ea
  refine append_at f2 (fun h' hs' ho' => .inl ⟨rfl, σ, _, _, R1.setAt (mo := .list (l ++ [v])) f1 hs' ho' ⟨vs' ++ [u], c' + 1, by rw [List.push_toArray], f4.append (.cons vv .nil)⟩, (g0.trans g1).trans (Gr.set s1 h' s1.toks n1 f1), q⟩) ?_
  rw [List.size_toArray, ← f4.length, sizeLine_eq]; omega
end
end Mine
namespace Mine

namespace Rl
variable {G : Gx} {xs : List Str} {cx : List (Str × Nat)} {d : Fd} {fz news : List (Addr × Obj)} {σ : List MV} {H : List MO} {h h' : Heap}
theorem freeze (R : Rl G xs cx d fz news σ H h) {I : Addr} {o : Obj} (k : Up h h') (hn : h.get? I = Option.none) (ho : h'.get? I = some o) : Rl G xs cx d ((I, o) :: fz) news σ H h' := by
  have R' := R.up k
  have nL : I ≠ d.L := fun e => by
    obtain ⟨m0, F0, _⟩ := R.fr
    obtain ⟨oL, es, ep, hL, r⟩ := F0.ns
    rw [← e, hn] at hL; cases hL
  have n0 : d.h₀.get? I = Option.none := by
    cases e : d.h₀.get? I with
    | none => rfl
    | some o' => obtain ⟨m0, F0, _⟩ := R.fr; have := F0.keep _ _ e; rw [hn] at this; cases this
  refine { R' with nw := fun p hp => ?_, nd := ?_ }
  · rcases List.mem_cons.mp hp with rfl | hp
    · exact ⟨ho, nL, n0⟩
    · exact R'.nw p hp
  · show (I :: ad (fz ++ news)).Nodup
    rw [List.nodup_cons]
    refine ⟨fun hm => ?_, R.nd⟩
    obtain ⟨p, hp, e⟩ := List.mem_map.mp hm
    have := (R.nw p hp).1
    rw [e, hn] at this; cases this
theorem refreeze {I : Addr} {o o' : Obj} (R : Rl G xs cx d ((I, o) :: fz) news σ H h) (k : ∀ b x, b ≠ I → h.get? b = some x → h'.get? b = some x) (ho : h'.get? I = some o') : Rl G xs cx d ((I, o') :: fz) news σ H h' := by
  have hI := R.nw (I, o) (.head _)
  have nd : (I :: ad (fz ++ news)).Nodup := R.nd
  rw [List.nodup_cons] at nd
  obtain ⟨m, F, qf⟩ := R.fr
  have F' : Fr d.h₀ d.L h' m := ⟨F.ns.at' fun o e => k _ _ (Ne.symm hI.2.1) e, fun b x e => k b x (fun q => by have := hI.2.2; rw [← q] at this; rw [this] at e; cases e) (F.keep b x e), F.above⟩
  refine { R with fr := ⟨m, F', qf⟩, nw := fun p hp => ?_, nd := R.nd }
  rcases List.mem_cons.mp hp with rfl | hp
  · exact ⟨ho, hI.2⟩
  · have z := R.nw p (.tail _ hp)
    exact ⟨k _ _ (fun q => nd.1 (q ▸ List.mem_map_of_mem hp)) z.1, z.2⟩
theorem thaw {q : Addr × Obj} (R : Rl G xs cx d (q :: fz) news σ H h) : Rl G xs cx d fz news σ H h := by
  have nd : (q.1 :: ad (fz ++ news)).Nodup := R.nd
  rw [List.nodup_cons] at nd
  exact { R with nw := fun p hp => R.nw p (.tail _ hp), nd := nd.2 }
theorem ice {I : Addr} {o : Obj} (R : Rl G xs cx d ((I, o) :: fz) news σ H h) : h.get? I = some o := (R.nw (I, o) (.head _)).1
theorem ice_ne {I : Addr} {o : Obj} (R : Rl G xs cx d ((I, o) :: fz) news σ H h) {i : Nat} {a : Addr} (e : (ad news)[i]? = some a) : a ≠ I := by
  have nd : (I :: ad (fz ++ news)).Nodup := R.nd
  rw [List.nodup_cons] at nd
  rintro rfl
  refine nd.1 ?_
  rw [ad, List.map_append]
  exact List.mem_append_right _ (List.mem_of_getElem? e)
end Rl

/-- while, by the number of its turns -/
def WWh (G : Gx) (cs : Scope) (xs : List Str) (cx : List (Str × Nat)) (n : Nat) (test : Expr) (body : List Stmt) (Qn : List MV → List MO → Prop) (Qr : MV → List MO → Prop) : Nat → List MV → List MO → Prop
  | 0, _, _ => False
  | k + 1, σ, H => WT G cs xs cx n test (fun b H1 => (b = true → WSs G cs xs cx n body (fun σ' H' => WWh G cs xs cx n test body Qn Qr k σ' H') Qr σ H1) ∧ (b = false → Qn σ H1)) σ H
/-- for x over items -/
def WFor1 (G : Gx) (cs : Scope) (xs : List Str) (cx : List (Str × Nat)) (n : Nat) (x : Str) (body : List Stmt) (Inv : List MO → Prop) (Qn : List MV → List MO → Prop) (Qr : MV → List MO → Prop) : List MV → List MV → List MO → Prop
  | [], σ, H => Inv H ∧ Qn σ H
  | v :: vs, σ, H => Inv H ∧ ∃ σ1, SlotS xs σ x v σ1 ∧ WSs G cs xs cx n body (fun σ' H' => WFor1 G cs xs cx n x body Inv Qn Qr vs σ' H') Qr σ1 H
/-- for x, y over enumerate(items), from k on -/
def WForE (G : Gx) (cs : Scope) (xs : List Str) (cx : List (Str × Nat)) (n : Nat) (x y : Str) (body : List Stmt) (Inv : List MO → Prop) (Qn : List MV → List MO → Prop) (Qr : MV → List MO → Prop) : Nat → List MV → List MV → List MO → Prop
  | _, [], σ, H => Inv H ∧ Qn σ H
  | k, v :: vs, σ, H => Inv H ∧ ∃ σ1 σ2, SlotS xs σ x (.int (k : Int)) σ1 ∧ SlotS xs σ1 y v σ2 ∧ WSs G cs xs cx n body (fun σ' H' => WForE G cs xs cx n x y body Inv Qn Qr (k + 1) vs σ' H') Qr σ2 H

theorem WFor1.inv {G : Gx} {cs : Scope} {xs : List Str} {cx : List (Str × Nat)} {n : Nat} {x : Str} {body : List Stmt} {Inv : List MO → Prop} {Qn : List MV → List MO → Prop} {Qr : MV → List MO → Prop} : ∀ {vs σ H}, WFor1 G cs xs cx n x body Inv Qn Qr vs σ H → Inv H
  | [], _, _, h => h.1
  | _ :: _, _, _, h => h.1
theorem WForE.inv {G : Gx} {cs : Scope} {xs : List Str} {cx : List (Str × Nat)} {n : Nat} {x y : Str} {body : List Stmt} {Inv : List MO → Prop} {Qn : List MV → List MO → Prop} {Qr : MV → List MO → Prop} {k : Nat} : ∀ {vs σ H}, WForE G cs xs cx n x y body Inv Qn Qr k vs σ H → Inv H
  | [], _, _, h => h.1
  | _ :: _, _, _, h => h.1

def rangeL (a c : Int) (n : Nat) : List MV := (List.range n).map fun (i : Nat) => MV.int (a + (i : Int) * c)
theorem rangeL_get {a c : Int} {n i : Nat} (h : i < n) : (rangeL a c n)[i]? = some (.int (a + (i : Int) * c)) := by
  simp [rangeL, h]
theorem rangeL_len {a c : Int} {n : Nat} : (rangeL a c n).length = n := by simp [rangeL]

theorem drop_cons {α : Type} {l : List α} {i : Nat} {v : α} {r : List α} (e : l.drop i = v :: r) : l[i]? = some v ∧ l.drop (i + 1) = r ∧ i < l.length := by
  have hi : i < l.length := by
    false_or_by_contra
    rename_i q
    rw [List.drop_of_length_le (by omega)] at e; cases e
  rw [List.drop_eq_getElem_cons hi] at e
  cases e
  exact ⟨List.getElem?_eq_getElem hi, rfl, hi⟩

section
variable {G : Gx} {cs : Scope} {xs : List Str} {cx : List (Str × Nat)} {n : Nat} {Qn : List MV → List MO → Prop} {Qr : MV → List MO → Prop} {σ : List MV} {H : List MO} {pos p tp : Pos}

theorem WS_while {t : Expr} {b : List Stmt} (h : ∃ k, WWh G cs xs cx n t b Qn Qr k σ H) : WS G cs xs cx n (.While t b [] pos) Qn Qr σ H := by
  intro ok d A E s fz news hd ha R
  obtain ⟨k, h⟩ := h
  refine wpAny_While (codeAny_whileLoop (fun m s' => ∃ σ' H' n', Rl G xs cx d fz n' σ' H' s'.heap ∧ Gr s news s' n' ∧ WWh G cs xs cx n t b Qn Qr m σ' H') ?_ k ⟨σ, H, news, R, Gr.refl s news, h⟩)
  intro m s' zq
  refine cps fun zP zh => ?_
  obtain ⟨σ', H', n', R', g', w⟩ := zq
  refine zh ?_
  clear zh zP
  cases m with
  | zero => exact w.elim
  | succ m =>
    refine ep_mono (w ok d A _ s' fz n' hd ha R') fun c H1 n1 u s1 R1 g1 va h1 => ?_
    obtain rfl : u = c := va
    cases u with
    | true =>
      rw [if_pos rfl]
      refine wpAny_mono (h1.1 rfl ok d A _ s1 fz n1 hd ha R1) (fun f s2 hf => ?_) fun _ _ e => e
      rcases hf with ⟨rfl, σ2, H2, n2, R2, g2, q⟩ | ⟨v, mv, σ2, H2, n2, rfl, R2, g2, vv, q⟩
      · exact ⟨m, Nat.lt_succ_self m, σ2, H2, n2, R2, (g'.trans g1).trans g2, q⟩
      · exact .inr ⟨v, mv, σ2, H2, n2, rfl, R2, (g'.trans g1).trans g2, vv, q⟩
    | false =>
      rw [if_neg (by decide)]
      exact wpAny_execs_nil (.inl ⟨rfl, σ', H1, n1, R1, g'.trans g1, h1.2 rfl⟩)

theorem WS_forL {x : Str} {px : Pos} {iter : Expr} {body : List Stmt} (h : WE G cs xs cx n iter (fun v H1 => ∃ j l, v = .ref j ∧ H1[j]? = some (.list l) ∧ WFor1 G cs xs cx n x body (fun H' => H'[j]? = some (.list l)) Qn Qr l σ H1) σ H)
    (hf : ∀ env v, foldedSetIterable iter env v = pure v := by intro _ _; rfl) : WS G cs xs cx n (.For (.Name x px) iter body [] pos) Qn Qr σ H := by
  intro ok d A E s fz news hd ha R
  refine wpAny_For (ep_mono (h ok d A E s fz news hd ha R) fun v H1 n1 u s1 R1 g1 vv h1 => ?_) (hf _)
  obtain ⟨j, l, rfl, hj, hW⟩ := h1
  obtain ⟨a, vs, c, rfl, e1, e2, e3, e4⟩ := R1.list_ hj vv
  refine wpAny_pyIter_list e3 ?_
  have fresh : s1.heap.get? s1.heap.objs.size = Option.none := by
    cases e : s1.heap.get? s1.heap.objs.size with
    | none => rfl
    | some o' => exact absurd (Heap.lt_size e) (Nat.lt_irrefl _)
  have hI : (s1.heap.push { cls := .type "list_iterator", data := .fields #[.ref a, .int 0 0] }).get? s1.heap.objs.size = some { cls := .type "list_iterator", data := .fields #[.ref a, .int 0 0] } := Heap.get?_push_size _ rfl
  have R2 := R1.freeze (Up.push _ _) fresh hI
  generalize s1.heap.objs.size = I at R2 hI ⊢
  refine codeAny_forLoop (fun m s' => ∃ i o σ' H' n', m = l.length + 1 - i ∧ i ≤ l.length ∧ s'.heap.IsListIter I a i ∧ Rl G xs cx d ((I, o) :: fz) n' σ' H' s'.heap ∧ Gr s1 n1 s' n' ∧ WFor1 G cs xs cx n x body (fun H' => H'[j]? = some (.list l)) Qn Qr (l.drop i) σ' H')
    ?_ (l.length + 1 - 0) ⟨0, _, σ, H1, n1, rfl, Nat.zero_le _, ⟨_, hI, rfl, rfl⟩, R2, Gr.same s1 _ s1.toks n1, hW⟩
  intro m s' zq
  refine cps fun zP zh => ?_
  obtain ⟨i, o, σ', H', n', rfl, hi, hit, R', g', w⟩ := zq
  refine zh ?_
  clear zh zP
  have hj' : H'[j]? = some (.list l) := w.inv
  obtain ⟨a', vs', c', ea, f1, f2, f3, f4⟩ := R'.list_ hj' (vv.mono g'.pre)
  cases ea
  cases hd' : l.drop i with
  | nil =>
    have hli : l.length ≤ i := List.drop_eq_nil_iff.mp hd'
    rw [hd'] at w
    refine wpAny_pyNext_list_end ha.hh hit f3 (by rw [List.getElem?_toArray]; exact List.getElem?_eq_none (by rw [← f4.length]; exact hli)) fun h' he => wpAny_execs_nil ?_
    refine .inl ⟨rfl, σ', H', n', ?_, (g1.trans g').trans (Gr.same s' h' s'.toks n'), w.2⟩
    have Rt := R'.thaw
    obtain ⟨m, F, qf⟩ := Rt.fr
    have hIn := R'.nw (I, o) (.head _)
    refine Rt.same ⟨F.ns.extBut he (Ne.symm hIn.2.1), fun b x e => he b x (fun q => by have := hIn.2.2; rw [← q, e] at this; cases this) (F.keep b x e), F.above⟩ qf fun p hp => ?_
    have nd : (I :: ad (fz ++ n')).Nodup := R'.nd
    rw [List.nodup_cons] at nd
    exact ⟨he _ _ (fun q => nd.1 (q ▸ List.mem_map_of_mem hp)) (Rt.nw p hp).1, (Rt.nw p hp).2⟩
  | cons v r =>
    obtain ⟨hv, hr, hlt⟩ := drop_cons hd'
    rw [hd'] at w
    obtain ⟨b, hb, vb⟩ := f4.get hv
    refine wpAny_pyNext_list_item hit f3 (by rw [List.getElem?_toArray]; exact hb) fun h' hit' hs => ?_
    obtain ⟨oI, hoI, _⟩ := id hit'
    have R3 := R'.refreeze (o' := oI) (fun b x hb e => hs.extBut b x hb e) hoI
    obtain ⟨_, σ1, hs1, hb1⟩ := w
    refine PySem.wpAny_assign_Name (store_ (s := { s' with heap := h' }) ok hd R3 hs1 vb fun h2 tk R4 => ?_)
    refine wpAny_mono (hb1 ok d A _ { s' with heap := h2, toks := tk } _ n' hd ha R4) (fun f s3 hf => ?_) fun _ _ e => e
    have gg := g'.trans (Gr.same s' h2 tk n')
    rcases hf with ⟨rfl, σ2, H2, n2, R5, g5, q⟩ | ⟨v, mv, σ2, H2, n2, rfl, R5, g5, vv', q⟩
    · refine ⟨l.length + 1 - (i + 1), by omega, i + 1, oI, σ2, H2, n2, rfl, hlt, ?_, R5, gg.trans g5, hr ▸ q⟩
      obtain ⟨_, hoI', r1, r2⟩ := hit'
      rw [hoI] at hoI'; cases hoI'
      exact ⟨oI, R5.ice, r1, r2⟩
    · exact .inr ⟨v, mv, σ2, H2, n2, rfl, R5.thaw, (g1.trans gg).trans g5, vv', q⟩

/-- a range made by its call -/
theorem range_ (go : GOk G) {x : Str} {px rp : Pos} {e : Expr} {es : List Expr} {body : List Stmt}
    (hk : cs.names.lookup (Str.ofString "range") = some .globalImplicit)
    (h : WEs G cs xs cx n (e :: es) (fun vs H1 => ∃ a b c, (vs = [.int b] ∧ a = 0 ∧ c = 1 ∨ vs = [.int a, .int b] ∧ c = 1 ∨ vs = [.int a, .int b, .int c]) ∧ a.natAbs < 2 ^ 40 ∧ b.natAbs < 2 ^ 40 ∧ (c = 1 ∨ c = -1) ∧
      WFor1 G cs xs cx n x body (fun _ => True) Qn Qr (rangeL a c (Builtin.Range.rangeSize a b c).toNat) σ H1) σ H)
    (he : ∀ env, starEach (e :: es) env = (false, eval e env) :: starEach es env := by intro _; rfl) (hp : ∀ env, (backTo p (starEach es env)).any (·.1) = false := by intro _; rfl)
    (hc : ∀ env, eval (.Call (.Name (Str.ofString "range") rp) (e :: es) [] p) env = (do callWith p (← eval (.Name (Str.ofString "range") rp) env) [] (backTo p (starEach (e :: es) env)) (backToKw p (keywordEach [] env))) := by intro _; rfl)
    (hf : ∀ env v, foldedSetIterable (.Call (.Name (Str.ofString "range") rp) (e :: es) [] p) env v = pure v := by intro _ _; rfl) :
    WS G cs xs cx n (.For (.Name x px) (.Call (.Name (Str.ofString "range") rp) (e :: es) [] p) body [] pos) Qn Qr σ H := by
  intro ok d A E s fz news hd ha R
  refine wpAny_For (Call_ (name_bi (by simp) go boot_range hk ok hd R ?_) (hc _)) (hf _)
  refine PyProof.Rows.callWith_type1 (ep_mono (h p ok d A E s fz news hd ha R) fun vs H1 n1 us s1 R1 g1 vv h1 => ?_) (he _) (hp _)
  obtain ⟨a, b, c, hvs, hA, hB, hC, hW⟩ := h1
  -- behind the call: a range object, new
  have key : ∀ (t u v : Tok) (tk : Nat), wpAny (model G.prog G.w) A (pyIter (.ref s1.heap.objs.size)) (fun it s₂ => codeAny (model G.prog G.w) A (Code.forLoop (.Name x px) it body [] d.env)
      (fun r s' => match r with | .ok f => FP G xs cx d fz s news Qn Qr f s' | .error e => cameBackBy (model G.prog G.w) A d.env E e s') s₂) E
      { s1 with heap := s1.heap.push { cls := .type "range", data := .fields #[.int a t, .int b u, .int c v] }, toks := tk } := by
    intro t u v tk
    have fresh1 : s1.heap.get? s1.heap.objs.size = Option.none := by
      cases e : s1.heap.get? s1.heap.objs.size with
      | none => rfl
      | some o' => exact absurd (Heap.lt_size e) (Nat.lt_irrefl _)
    have R2 := R1.up (Up.push s1.heap { cls := .type "range", data := .fields #[.int a t, .int b u, .int c v] })
    have hsz : (Builtin.Range.rangeSize a b c) = ((Builtin.Range.rangeSize a b c).toNat : Int) := by
      have : 0 ≤ Builtin.Range.rangeSize a b c := by
        unfold Builtin.Range.rangeSize
        rcases hC with rfl | rfl
        · rw [if_pos (by decide)]; split <;> simp <;> omega
        · rw [if_neg (by decide)]; split <;> simp <;> omega
      omega
    have hsmall : Builtin.Range.small a b c = true := by
      have fits : ∀ z : Int, z.natAbs < 2 ^ 50 → Builtin.Range.rangeFitsLong z = true := by
        intro z hz
        unfold Builtin.Range.rangeFitsLong
        simp
        omega
      have hrs : (Builtin.Range.rangeSize a b c).natAbs < 2 ^ 50 := by
        unfold Builtin.Range.rangeSize
        rcases hC with rfl | rfl
        · rw [if_pos (by decide)]; split <;> simp <;> omega
        · rw [if_neg (by decide)]; split <;> simp <;> omega
      unfold Builtin.Range.small
      rw [fits a (by omega), fits b (by omega), fits c (by omega), fits _ hrs]
      simp
      right
      rcases hC with rfl | rfl
      · rw [if_pos (by decide)]; exact fits _ (by omega)
      · rw [if_neg (by decide)]; exact fits _ (by omega)
    refine wpAny_pyIter_range (IsRange.new ..) hsmall ?_
    generalize s1.heap.push { cls := .type "range", data := .fields #[.int a t, .int b u, .int c v] } = hp at R2 ⊢
    have fresh : hp.get? hp.objs.size = Option.none := by
      cases e : hp.get? hp.objs.size with
      | none => rfl
      | some o' => exact absurd (Heap.lt_size e) (Nat.lt_irrefl _)
    have hI : (hp.push { cls := .type "range_iterator", data := .fields #[rawInt a, rawInt (Builtin.Range.rangeSize a b c), rawInt c] }).get? hp.objs.size = some { cls := .type "range_iterator", data := .fields #[rawInt a, rawInt (Builtin.Range.rangeSize a b c), rawInt c] } := Heap.get?_push_size _ rfl
    have R3 := R2.freeze (Up.push _ _) fresh hI
    dsimp only
    generalize hp.objs.size = I at R3 hI ⊢
    have hN : (Builtin.Range.rangeSize a b c).toNat = (rangeL a c (Builtin.Range.rangeSize a b c).toNat).length := rangeL_len.symm
    generalize (Builtin.Range.rangeSize a b c).toNat = N at hN hW hsz
    have WK := Walks.range (prog := G.prog) (w := G.w) ha.hh I a c N
    refine codeAny_forLoop (fun m s' => ∃ i o σ' H' n', m = N + 1 - i ∧ i ≤ N ∧ IsRangeIter s'.heap I (a + (i : Int) * c) ((N : Int) - (i : Nat)) c ∧ Rl G xs cx d ((I, o) :: fz) n' σ' H' s'.heap ∧ Gr s1 n1 s' n' ∧ WFor1 G cs xs cx n x body (fun _ => True) Qn Qr ((rangeL a c N).drop i) σ' H')
      ?_ (N + 1 - 0) ⟨0, _, σ, H1, n1, rfl, Nat.zero_le _, ?_, R3, Gr.same s1 _ _ n1, hW⟩
    · intro m s' zq
      refine cps fun zP zh => ?_
      obtain ⟨i, o, σ', H', n', rfl, hi, hit, R', g', w⟩ := zq
      refine zh ?_
      clear zh zP
      by_cases hlt : i < N
      · refine WK.item i s' _ _ hlt hit fun v h' tk' hPv hst' hk' => ?_
        obtain ⟨tv, rfl⟩ := hPv
        have R4 := R'.refreeze (fun b x hb e => hk' b x (by simpa using hb) e) hst'
        have hdr : (rangeL a c N).drop i = .int (a + (i : Int) * c) :: (rangeL a c N).drop (i + 1) := by
          rw [List.drop_eq_getElem_cons (by rw [← hN]; exact hlt)]
          congr 1
          have := rangeL_get (a := a) (c := c) hlt
          rw [List.getElem?_eq_getElem (by rw [← hN]; exact hlt)] at this
          exact Option.some.inj this
        rw [hdr] at w
        obtain ⟨_, σ1, hs1, hb1⟩ := w
        refine PySem.wpAny_assign_Name (store_ (s := { s' with heap := h', toks := tk' }) ok hd R4 hs1 (vr_int _ _) fun h2 tk R5 => ?_)
        refine wpAny_mono (hb1 ok d A _ { s' with heap := h2, toks := tk } _ n' hd ha R5) (fun f s3 hf => ?_) fun _ _ e => e
        have gg := g'.trans (Gr.same s' h2 tk n')
        rcases hf with ⟨rfl, σ2, H2, n2, R6, g5, q⟩ | ⟨v, mv, σ2, H2, n2, rfl, R6, g5, vv', q⟩
        · exact ⟨N + 1 - (i + 1), by omega, i + 1, _, σ2, H2, n2, rfl, hlt, R6.ice, R6, gg.trans g5, q⟩
        · exact .inr ⟨v, mv, σ2, H2, n2, rfl, R6.thaw, (g1.trans gg).trans g5, vv', q⟩
      · obtain rfl : i = N := by omega
        rw [List.drop_of_length_le (by rw [← hN]; exact Nat.le_refl _)] at w
        refine WK.done s' _ _ hit fun h' tk' hk' => wpAny_execs_nil ?_
        refine .inl ⟨rfl, σ', H', n', ?_, (g1.trans g').trans (Gr.same s' h' tk' n'), w.2⟩
        have Rt := R'.thaw
        obtain ⟨m, F, qf⟩ := Rt.fr
        have hIn := R'.nw (I, o) (.head _)
        have he : ∀ b x, b ≠ I → s'.heap.get? b = some x → h'.get? b = some x := fun b x hb e => hk' b x (by simpa using hb) e
        refine Rt.same ⟨F.ns.at' fun o e => he _ _ (Ne.symm hIn.2.1) e, fun b x e => he b x (fun q => by have := hIn.2.2; rw [← q, e] at this; cases this) (F.keep b x e), F.above⟩ qf fun p hp => ?_
        have nd : (I :: ad (fz ++ n')).Nodup := R'.nd
        rw [List.nodup_cons] at nd
        exact ⟨he _ _ (fun q => nd.1 (q ▸ List.mem_map_of_mem hp)) (Rt.nw p hp).1, (Rt.nw p hp).2⟩
    · show IsRangeIter _ I (a + ((0 : Nat) : Int) * c) ((N : Int) - ((0 : Nat) : Int)) c
      have e1 : a + ((0 : Nat) : Int) * c = a := by simp
      have e2 : (N : Int) - ((0 : Nat) : Int) = Builtin.Range.rangeSize a b c := by rw [hsz]; simp
      rw [e1, e2]
      exact hI
  rcases hvs with ⟨rfl, rfl, rfl⟩ | ⟨rfl, rfl⟩ | rfl
  · cases vv with
    | cons v1 y => cases y; obtain ⟨t, rfl⟩ := v1; exact call_range_1 (key _ _ _ _)
  · cases vv with
    | cons v1 y =>
      cases y with
      | cons v2 y => cases y; obtain ⟨t, rfl⟩ := v1; obtain ⟨t2, rfl⟩ := v2; exact call_range_2 (key _ _ _ _)
  · cases vv with
    | cons v1 y =>
      cases y with
      | cons v2 y =>
        cases y with
        | cons v3 y =>
          cases y; obtain ⟨t, rfl⟩ := v1; obtain ⟨t2, rfl⟩ := v2; obtain ⟨t3, rfl⟩ := v3
          refine call_range_3 (by rcases hC with rfl | rfl <;> decide) (key _ _ _ _) (.inl ?_)
          rcases hC with rfl | rfl <;> exact PyProof.noPylong_of_log2 (by decide)
end
end Mine
namespace Mine

namespace Rl
variable {G : Gx} {xs : List Str} {cx : List (Str × Nat)} {d : Fd} {fz news : List (Addr × Obj)} {σ : List MV} {H : List MO} {h h' : Heap}
theorem freeze2 (R : Rl G xs cx d fz news σ H h) {I J : Addr} {o o2 : Obj} (k : Up h h') (hn : h.get? I = Option.none) (hn2 : h.get? J = Option.none) (hij : J ≠ I) (ho : h'.get? I = some o) (ho2 : h'.get? J = some o2) :
    Rl G xs cx d ((J, o2) :: (I, o) :: fz) news σ H h' := by
  have R' := R.freeze k hn ho
  have R2 := R.freeze k hn2 ho2
  refine { R' with nw := fun p hp => ?_, nd := ?_ }
  · rcases List.mem_cons.mp hp with rfl | hp
    · exact R2.nw _ (.head _)
    · exact R'.nw p hp
  · show (J :: I :: ad (fz ++ news)).Nodup
    have n1 : (I :: ad (fz ++ news)).Nodup := R'.nd
    have n2 : (J :: ad (fz ++ news)).Nodup := R2.nd
    rw [List.nodup_cons] at n2
    rw [List.nodup_cons]
    refine ⟨fun hm => ?_, n1⟩
    rcases List.mem_cons.mp hm with e | hm
    · exact hij e
    · exact n2.1 hm
theorem refreeze2 {I J : Addr} {o o' o2 o2' : Obj} (R : Rl G xs cx d ((J, o2) :: (I, o) :: fz) news σ H h) (k : ∀ b x, b ≠ J → b ≠ I → h.get? b = some x → h'.get? b = some x) (ho : h'.get? I = some o') (ho2 : h'.get? J = some o2') :
    Rl G xs cx d ((J, o2') :: (I, o') :: fz) news σ H h' := by
  have hI := R.nw (I, o) (.tail _ (.head _))
  have hJ := R.nw (J, o2) (.head _)
  have nd : (J :: I :: ad (fz ++ news)).Nodup := R.nd
  rw [List.nodup_cons, List.nodup_cons] at nd
  obtain ⟨m, F, qf⟩ := R.fr
  have F' : Fr d.h₀ d.L h' m := ⟨F.ns.at' fun o e => k _ _ (Ne.symm hJ.2.1) (Ne.symm hI.2.1) e, fun b x e => k b x (fun q => by have := hJ.2.2; rw [← q] at this; rw [this] at e; cases e) (fun q => by have := hI.2.2; rw [← q] at this; rw [this] at e; cases e) (F.keep b x e), F.above⟩
  refine { R with fr := ⟨m, F', qf⟩, nw := fun p hp => ?_, nd := R.nd }
  rcases List.mem_cons.mp hp with rfl | hp
  · exact ⟨ho2, hJ.2⟩
  · rcases List.mem_cons.mp hp with rfl | hp
    · exact ⟨ho, hI.2⟩
    · have z := R.nw p (.tail _ (.tail _ hp))
      refine ⟨k _ _ (fun q => nd.1 (.tail _ (q ▸ List.mem_map_of_mem hp))) (fun q => nd.2.1 (q ▸ List.mem_map_of_mem hp)) z.1, z.2⟩
theorem melt {I : Addr} {o : Obj} (R : Rl G xs cx d ((I, o) :: fz) news σ H h) (he : ∀ b x, b ≠ I → h.get? b = some x → h'.get? b = some x) : Rl G xs cx d fz news σ H h' := by
  have Rt := R.thaw
  obtain ⟨m, F, qf⟩ := Rt.fr
  have hIn := R.nw (I, o) (.head _)
  refine Rt.same ⟨F.ns.at' fun o e => he _ _ (Ne.symm hIn.2.1) e, fun b x e => he b x (fun q => by have := hIn.2.2; rw [← q, e] at this; cases this) (F.keep b x e), F.above⟩ qf fun p hp => ?_
  have nd : (I :: ad (fz ++ news)).Nodup := R.nd
  rw [List.nodup_cons] at nd
  exact ⟨he _ _ (fun q => nd.1 (q ▸ List.mem_map_of_mem hp)) (Rt.nw p hp).1, (Rt.nw p hp).2⟩
/-- the same, whatever becomes of a new address -/
theorem upx (R : Rl G xs cx d fz news σ H h) (k : Heap.ExtBut h.objs.size h h') : Rl G xs cx d fz news σ H h' := R.up (Up.of_ext k)
end Rl

section
variable {G : Gx} {cs : Scope} {xs : List Str} {cx : List (Str × Nat)} {n : Nat} {Qn : List MV → List MO → Prop} {Qr : MV → List MO → Prop} {σ : List MV} {H : List MO} {pos p tp : Pos}

theorem WS_forE (go : GOk G) {x y : Str} {px py rp : Pos} {k : Nat} {e : Expr} {body : List Stmt}
    (hk : cs.names.lookup (Str.ofString "enumerate") = some .globalImplicit)
    (h : WE G cs xs cx n e (fun v H1 => ∃ j l, v = .ref j ∧ H1[j]? = some (.list l) ∧ WForE G cs xs cx n x y body (fun H' => H'[j]? = some (.list l)) Qn Qr 0 l σ H1) σ H)
    (he : ∀ env, starEach [e] env = (false, eval e env) :: starEach [] env := by intro _; rfl)
    (hc : ∀ env, eval (.Call (.Name (Str.ofString "enumerate") rp) [e] [] p) env = (do callWith p (← eval (.Name (Str.ofString "enumerate") rp) env) [] (backTo p (starEach [e] env)) (backToKw p (keywordEach [] env))) := by intro _; rfl)
    (hf : ∀ env v, foldedSetIterable (.Call (.Name (Str.ofString "enumerate") rp) [e] [] p) env v = pure v := by intro _ _; rfl) :
    WS G cs xs cx n (.For (.Tuple [.Name x px, .Name y py] k tp) (.Call (.Name (Str.ofString "enumerate") rp) [e] [] p) body [] pos) Qn Qr σ H := by
  intro ok d A E s fz news hd ha R
  refine wpAny_For (Call_ (name_bi (by simp) go boot_enum hk ok hd R ?_) (hc _)) (hf _)
  refine PyProof.Rows.callWith_type1 (args_cons (ep_mono (h ok d A E s fz news hd ha R) fun v H1 n1 u s1 R1 g1 vv h1 => args_nil ?_) (he _)) (he _) rfl
  refine cps fun zP zh => ?_
  obtain ⟨j, l, rfl, hj, hW⟩ := h1
  obtain ⟨a, vs, c, rfl, e1, e2, e3, e4⟩ := R1.list_ hj vv
  refine zh ?_
  clear zh zP
  refine call_enumerate_list e3 fun h' hen hit hsz hup => ?_
  have fresh : ∀ b, s1.heap.objs.size ≤ b → s1.heap.get? b = Option.none := fun b hb => by
    cases e : s1.heap.get? b with
    | none => rfl
    | some o' => exact absurd (Nat.lt_of_lt_of_le (Heap.lt_size e) hb) (Nat.lt_irrefl _)
  obtain ⟨oit, hoit, rit⟩ := id hit
  have R2 := R1.freeze2 hup (fresh s1.heap.objs.size (Nat.le_refl _)) (fresh (s1.heap.objs.size + 1) (Nat.le_succ _)) (Nat.succ_ne_self _) hoit hen
  refine wpAny_pyIter_enum hen ?_
  have hne : s1.heap.objs.size + 1 ≠ s1.heap.objs.size := Nat.succ_ne_self _
  generalize s1.heap.objs.size + 1 = J at R2 hen hne ⊢
  generalize s1.heap.objs.size = I at R2 hen hit hoit hne ⊢
  refine codeAny_forLoop_any (fun m s' => ∃ i o o2 old σ' H' n', m = l.length + 1 - i ∧ i ≤ l.length ∧ IsEnum s'.heap J I ((i : Nat) : Int) old ∧ s'.heap.IsListIter I a i ∧ Rl G xs cx d ((J, o2) :: (I, o) :: fz) n' σ' H' s'.heap ∧ Gr s1 n1 s' n' ∧
      WForE G cs xs cx n x y body (fun H' => H'[j]? = some (.list l)) Qn Qr i (l.drop i) σ' H')
    ?_ (l.length + 1 - 0) ⟨0, _, _, _, σ, H1, n1, rfl, Nat.zero_le _, hen, hit, R2, Gr.same s1 _ s1.toks n1, hW⟩
  intro m s' zq
  refine cps fun zP zh => ?_
  obtain ⟨i, o, o2, old, σ', H', n', rfl, hi, hen', hit', R', g', w⟩ := zq
  refine zh ?_
  clear zh zP
  have hj' : H'[j]? = some (.list l) := w.inv
  obtain ⟨a', vs', c', ea, f1, f2, f3, f4⟩ := R'.list_ hj' (vv.mono g'.pre)
  cases ea
  cases hd' : l.drop i with
  | nil =>
    have hli : l.length ≤ i := List.drop_eq_nil_iff.mp hd'
    rw [hd'] at w
    refine wpAny_pyNext_enum_end ha.hh hen' hit' f3 (by rw [List.getElem?_toArray]; exact List.getElem?_eq_none (by rw [← f4.length]; exact hli)) fun h' he => wpAny_execs_nil ?_
    exact .inl ⟨rfl, σ', H', n', R'.thaw.melt (fun b x hb e => he b x hb e), (g1.trans g').trans (Gr.same s' h' s'.toks n'), w.2⟩
  | cons v r =>
    refine cps fun zP zh => ?_
    obtain ⟨hv, hr, hlt⟩ := drop_cons hd'
    rw [hd'] at w
    obtain ⟨b, hb, vb⟩ := f4.get hv
    have hJs : J < s'.heap.objs.size := Heap.lt_size hen'
    obtain ⟨oi', hoi', _⟩ := id hit'
    refine zh ?_
    clear zh zP
    have hIs : I < s'.heap.objs.size := Heap.lt_size hoi'
    refine wpAny_pyNext_enum_item hen' hit' f3 (by rw [List.getElem?_toArray]; exact hb) hne fun h' heo hit2 ht hz hk' => ?_
    refine wpAny_letOwnedTupleGo_enum heo fun h2 he2 hs2 => ?_
    replace hs2 : Heap.SameBut J h' h2 := hs2
    obtain ⟨oI, hoI, rI⟩ := id hit2
    have hIt : h2.IsListIter I a (i + 1) := hit2.extBut hs2.extBut (Ne.symm hne)
    obtain ⟨oI2, hoI2, rI2⟩ := id hIt
    have R3 := R'.refreeze2 (h' := h2) (fun b x hb1 hb2 e => hs2.extBut b x hb1 (hk' b x hb1 hb2 e)) hoI2 he2
    obtain ⟨_, σ1, σ2, hs1, hs3, hb1⟩ := w
    have htup : h2.IsTuple s'.heap.objs.size #[.int ((i : Nat) : Int) s'.toks, b] := ⟨_, (hs2.2 _ (Nat.ne_of_gt hJs)).trans ht, rfl, _, rfl⟩
    refine pair_ (s := { s' with heap := h2, toks := s'.toks + 1 }) ok hd ha.hh R3 htup rfl hs1 hs3 (vr_int _ _) vb fun h3 tk R4 => ?_
    refine wpAny_mono (hb1 ok d A _ { s' with heap := h3, toks := tk } _ n' hd ha R4) (fun f s3 hf => ?_) fun _ _ e => e
    have gg := g'.trans (Gr.same s' h3 tk n')
    rcases hf with ⟨rfl, σ3, H3, n3, R5, g5, q⟩ | ⟨v', mv, σ3, H3, n3, rfl, R5, g5, vv', q⟩
    · refine ⟨l.length + 1 - (i + 1), by omega, i + 1, oI2, _, b, σ3, H3, n3, rfl, hlt, ?_, ?_, R5, gg.trans g5, hr ▸ q⟩
      · have e : ((i + 1 : Nat) : Int) = (i : Int) + 1 := by push_cast; rfl
        have := R5.ice
        show IsEnum s3.heap J I ((i + 1 : Nat) : Int) b
        rw [e]; exact this
      · exact ⟨oI2, R5.thaw.ice, rI2⟩
    · exact .inr ⟨v', mv, σ3, H3, n3, rfl, R5.thaw.thaw, (g1.trans gg).trans g5, vv', q⟩
end
end Mine
namespace Mine

theorem slot_app {ps rest : List Str} : ∀ {args : List MV} {x : Str} {v : MV}, ps.length = args.length → SlotV (ps ++ rest) (args ++ rest.map fun _ => MV.unb) x v → v ≠ .unb → SlotV ps args x v := by
  induction ps with
  | nil =>
    intro args x v hl h hv
    cases args with
    | cons _ _ => simp at hl
    | nil =>
      simp only [List.nil_append] at h
      exfalso
      clear hl
      induction rest with
      | nil => cases h
      | cons y r ih =>
        cases h with
        | here => exact hv rfl
        | there h => exact ih h
  | cons p ps ih =>
    intro args x v hl h hv
    cases args with
    | nil => simp at hl
    | cons a args =>
      cases h with
      | here => exact .here
      | there h => exact .there (ih (by simpa using hl) h hv)
theorem slot_zip {R : MV → Value → Prop} {ps : List Str} : ∀ {args : List MV} {vals : List Value} {x : Str} {v : MV}, SlotV ps args x v → All2 R args vals → ∃ u, (x, u) ∈ ps.zip vals ∧ R v u := by
  induction ps with
  | nil => intro args vals x v h _; cases h
  | cons p ps ih =>
    intro args vals x v h ha
    cases h with
    | here =>
      cases ha with
      | cons r _ => exact ⟨_, .head _, r⟩
    | there h =>
      cases ha with
      | cons _ r =>
        obtain ⟨u, hu, hr⟩ := ih h r
        exact ⟨u, .tail _ hu, hr⟩
theorem zip_keys {ps : List Str} : ∀ {vals : List Value}, ps.length = vals.length → (ps.zip vals).map Prod.fst = ps := by
  induction ps with
  | nil => intro vals h; rfl
  | cons p ps ih =>
    intro vals h
    cases vals with
    | nil => simp at h
    | cons v vals => simp only [List.zip_cons_cons, List.map_cons]; rw [ih (by simpa using h)]

theorem look_nodup {l : List (Str × Value)} {x : Str} {w : Value} (nd : (l.map Prod.fst).Nodup) (h : (x, w) ∈ l) : l.lookup x = some w := by
  induction l with
  | nil => cases h
  | cons p l ih =>
    obtain ⟨y, u⟩ := p
    simp only [List.map_cons, List.nodup_cons] at nd
    cases h with
    | head => simp
    | tail _ h =>
      have hne : x ≠ y := fun e => nd.1 (e ▸ List.mem_map_of_mem (f := Prod.fst) h)
      rw [List.lookup_cons]
      have : (x == y) = false := by simpa using hne
      rw [this]
      exact ih nd.2 h

section
variable {G : Gx} {n : Nat} {Q : MV → List MO → Prop} {H : List MO}

structure FnFacts (r : DefRec) (ps rest : List Str) : Prop where
  ok : FnOk r.scope (ps ++ rest)
  bind : ∀ pm code doc (vals : List Value), vals.length = ps.length → bindArgs (docDef r.name r.params r.body r.scope pm code doc) ⟨vals, []⟩ = pure (ps.zip vals)
  co : r.scope.isCoroutine = false
  gen : r.scope.isGenerator = false

theorem WC_defN {r : DefRec} {ps rest : List Str} {args : List MV} (ff : FnFacts r ps rest) (hm : r ∈ recsOf G.p) (hl : ps.length = args.length) (hcell : ∀ x ∈ r.scope.names, x.2 ≠ .cell)
    (body : WSs G r.scope (ps ++ rest) [] n r.body (fun _ H' => Q .none H') Q (args ++ rest.map fun _ => MV.unb) H) : WC G (n + 1) (.fn r.name) args Q H := by
  intro cs xs cx σ ok d A E s fz news u vals hd ha R vf va
  obtain ⟨_, f, e1, rfl⟩ := vf
  obtain ⟨a', o, pm, code, doc, h1, h2, h3, h4⟩ := R.top.fn r hm
  rw [e1] at h1; cases h1
  obtain ⟨m, F, qf⟩ := R.fr
  have hk : d.env.scope.kind = .function := by subst hd; exact ok.kind
  have hvl : vals.length = ps.length := by rw [← va.length, hl]
  refine wpAny_call (callX_plain (env := d.env) (cl := []) (name := r.name) (qual := r.name) (params := r.params) (body := r.body) (scope := r.scope) (dV := .none) (kV := .none) (doc := doc) (pm := pm) (an := Option.none) (cdv := code) (ct := .none)
    R.bel F R.nw R.top.nolimit (ha.fr (by omega)).1 (ha.fr (by omega)).2 hk (F.keep _ _ h2) h3 (h4.keeps F.keep) (by have := ha.dp; simp only [recursionLimit]; omega)
    (BindsTo.of_eq (ff.bind pm code doc vals hvl)) (fun y hy => (ff.ok.loc y.1 (by
      have : y.1 ∈ (ps.zip vals).map Prod.fst := List.mem_map_of_mem hy
      rw [zip_keys hvl.symm] at this
      exact List.mem_append_left _ this)).1) (fun g L' h₁ FG F' N' B' st lt => ?_) hcell ff.co ff.gen ff.ok.kind)
  let d' : Fd := { A₀ := A, base := d.base, outer := d.env :: d.outer, h₀ := g, L := L', cs := r.scope, ccd := code, cl := [], qu := r.name ++ ".<locals>.", fu := some f, fm := some L' }
  have ndp : ps.Nodup := (List.nodup_append.mp ff.ok.nd).1
  have R' : Rl G (ps ++ rest) [] d' fz news (args ++ rest.map fun _ => MV.unb) H h₁ := by
    refine ⟨B', R.top.keeps st, ⟨_, F', fun x v sv hv => ?_⟩, N', R.hr, R.nd, fun x i hx => by cases hx⟩
    obtain ⟨w, hw, hr⟩ := slot_zip (slot_app hl sv hv) va
    refine ⟨w, look_nodup ?_ (List.mem_reverse.mpr hw), hr⟩
    rw [List.map_reverse]
    refine (List.pairwise_reverse.mpr (List.Pairwise.imp (fun h => Ne.symm h) ?_))
    show ((ps.zip vals).map Prod.fst).Nodup
    rw [zip_keys hvl.symm]; exact ndp
  have ha' : AOk n d' (A.deeper d'.env) := ⟨ha.hh, fun _ => ⟨by show A.frames.map _ = _; rw [(ha.fr (by omega)).1]; rfl, rfl⟩, by have := ha.dp; show A.depth + 1 + n ≤ 900; omega, by have := ha.un; show A.units + 3 + 10 * n ≤ 9800; omega⟩
  refine wpAny_mono (body ff.ok d' (A.deeper d'.env) _ { s with heap := h₁, toks := s.toks + (ps.zip vals).length } fz news rfl ha' R') (fun fl s' hf => ?_) fun _ _ e => e
  have fin : ∀ (v : Value) (mv : MV) σ' H' n', Rl G (ps ++ rest) [] d' fz n' σ' H' s'.heap → Gr { s with heap := h₁, toks := s.toks + (ps.zip vals).length } news s' n' → VR G (ad n') mv v → Q mv H' →
      LeaveK d.h₀ d.L m g (fun r s' => match r with | .ok (.ret v) => EP G xs cx d fz s news σ VR Q v s' | .ok _ => False | .error e => E e s') v s' := by
    intro v mv σ' H' n' R2 g2 vv q
    obtain ⟨m2, F2, qf2⟩ := R2.fr
    refine leaveK_ F2 R2.nw fun F3 N3 => ?_
    have g3 : Gr s news s' n' := ⟨g2.gens, g2.drawn, g2.os, g2.pre⟩
    refine ⟨mv, H', n', ⟨R.bel, R.top, ⟨m, F3, fun x v sv hv => ?_⟩, N3, R2.hr, R2.nd, fun x i hx => ?_⟩, g3, vv, q⟩
    · obtain ⟨u', e, rr⟩ := qf x v sv hv
      exact ⟨u', e, rr.mono g3.pre⟩
    · obtain ⟨c, e2, e3⟩ := R.cells x i hx
      exact ⟨c, e2, pre_get g3.pre e3⟩
  rcases hf with ⟨rfl, σ', H', n', R2, g2, q⟩ | ⟨v, mv, σ', H', n', rfl, R2, g2, vv, q⟩
  · exact fin .none .none _ _ _ R2 g2 rfl q
  · exact fin _ _ _ _ _ R2 g2 vv q
theorem WC_def {r : DefRec} {ps rest : List Str} {args : List MV} (ff : FnFacts r ps rest) (hm : r ∈ recsOf G.p) (hl : ps.length = args.length) (hcell : ∀ x ∈ r.scope.names, x.2 ≠ .cell)
    (body : WSs G r.scope (ps ++ rest) [] n r.body (fun _ _ => False) Q (args ++ rest.map fun _ => MV.unb) H) : WC G (n + 1) (.fn r.name) args Q H := by
  refine WC_defN ff hm hl hcell ?_
  intro ok d A E s fz news hd ha R
  refine wpAny_mono (body ok d A E s fz news hd ha R) (fun f s' hf => ?_) fun _ _ e => e
  rcases hf with ⟨_, _, _, _, _, _, q⟩ | h
  · exact q.elim
  · exact .inr h
end
end Mine
namespace Mine

abbrev nL (l : List Nat) : List MV := l.map fun (n : Nat) => MV.int (n : Int)
theorem nL_iL (l : List Nat) : nL l = iL (l.map fun (n : Nat) => (n : Int)) := by simp [nL, iL]

theorem rangeL_succ (a c : Int) (n : Nat) : rangeL a c (n + 1) = MV.int a :: rangeL (a + c) c n := by
  unfold rangeL
  rw [List.range_succ_eq_map, List.map_cons, List.map_map]
  congr 1
  · simp
  · apply List.map_congr_left
    intro i _
    simp only [Function.comp]
    congr 1
    push_cast
    rw [Int.add_mul, Int.one_mul]
    omega
theorem rangeL_zero (a c : Int) : rangeL a c 0 = [] := rfl
theorem rangeL_down (m : Nat) : rangeL (((m + 1 : Nat) : Int) - 1) (-1) (m + 1) = MV.int (m : Int) :: rangeL ((m : Int) - 1) (-1) m := by
  rw [rangeL_succ]
  congr 2 <;> omega

section
variable {G : Gx} {cs : Scope} {xs : List Str} {cx : List (Str × Nat)} {n : Nat} {Q : MV → List MO → Prop} {QB : Bool → List MO → Prop} {Qn : List MV → List MO → Prop} {Qr : MV → List MO → Prop} {σ : List MV} {H J : List MO} {pos p tp : Pos} {x : Str} {e : Expr}

theorem WS_expr (h : WE G cs xs cx n e (fun _ H1 => Qn σ H1) σ H) (hi : ∀ env : Env, env.scope = cs → interactive env = false) (hs : ∀ env, swapsWith e Option.none pos.line env = pure false) : WS G cs xs cx n (.Expr e pos) Qn Qr σ H := by
  intro ok d A E s fz news hd ha R
  exact wpAny_Expr_any (ep_mono (h ok d A E s fz news hd ha R) fun v H1 n1 u s1 R1 g1 vv h1 => .inl ⟨rfl, σ, H1, n1, R1, g1, h1⟩) (hi _ hd) (hs _)
theorem WS_iadd {a : Int} (hv : SlotV xs σ x (.int a)) (h : WE G cs xs cx n e (fun b H1 => ∃ k, b = .int k ∧ ∃ σ', SlotS xs σ x (.int (a + k)) σ' ∧ Qn σ' H1) σ H) : WS G cs xs cx n (.AugAssign (.Name x p) .Add e pos) Qn Qr σ H := by
  refine WS_aug hv (by nofun) (fun ok d A E s fz news hd ha R => ep_mono (h ok d A E s fz news hd ha R) fun b H1 n1 u s1 R1 g1 vb ⟨k, hb, σ', hs, q⟩ => ⟨b, H1, n1, R1, g1, vb, (· + ·), a, k, σ', rfl, hb, fun A E s P t u hP => ?_, hs, q⟩)
  exact PyProof.Rows.iadd_int hP
theorem WS_isub {a : Int} (hv : SlotV xs σ x (.int a)) (h : WE G cs xs cx n e (fun b H1 => ∃ k, b = .int k ∧ ∃ σ', SlotS xs σ x (.int (a - k)) σ' ∧ Qn σ' H1) σ H) : WS G cs xs cx n (.AugAssign (.Name x p) .Sub e pos) Qn Qr σ H := by
  refine WS_aug hv (by nofun) (fun ok d A E s fz news hd ha R => ep_mono (h ok d A E s fz news hd ha R) fun b H1 n1 u s1 R1 g1 vb ⟨k, hb, σ', hs, q⟩ => ⟨b, H1, n1, R1, g1, vb, (· - ·), a, k, σ', rfl, hb, fun A E s P t u hP => ?_, hs, q⟩)
  exact PyProof.Rows.isub_int hP
theorem WS_ior {a : Int} (hv : SlotV xs σ x (.int a)) (h : WE G cs xs cx n e (fun b H1 => ∃ k, b = .int k ∧ ∃ σ', SlotS xs σ x (.int (Builtin.bitOr a k)) σ' ∧ Qn σ' H1) σ H) : WS G cs xs cx n (.AugAssign (.Name x p) .BitOr e pos) Qn Qr σ H := by
  refine WS_aug hv (by nofun) (fun ok d A E s fz news hd ha R => ep_mono (h ok d A E s fz news hd ha R) fun b H1 n1 u s1 R1 g1 vb ⟨k, hb, σ', hs, q⟩ => ⟨b, H1, n1, R1, g1, vb, Builtin.bitOr, a, k, σ', rfl, hb, fun A E s P t u hP => ?_, hs, q⟩)
  exact PyProof.Rows.ior_int hP
theorem WS_ishr {a : Int} (hv : SlotV xs σ x (.int a)) (h : WE G cs xs cx n e (fun b H1 => ∃ k, b = .int k ∧ 0 ≤ k ∧ ∃ σ', SlotS xs σ x (.int (a.fdiv (2 ^ k.toNat))) σ' ∧ Qn σ' H1) σ H) : WS G cs xs cx n (.AugAssign (.Name x p) .RShift e pos) Qn Qr σ H := by
  refine WS_aug hv (by nofun) (fun ok d A E s fz news hd ha R => ep_mono (h ok d A E s fz news hd ha R) fun b H1 n1 u s1 R1 g1 vb ⟨k, hb, h0, σ', hs, q⟩ => ⟨b, H1, n1, R1, g1, vb, (fun a k => a.fdiv (2 ^ k.toNat)), a, k, σ', rfl, hb, fun A E s P t u hP => ?_, hs, q⟩)
  exact PyProof.Rows.irshift_int h0 hP
theorem WS_imod {a : Int} (hv : SlotV xs σ x (.int a)) (h : WE G cs xs cx n e (fun b H1 => ∃ k, b = .int k ∧ k ≠ 0 ∧ ∃ σ', SlotS xs σ x (.int (a.fmod k)) σ' ∧ Qn σ' H1) σ H) : WS G cs xs cx n (.AugAssign (.Name x p) .Mod e pos) Qn Qr σ H := by
  refine WS_aug hv (by nofun) (fun ok d A E s fz news hd ha R => ep_mono (h ok d A E s fz news hd ha R) fun b H1 n1 u s1 R1 g1 vb ⟨k, hb, h0, σ', hs, q⟩ => ⟨b, H1, n1, R1, g1, vb, Int.fmod, a, k, σ', rfl, hb, fun A E s P t u hP => ?_, hs, q⟩)
  exact PyProof.Rows.imod_int h0 hP

theorem hget_old {H J : List MO} {i : Nat} {o : MO} (h : H[i]? = some o) : (H ++ J)[i]? = some o := by
  rw [List.getElem?_append_left (List.getElem?_eq_some_iff.mp h).1]; exact h
theorem hget_new {H : List MO} {o : MO} : (H ++ [o])[H.length]? = some o := by simp
theorem hset_new {H : List MO} {o o' : MO} : (H ++ [o]).set H.length o' = H ++ [o'] := by simp

theorem ex_slot {v : MV} {σ' : List MV} {P : List MV → Prop} (hs : SlotS xs σ x v σ') (h : P σ') : ∃ σ', SlotS xs σ x v σ' ∧ P σ' := ⟨σ', hs, h⟩
theorem ex_int {k : Int} {P : Int → Prop} (h : P k) : ∃ j, MV.int k = .int j ∧ P j := ⟨k, rfl, h⟩
theorem ex_bool {k : Bool} {P : Bool → Prop} (h : P k) : ∃ j, MV.bool k = .bool j ∧ P j := ⟨k, rfl, h⟩
theorem ex_fn {k : Str} {P : Str → Prop} (h : P k) : ∃ j, MV.fn k = .fn j ∧ P j := ⟨k, rfl, h⟩
theorem WWh_succ {t : Expr} {b : List Stmt} {k : Nat} (h : WT G cs xs cx n t (fun c H1 => (c = true → WSs G cs xs cx n b (fun σ' H' => WWh G cs xs cx n t b Qn Qr k σ' H') Qr σ H1) ∧ (c = false → Qn σ H1)) σ H) : WWh G cs xs cx n t b Qn Qr (k + 1) σ H := h

/-- a, b = e1, e2 and the like, local names; the tuple is let go -/
theorem WS_tupSw {elts es : List Expr} {k k' : Nat} {vp : Pos} {names : List Str} (h : WEs G cs xs cx n es (fun vs H1 => vs.length ≤ 1000 ∧ names.length = vs.length ∧ ∃ σ', Stores xs names.reverse vs.reverse σ σ' ∧ Qn σ' H1) σ H)
    (hw : ∀ env : Env, env.scope = cs → swappedStores [.Tuple elts k tp] (.Tuple es k' vp) env = pure (some names)) (hs : ∀ env, swapsWithSole [.Tuple elts k tp] (.Tuple es k' vp) pos.line env = pure false) :
    WS G cs xs cx n (.Assign [.Tuple elts k tp] (.Tuple es k' vp) pos) Qn Qr σ H := by
  intro ok d A E s fz news hd ha R
  refine Assign_Tuple_swapped (wpAny_Tuple (ep_mono (h vp ok d A E s fz news hd ha R) fun vs H1 n1 us s1 R1 g1 vvs h1 => ?_)) (hs _) (hw _ hd)
  obtain ⟨hz, hl, σ', hst, q⟩ := h1
  refine ⟨by rw [← vvs.length, sizeLine_eq]; omega, ?_⟩
  have R2 := R1.up (Up.push s1.heap { cls := .type "tuple", data := .seq us.toArray })
  have ht : Heap.IsTuple (s1.heap.push { cls := .type "tuple", data := .seq us.toArray }) s1.heap.objs.size us.toArray := ⟨_, Heap.get?_push_size _ rfl, rfl, _, rfl⟩
  have el : names.length = us.toArray.size := by rw [hl, vvs.length]; simp
  rw [el]
  refine wpAny_unpackItems_tuple (s := { s1 with heap := s1.heap.push { cls := .type "tuple", data := .seq us.toArray } }) ha.hh ht fun h' he => ?_
  have R3 := R2.up (Up.of_ext he)
  have e3' : All2 (VR G (ad n1)) vs.reverse us.toArray.toList.reverse := by simpa using vvs.reverse
  exact binds_ ok hd hst (s := { s1 with heap := h' }) R3 e3' fun h'' tk R'' => .inl ⟨rfl, σ', H1, n1, R'', g1.trans (Gr.same s1 h'' tk n1), q⟩
theorem WS_tuple2 {x y : Str} {px py tp vp : Pos} {k k' : Nat} {e1 e2 : Expr} (h : WE G cs xs cx n e1 (fun a H1 => WE G cs xs cx n e2 (fun b H2 => ∃ σ1, SlotS xs σ y b σ1 ∧ ∃ σ', SlotS xs σ1 x a σ' ∧ Qn σ' H2) σ H1) σ H)
    (hw : ∀ env : Env, env.scope = cs → swappedStores [.Tuple [.Name x px, .Name y py] k tp] (.Tuple [e1, e2] k' vp) env = pure (some [x, y])) (hs : ∀ env, swapsWithSole [.Tuple [.Name x px, .Name y py] k tp] (.Tuple [e1, e2] k' vp) pos.line env = pure false)
    (he : ∀ env, starEach [e1, e2] env = (false, eval e1 env) :: starEach [e2] env) (he' : ∀ env, starEach [e2] env = (false, eval e2 env) :: starEach [] env) :
    WS G cs xs cx n (.Assign [.Tuple [.Name x px, .Name y py] k tp] (.Tuple [e1, e2] k' vp) pos) Qn Qr σ H := by
  refine WS_tupSw (WEs_cons ?_ he) hw hs
  intro ok d A E s fz news hd ha R
  refine ep_mono (h ok d A E s fz news hd ha R) fun a H1 n1 u s1 R1 g1 va h1 => ⟨a, H1, n1, R1, g1, va, WEs_cons ?_ he'⟩
  intro ok d A E s fz news hd ha R
  refine ep_mono (h1 ok d A E s fz news hd ha R) fun b H2 n2 u s2 R2 g2 vb h2 => ⟨b, H2, n2, R2, g2, vb, WEs_nil ?_⟩
  obtain ⟨σ1, s1, σ', s2, q⟩ := h2
  exact ⟨by simp, rfl, σ', .cons s1 (.cons s2 .nil), q⟩
theorem WS_tuple3 {x y z : Str} {px py pz tp vp : Pos} {k k' : Nat} {e1 e2 e3 : Expr} (h : WE G cs xs cx n e1 (fun a H1 => WE G cs xs cx n e2 (fun b H2 => WE G cs xs cx n e3 (fun c H3 => ∃ σ1, SlotS xs σ z c σ1 ∧ ∃ σ2, SlotS xs σ1 y b σ2 ∧ ∃ σ', SlotS xs σ2 x a σ' ∧ Qn σ' H3) σ H2) σ H1) σ H)
    (hw : ∀ env : Env, env.scope = cs → swappedStores [.Tuple [.Name x px, .Name y py, .Name z pz] k tp] (.Tuple [e1, e2, e3] k' vp) env = pure (some [x, y, z])) (hs : ∀ env, swapsWithSole [.Tuple [.Name x px, .Name y py, .Name z pz] k tp] (.Tuple [e1, e2, e3] k' vp) pos.line env = pure false)
    (he : ∀ env, starEach [e1, e2, e3] env = (false, eval e1 env) :: starEach [e2, e3] env) (he' : ∀ env, starEach [e2, e3] env = (false, eval e2 env) :: starEach [e3] env) (he2 : ∀ env, starEach [e3] env = (false, eval e3 env) :: starEach [] env) :
    WS G cs xs cx n (.Assign [.Tuple [.Name x px, .Name y py, .Name z pz] k tp] (.Tuple [e1, e2, e3] k' vp) pos) Qn Qr σ H := by
  refine WS_tupSw (WEs_cons ?_ he) hw hs
  intro ok d A E s fz news hd ha R
  refine ep_mono (h ok d A E s fz news hd ha R) fun a H1 n1 u s1 R1 g1 va h1 => ⟨a, H1, n1, R1, g1, va, WEs_cons ?_ he'⟩
  intro ok d A E s fz news hd ha R
  refine ep_mono (h1 ok d A E s fz news hd ha R) fun b H2 n2 u s2 R2 g2 vb h2 => ⟨b, H2, n2, R2, g2, vb, WEs_cons ?_ he2⟩
  intro ok d A E s fz news hd ha R
  refine ep_mono (h2 ok d A E s fz news hd ha R) fun c H3 n3 u s3 R3 g3 vc h3 => ⟨c, H3, n3, R3, g3, vc, WEs_nil ?_⟩
  obtain ⟨σ1, s1, σ2, s2, σ', s3, q⟩ := h3
  exact ⟨by simp, rfl, σ', .cons s1 (.cons s2 (.cons s3 .nil)), q⟩

theorem WSs_mono {b : List Stmt} {Qn' : List MV → List MO → Prop} (h : WSs G cs xs cx n b Qn Qr σ H) (k : ∀ σ H, Qn σ H → Qn' σ H) : WSs G cs xs cx n b Qn' Qr σ H := by
  intro ok d A E s fz news hd ha R
  refine wpAny_mono (h ok d A E s fz news hd ha R) (fun f s' hf => ?_) fun _ _ e => e
  rcases hf with ⟨rfl, σ', H', n', R', g', q⟩ | h
  · exact .inl ⟨rfl, σ', H', n', R', g', k _ _ q⟩
  · exact .inr h
theorem WS_mono {b : Stmt} {Qn' : List MV → List MO → Prop} (h : WS G cs xs cx n b Qn Qr σ H) (k : ∀ σ H, Qn σ H → Qn' σ H) : WS G cs xs cx n b Qn' Qr σ H := by
  intro ok d A E s fz news hd ha R
  refine wpAny_mono (h ok d A E s fz news hd ha R) (fun f s' hf => ?_) fun _ _ e => e
  rcases hf with ⟨rfl, σ', H', n', R', g', q⟩ | h
  · exact .inl ⟨rfl, σ', H', n', R', g', k _ _ q⟩
  · exact .inr h
/-- a cut behind the first statement -/
theorem WSs_cut {st : Stmt} {rest : List Stmt} (I : List MV → List MO → Prop) (h1 : WS G cs xs cx n st I Qr σ H) (h2 : ∀ σ H, I σ H → WSs G cs xs cx n rest Qn Qr σ H) : WSs G cs xs cx n (st :: rest) Qn Qr σ H :=
  WSs_cons (WS_mono h1 h2)
theorem WT_mono {t : Expr} {QB' : Bool → List MO → Prop} (h : WT G cs xs cx n t QB σ H) (k : ∀ b H, QB b H → QB' b H) : WT G cs xs cx n t QB' σ H := by
  intro ok d A E s fz news hd ha R
  exact ep_mono (h ok d A E s fz news hd ha R) fun b H1 n1 u s1 R1 g1 vb q => ⟨b, H1, n1, R1, g1, vb, k _ _ q⟩
/-! loops by what holds of them -/
theorem WFor1_up {b : List Stmt} (I : Nat → List MV → List MO → Prop) {a m : Nat} (start : I a σ H)
    (step : ∀ k σ H, a ≤ k → k < a + m → I k σ H → ∃ σ1, SlotS xs σ x (.int (k : Int)) σ1 ∧ WSs G cs xs cx n b (fun σ' H' => I (k + 1) σ' H') Qr σ1 H)
    (fin : ∀ σ H, I (a + m) σ H → Qn σ H) : WFor1 G cs xs cx n x b (fun _ => True) Qn Qr (rangeL (a : Int) 1 m) σ H := by
  induction m generalizing a σ H with
  | zero => exact ⟨trivial, fin _ _ start⟩
  | succ m ih =>
    rw [rangeL_succ]
    obtain ⟨σ1, h1, h2⟩ := step a σ H (Nat.le_refl _) (by omega) start
    refine ⟨trivial, σ1, h1, WSs_mono h2 fun σ' H' hI => ih (a := a + 1) hI (fun k σ H h3 h4 => step k σ H (by omega) (by omega)) fun σ H hI => fin σ H ?_⟩
    rw [show a + (m + 1) = a + 1 + m by omega]; exact hI
theorem WFor1_down {b : List Stmt} (I : Nat → List MV → List MO → Prop) {m : Nat} (start : I m σ H)
    (step : ∀ k σ H, k < m → I (k + 1) σ H → ∃ σ1, SlotS xs σ x (.int (k : Int)) σ1 ∧ WSs G cs xs cx n b (fun σ' H' => I k σ' H') Qr σ1 H)
    (fin : ∀ σ H, I 0 σ H → Qn σ H) : WFor1 G cs xs cx n x b (fun _ => True) Qn Qr (rangeL ((m : Int) - 1) (-1) m) σ H := by
  induction m generalizing σ H with
  | zero => exact ⟨trivial, fin _ _ start⟩
  | succ m ih =>
    rw [rangeL_down]
    obtain ⟨σ1, h1, h2⟩ := step m σ H (Nat.lt_succ_self _) start
    exact ⟨trivial, σ1, h1, WSs_mono h2 fun σ' H' hI => ih hI (fun k σ H h3 => step k σ H (by omega))⟩
theorem WFor1_items {b : List Stmt} {Inv : List MO → Prop} (I : List MV → List MV → List MO → Prop) {l : List MV} (start : I l σ H)
    (step : ∀ v r σ H, I (v :: r) σ H → Inv H ∧ ∃ σ1, SlotS xs σ x v σ1 ∧ WSs G cs xs cx n b (fun σ' H' => I r σ' H') Qr σ1 H)
    (fin : ∀ σ H, I [] σ H → Inv H ∧ Qn σ H) : WFor1 G cs xs cx n x b Inv Qn Qr l σ H := by
  induction l generalizing σ H with
  | nil => exact fin _ _ start
  | cons v r ih =>
    obtain ⟨h0, σ1, h1, h2⟩ := step v r σ H start
    exact ⟨h0, σ1, h1, WSs_mono h2 fun σ' H' hI => ih hI⟩
theorem WForE_items {y : Str} {b : List Stmt} {Inv : List MO → Prop} (I : Nat → List MV → List MV → List MO → Prop) {k : Nat} {l : List MV} (start : I k l σ H)
    (step : ∀ k v r σ H, I k (v :: r) σ H → Inv H ∧ ∃ σ1, SlotS xs σ x (.int (k : Int)) σ1 ∧ ∃ σ2, SlotS xs σ1 y v σ2 ∧ WSs G cs xs cx n b (fun σ' H' => I (k + 1) r σ' H') Qr σ2 H)
    (fin : ∀ k σ H, I k [] σ H → Inv H ∧ Qn σ H) : WForE G cs xs cx n x y b Inv Qn Qr k l σ H := by
  induction l generalizing k σ H with
  | nil => exact fin _ _ _ start
  | cons v r ih =>
    obtain ⟨h0, σ1, h1, σ2, h2, h3⟩ := step k v r σ H start
    exact ⟨h0, σ1, σ2, h1, h2, WSs_mono h3 fun σ' H' hI => ih hI⟩
theorem WWh_inv {t : Expr} {b : List Stmt} (I : Nat → List MV → List MO → Prop) {k : Nat} (start : I k σ H)
    (step : ∀ k σ H, I k σ H → WT G cs xs cx n t (fun c H1 => (c = true → WSs G cs xs cx n b (fun σ' H' => ∃ j, j < k ∧ I j σ' H') Qr σ H1) ∧ (c = false → Qn σ H1)) σ H) : ∃ k, WWh G cs xs cx n t b Qn Qr k σ H := by
  have all : ∀ m k σ H, k < m → I k σ H → WWh G cs xs cx n t b Qn Qr m σ H := by
    intro m
    induction m with
    | zero => intro k σ H h; omega
    | succ m ih =>
      intro k σ H hk hI
      refine WWh_succ (WT_mono (step k σ H hI) fun c H1 q => ⟨fun hc => WSs_mono (q.1 hc) fun σ' H' ⟨j, hj, hI'⟩ => ih j σ' H' (by omega) hI', q.2⟩)
  exact ⟨k + 1, all _ k σ H (Nat.lt_succ_self _) start⟩

theorem BO_mulN {a b : Int} (h : Q (.int (a * b)) H) (hb : b.natAbs < 2 ^ 60) : BO G .Mult (.int a) (.int b) Q H := BO_mul h (.of_right (intBits_le_64 (by omega) (by omega)))
theorem BO_fdivN {a b : Int} (hb : b ≠ 0) (hb' : b.natAbs < 2 ^ 60) (h : Q (.int (a.fdiv b)) H) : BO G .FloorDiv (.int a) (.int b) Q H := by
  refine BO_floordiv hb h (PyProof.noPylong_of_log2 ?_)
  have : b.natAbs.log2 < 60 := (Nat.log2_lt (by omega)).mpr hb'
  omega

theorem BO_mulZ {i k : Nat} (hl : H[i]? = some (.list [.int 0])) (hk : k ≤ 10000) (q : Q (.ref H.length) (H ++ [.list (nL (List.replicate k 0))])) : BO G .Mult (.ref i) (.int (k : Int)) Q H := by
  refine BO_mulList (l := [0]) hl (by omega) (by simp; omega) (by omega) ?_
  rw [Int.toNat_natCast]
  rw [show iL (List.replicate k [(0 : Int)]).flatten = nL (List.replicate k 0) from by simp [iL, List.flatten_replicate_singleton]]
  exact q
theorem nL_set (F : List Nat) (k x : Nat) : (nL F).set ((k : Int)).toNat (.int (x : Int)) = nL (F.set k x) := by simp
/-- an item of a list of naturals -/
theorem IX_nat {j : Nat} {A : List Nat} {k : Int} (m : Nat) (hl : H[j]? = some (.list (nL A))) (hk : k = (m : Int)) (hm : m < A.length) (hz : A.length ≤ 100000) (q : Q (.int (A.getD m 0 : Nat)) H) : IX Q H (.ref j) (.int k) := by
  subst hk
  refine .list hl (by omega) (x := .int (A.getD m 0 : Nat)) ?_ (by omega) q
  simp [hm]
theorem slice_upto {l : List MV} (m : Nat) {k : Int} (hk : k = (m : Int)) : Pick l Option.none (some k) Option.none (l.take m) := by
  subst hk
  have : Pick l Option.none (some (m : Int)) Option.none ((l.drop 0).take (min m l.length - 0)) := .run (by
    simp only [sliceBounds, Option.getD_none, show (1 : Int) > 0 by decide, if_true, if_neg (show ¬ ((m : Int) < 0) by omega)]
    congr 1
    congr 1
    omega)
  rw [List.drop_zero, Nat.sub_zero, kmk_take_min] at this
  exact this
theorem slice_all {l : List MV} : Pick l Option.none Option.none Option.none l := by
  have : Pick l Option.none Option.none Option.none ((l.drop 0).take (l.length - 0)) := .run (by
    simp only [sliceBounds, Option.getD_none, show (1 : Int) > 0 by decide, if_true]; rfl)
  simpa using this
theorem slice_run {l : List MV} (a b : Nat) {i j : Int} (hi : i = (a : Int)) (hj : j = (b : Int)) (hb : b ≤ l.length) (hab : a ≤ b) : Pick l (some i) (some j) Option.none ((l.drop a).take (b - a)) := by
  subst hi hj
  refine .run ?_
  simp only [sliceBounds, Option.getD_none, show (1 : Int) > 0 by decide, if_true, if_neg (show ¬ ((a : Int) < 0) by omega), if_neg (show ¬ ((b : Int) < 0) by omega)]
  congr 1
  · omega
  · congr 1
    omega
theorem slice_init {l : List MV} : Pick l Option.none (some (-1)) Option.none (l.take (l.length - 1)) := by
  have : Pick l Option.none (some (-1)) Option.none ((l.drop 0).take ((l.length - 1) - 0)) := .run (by
    simp only [sliceBounds, Option.getD_none, show (1 : Int) > 0 by decide, if_true, show (-1 : Int) < 0 by decide]
    congr 1
    congr 1
    omega)
  simpa using this
end
end Mine
namespace Mine
/-! list comprehensions -/
def TI (G : Gx) (cs : Scope) (xs : List Str) (cx : List (Str × Nat)) : List Expr → (Bool → List MO → Prop) → List MV → List MO → Prop
  | [], QB, _, H => QB true H
  | [c], QB, σ, H => WT G cs xs cx 0 c QB σ H
  | _, _, _, _ => False
def WCp (G : Gx) (cs : Scope) (x : Str) (cx : List (Str × Nat)) (ifs : List Expr) (elt : Expr) (H0 : List MO) (Fin : List MV → Prop) : List MV → List MV → Prop
  | [], ys => Fin ys
  | v :: r, ys => ys.length ≤ 100000 ∧ TI G cs [x] cx ifs (fun b H1 => H1 = H0 ++ [.list ys] ∧ (b = true → WE G cs [x] cx 0 elt (fun y H2 => H2 = H0 ++ [.list ys] ∧ WCp G cs x cx ifs elt H0 Fin r (ys ++ [y])) [v] (H0 ++ [.list ys])) ∧
      (b = false → WCp G cs x cx ifs elt H0 Fin r ys)) [v] (H0 ++ [.list ys])

section
variable {G : Gx} {cs : Scope} {xs : List Str} {cx : List (Str × Nat)} {n : Nat} {Q : MV → List MO → Prop} {σ : List MV} {H : List MO} {pos p tp : Pos}
theorem ti_ {ifs : List Expr} {QB : Bool → List MO → Prop} (h : TI G cs xs cx ifs QB σ H) (ok : FnOk cs xs) {d : Fd} {A : Around} {E : Value → Shared → Prop} {s : Shared} {fz news : List (Addr × Obj)} (hd : d.cs = cs) (ha : AOk 0 d A) (R : Rl G xs cx d fz news σ H s.heap) :
    wpAny (model G.prog G.w) A (forIn ifs true fun c r => if r = true then do let ok ← isTrue c d.env (eval c d.env); pure (ForInStep.yield ok) else pure (ForInStep.yield r))
      (fun b s' => ∃ H1 n1, Rl G xs cx d fz n1 σ H1 s'.heap ∧ Gr s news s' n1 ∧ QB b H1) E s := by
  match ifs, h with
  | [], h => exact wpAny_tests_nil ⟨H, news, R, Gr.refl s news, h⟩
  | [c], h =>
    refine wpAny_tests_one (ep_mono (h ok d A E s fz news hd ha R) fun c H1 n1 u s1 R1 g1 va h1 => ?_)
    obtain rfl : u = c := va
    exact ⟨H1, n1, R1, g1, h1⟩

theorem comp_loop {cs' : Scope} {x : Str} {px : Pos} {cx' : List (Str × Nat)} {iter elt : Expr} {ifs : List Expr} {scope : Scope} {H0 : List MO} {Fin : List MV → Prop} {l : List MV} (ok : FnOk cs' [x]) {d : Fd} {A : Around} {s : Shared} {fz news : List (Addr × Obj)} (hd : d.cs = cs')
    (ha : AOk 0 d A) {I D : Addr} {St : Nat → Heap → Prop} {RR : Result → Shared → Prop}
    (hfr : ∀ i h h', St i h → h.get? I = h'.get? I → St i h')
    (item : ∀ i v s' n' o σ' ys (P : Option Value → Shared → Prop) (E : Value → Shared → Prop), l[i]? = some v → St i s'.heap → Rl G [x] cx' d ((I, o) :: fz) n' σ' (H0 ++ [.list ys]) s'.heap → ad news <+: ad n' →
      (∀ u h' tk o', VR G (ad n') v u → St (i + 1) h' → h'.get? I = some o' → (∀ b y, b ≠ I → s'.heap.get? b = some y → h'.get? b = some y) → P (some u) { s' with heap := h', toks := tk }) → wpAny (model G.prog G.w) A (pyNext (.ref I)) P E s')
    (done : ∀ s' n' o σ' ys (P : Option Value → Shared → Prop) (E : Value → Shared → Prop), St l.length s'.heap → Rl G [x] cx' d ((I, o) :: fz) n' σ' (H0 ++ [.list ys]) s'.heap → ad news <+: ad n' →
      (∀ h' tk, (∀ b y, b ≠ I → s'.heap.get? b = some y → h'.get? b = some y) → P none { s' with heap := h', toks := tk }) → wpAny (model G.prog G.w) A (pyNext (.ref I)) P E s')
    {o : Obj} (st : St 0 s.heap) (R : Rl G [x] cx' d ((I, o) :: fz) news [.unb] (H0 ++ [.list []]) s.heap) (hD : (ad news)[H0.length]? = some D) (hw : WCp G cs' x cx' ifs elt H0 Fin l [])
    (fin : ∀ s' n' σ' ys, Rl G [x] cx' d fz n' σ' (H0 ++ [.list ys]) s'.heap → Gr s news s' n' → Fin ys → RR (.ok .next) s') :
    codeAny (model G.prog G.w) A (.compLoop (.ListComp elt [⟨.Name x px, iter, ifs, 0⟩] scope pos) 0 (.ref I) (.ref D) d.env) RR s := by
  refine codeAny_compLoop_tests (fun k s' => ∃ i ys o n' v0, k = l.length + 1 - i ∧ i ≤ l.length ∧ St i s'.heap ∧ Rl G [x] cx' d ((I, o) :: fz) n' [v0] (H0 ++ [.list ys]) s'.heap ∧ Gr s news s' n' ∧ WCp G cs' x cx' ifs elt H0 Fin (l.drop i) ys) ?_ (l.length + 1 - 0)
    ⟨0, [], o, news, _, rfl, Nat.zero_le _, st, R, Gr.refl s news, hw⟩
  intro k s' zq
  refine cps fun zP zh => ?_
  obtain ⟨i, ys, o, n', v0, rfl, hi, hst, R', g', hw⟩ := zq
  refine zh ?_
  clear zh zP
  cases hd' : l.drop i with
  | nil =>
    have hli : l.length ≤ i := List.drop_eq_nil_iff.mp hd'
    obtain rfl : i = l.length := Nat.le_antisymm hi hli
    rw [hd'] at hw
    refine done s' n' o _ ys _ _ hst R' g'.pre fun h' tk he => ?_
    have Rt := R'.thaw
    obtain ⟨m, F, qf⟩ := Rt.fr
    have hIn := R'.nw (I, o) (.head _)
    refine fin { s' with heap := h', toks := tk } n' [v0] ys (Rt.same ⟨F.ns.at' fun o e => he _ _ (Ne.symm hIn.2.1) e, fun b x e => he b x (fun q => by have := hIn.2.2; rw [← q, e] at this; cases this) (F.keep b x e), F.above⟩ qf fun p hp => ?_) (g'.trans (Gr.same s' h' tk n')) hw
    have nd : (I :: ad (fz ++ n')).Nodup := R'.nd
    rw [List.nodup_cons] at nd
    exact ⟨he _ _ (fun q => nd.1 (q ▸ List.mem_map_of_mem hp)) (Rt.nw p hp).1, (Rt.nw p hp).2⟩
  | cons v r =>
    obtain ⟨hv, hr, hlt⟩ := drop_cons hd'
    rw [hd'] at hw
    obtain ⟨hy, hw⟩ := hw
    refine item i v s' n' o _ ys _ _ hv hst R' g'.pre fun u h' tk o' hu hst' ho' hk' => ?_
    have R3 := R'.refreeze hk' ho'
    refine PySem.wpAny_assign_Name (store_ (s := { s' with heap := h', toks := tk }) ok hd R3 (σ' := [v]) .here hu fun h2 tk2 R4 => ?_)
    refine wpAny_mono (ti_ (s := { s' with heap := h2, toks := tk2 }) hw ok hd ha R4) (fun b s5 h5 => ?_) fun _ _ e => e
    obtain ⟨H1, n1, R5, g5, rfl, hT, hF⟩ := h5
    have st5 : St (i + 1) s5.heap := hfr _ _ _ hst' (ho'.trans R5.ice.symm)
    have gg : Gr s news s5 n1 := (g'.trans (Gr.same s' h2 tk2 n')).trans g5
    cases b with
    | false =>
      rw [if_neg (by decide)]
      exact ⟨l.length + 1 - (i + 1), by omega, i + 1, ys, o', n1, v, rfl, hlt, st5, R5, gg, hr ▸ hF rfl⟩
    | true =>
      rw [if_pos rfl]
      refine ep_mono (hT rfl ok d A _ s5 _ n1 hd ha R5) fun y H2 n2 u2 s6 R6 g6 vy h6 => ?_
      obtain ⟨rfl, hW⟩ := h6
      have gg2 := gg.trans g6
      have hl : (H0 ++ [MO.list ys])[H0.length]? = some (.list ys) := hget_new
      obtain ⟨a, vs, c, ea, f1, f2, f3, f4⟩ := R6.list_ hl ⟨D, pre_get gg2.pre hD, rfl⟩
      cases ea
      refine append_at f2 (fun h7 hs7 ho7 => ?_) ?_
      · have R7 := R6.setAt (mo := .list (ys ++ [y])) f1 hs7 ho7 ⟨vs ++ [u2], c + 1, by rw [List.push_toArray], f4.append (.cons vy .nil)⟩
        rw [hset_new] at R7
        exact ⟨l.length + 1 - (i + 1), by omega, i + 1, ys ++ [y], o', _, v, rfl, hlt, hfr _ _ _ hst' (ho'.trans R7.ice.symm), R7, gg2.trans (Gr.set s6 h7 s6.toks n2 f1), hr ▸ hW⟩
      · rw [List.size_toArray, ← f4.length, sizeLine_eq]; omega

structure CpOk (cs : Scope) (scope cs' : Scope) (x : Str) (cx cx' : List (Str × Nat)) : Prop where
  cell : ∀ y ∈ scope.names, y.2 ≠ .cell
  kind : scope.kind = .function
  names : ∀ y ∈ scope.names, y.2 = .local → scope.names.lookup y.1 = some .local
  lab : ∀ env : Env, env.scope = cs → relabel scope env = cs'
  ok : FnOk cs' [x]
  sub : ∀ y i, (y, i) ∈ cx' → (y, i) ∈ cx
  clos : ∀ env : Env, env.scope = cs → (∀ y i, (y, i) ∈ cx → ∃ c, env.cells.lookup y = some c) → ∃ cl', closureFor scope env = pure cl' ∧ ∀ y i, (y, i) ∈ cx' → cl'.lookup y = env.cells.lookup y

theorem comp_block {cs' : Scope} {x : Str} {px : Pos} {cx' : List (Str × Nat)} {iter elt : Expr} {ifs : List Expr} {scope : Scope} {H0 : List MO} {l : List MV} (co : CpOk cs scope cs' x cx cx') {d : Fd} {A : Around} {E : Value → Shared → Prop} {s0 s : Shared} {fz news0 news : List (Addr × Obj)} (hd : d.cs = cs)
    (ok : FnOk cs xs) (ha : AOk n d A) {I : Addr} {St : Nat → Heap → Prop} {cl' : List (Str × Addr)} (hcl : ∀ y i, (y, i) ∈ cx' → cl'.lookup y = d.cl.lookup y)
    (hfr : ∀ i h h', St i h → h.get? I = h'.get? I → St i h')
    (item : ∀ (d' : Fd) fz i v s' n' o σ' ys (P : Option Value → Shared → Prop) (E : Value → Shared → Prop), l[i]? = some v → St i s'.heap → Rl G [x] cx' d' ((I, o) :: fz) n' σ' (H0 ++ [.list ys]) s'.heap → ad news <+: ad n' →
      (∀ u h' tk o', VR G (ad n') v u → St (i + 1) h' → h'.get? I = some o' → (∀ b y, b ≠ I → s'.heap.get? b = some y → h'.get? b = some y) → P (some u) { s' with heap := h', toks := tk }) → wpAny (model G.prog G.w) A (pyNext (.ref I)) P E s')
    (done : ∀ (d' : Fd) fz s' n' o σ' ys (P : Option Value → Shared → Prop) (E : Value → Shared → Prop), St l.length s'.heap → Rl G [x] cx' d' ((I, o) :: fz) n' σ' (H0 ++ [.list ys]) s'.heap → ad news <+: ad n' →
      (∀ h' tk, (∀ b y, b ≠ I → s'.heap.get? b = some y → h'.get? b = some y) → P none { s' with heap := h', toks := tk }) → wpAny (model G.prog G.w) A (pyNext (.ref I)) P E s')
    (self : ∀ (d' : Fd) fz s' n' o σ' ys (P : Value → Shared → Prop) (E : Value → Shared → Prop), St 0 s'.heap → Rl G [x] cx' d' ((I, o) :: fz) n' σ' (H0 ++ [.list ys]) s'.heap → ad news <+: ad n' → P (.ref I) s' → wpAny (model G.prog G.w) A (pyIter (.ref I)) P E s')
    {o : Obj} (st : St 0 s.heap) (R : Rl G xs cx d ((I, o) :: fz) news σ H0 s.heap) (g0 : Gr s0 news0 s news) (hw : WCp G cs' x cx' ifs elt H0 (fun ys => Q (.ref H0.length) (H0 ++ [.list ys])) l []) :
    wpAny (model G.prog G.w) A (newList []) (fun acc s₃ => wpAny (model G.prog G.w) A (newFunctionEnv scope d.env.globals cl' [] d.env.qual none .none (some d.env)) (fun cenv s₄ =>
      codeAny (model G.prog G.w) A (.compStart (.ListComp elt [⟨.Name x px, iter, ifs, 0⟩] scope pos) 0 (.ref I) acc { cenv with scope := relabel scope d.env }) (compPost (model G.prog G.w) A E none (EP G xs cx d fz s0 news0 σ VR Q) acc cenv.locals) s₄) E s₃) E s := by
  refine wpAny_newObj_type (wpAny_newFunctionEnv co.cell (by intro y hy; simp at hy) (fun h₁ hns₁ hsb₁ => ?_) co.kind)
  dsimp only at hns₁ hsb₁ ⊢
  have R2 := R.push (o := { cls := .type "list", dict := none, data := .seq ([] : List Value).toArray }) (mo := .list []) ⟨[], 0, rfl, .nil⟩
  generalize hH2 : s.heap.push { cls := .type "list", dict := none, data := .seq ([] : List Value).toArray } = H2 at hns₁ hsb₁ R2 ⊢
  have lt2 : ∀ b y, H2.get? b = some y → b ≠ H2.objs.size := fun b y e => Nat.ne_of_lt (Heap.lt_size e)
  have up1 : Up H2 h₁ := fun b y e => hsb₁.extBut b y (lt2 b y e) (Heap.get?_push_of_some _ e)
  have R4 := R2.up up1
  obtain ⟨m0, F0, qf0⟩ := R4.fr
  obtain ⟨m2, F2, _⟩ := R2.fr
  obtain ⟨oL, eL2, _⟩ := LCg.ns_obj F2.ns
  have eL : h₁.get? d.L = some oL := up1 _ _ eL2
  have lC : d.L ≠ H2.objs.size := lt2 _ _ eL2
  have nL0 : d.h₀.get? d.L = none := by
    cases e : d.h₀.get? d.L with
    | none => rfl
    | some o' => exact absurd (Nat.lt_of_lt_of_le (Heap.lt_size e) F0.above) (Nat.lt_irrefl _)
  have hC0 : d.h₀.objs.size ≤ H2.objs.size := Nat.le_trans F0.above (Nat.le_of_lt (Heap.lt_size eL2))
  let d' : Fd := { d with L := H2.objs.size, cs := relabel scope d.env, cl := cl', fu := none }
  have R5 : Rl G [x] cx' d' ((I, o) :: (d.L, oL) :: fz) (news ++ [(s.heap.objs.size, { cls := .type "list", dict := none, data := .seq ([] : List Value).toArray })]) [.unb] (H0 ++ [.list []]) h₁ := by
    refine ⟨R4.bel, R4.top, ⟨_, ⟨hns₁, F0.keep, hC0⟩, fun y v sv hv => ?_⟩, fun p hp => ?_, R4.hr, ?_, fun y i hy => ?_⟩
    · cases sv with
      | here => exact absurd rfl hv
      | there sv => cases sv
    · rcases List.mem_cons.mp hp with rfl | hp
      · have z := R2.nw (I, o) (.head _)
        exact ⟨up1 _ _ z.1, lt2 _ _ z.1, z.2.2⟩
      · rcases List.mem_cons.mp hp with rfl | hp
        · exact ⟨eL, lC, nL0⟩
        · have z := R2.nw p (.tail _ hp)
          exact ⟨up1 _ _ z.1, lt2 _ _ z.1, z.2.2⟩
    · have nd := R2.nd
      have nl : ∀ p ∈ (I, o) :: (fz ++ (news ++ [(s.heap.objs.size, ({ cls := .type "list", dict := none, data := .seq ([] : List Value).toArray } : Obj))])), p.1 ≠ d.L := fun p hp => (R2.nw p hp).2.1
      show (I :: d.L :: ad (fz ++ _)).Nodup
      have nd' : (I :: ad (fz ++ (news ++ [(s.heap.objs.size, ({ cls := .type "list", dict := none, data := .seq ([] : List Value).toArray } : Obj))]))).Nodup := nd
      rw [List.nodup_cons] at nd'
      rw [List.nodup_cons, List.nodup_cons]
      refine ⟨fun hm => ?_, fun hm => ?_, nd'.2⟩
      · rcases List.mem_cons.mp hm with e | hm
        · exact nl (I, o) (.head _) e
        · exact nd'.1 hm
      · obtain ⟨p, hp, e⟩ := List.mem_map.mp hm
        exact nl p (.tail _ hp) e
    · obtain ⟨c, e1, e2⟩ := R4.cells y i (co.sub y i hy)
      exact ⟨c, (hcl y i hy).trans e1, e2⟩
  have ha' : AOk 0 d' A := ⟨ha.hh, fun h => absurd h (Nat.lt_irrefl _), by have := ha.dp; omega, by have := ha.un; omega⟩
  have hDx : (ad (news ++ [(s.heap.objs.size, ({ cls := .type "list", dict := none, data := .seq ([] : List Value).toArray } : Obj))]))[H0.length]? = some s.heap.objs.size := by
    have hl : H0.length = news.length := R.hr.length
    rw [ad, List.map_append, List.getElem?_append_right (by rw [List.length_map, hl]; exact Nat.le_refl _), List.length_map, hl, Nat.sub_self]
    rfl
  have pre1 : ad news <+: ad (news ++ [(s.heap.objs.size, ({ cls := .type "list", dict := none, data := .seq ([] : List Value).toArray } : Obj))]) := by simp [ad]
  have hI2 := R2.ice
  have stI : St 0 h₁ := hfr _ _ _ st (R.ice.trans R4.ice.symm)
  have loop : codeAny (model G.prog G.w) A (.compLoop (.ListComp elt [⟨.Name x px, iter, ifs, 0⟩] scope pos) 0 (.ref I) (.ref s.heap.objs.size) d'.env) (compPost (model G.prog G.w) A E none (EP G xs cx d fz s0 news0 σ VR Q) (.ref s.heap.objs.size) H2.objs.size)
      { s with heap := h₁, toks := s.toks + ([] : List (Str × Value)).length } := by
    refine comp_loop (s := { s with heap := h₁, toks := s.toks + ([] : List (Str × Value)).length }) co.ok (co.lab d.env hd) ha' hfr (fun i v s' n' o σ' ys P E h1 h2 h3 h4 => item d' _ i v s' n' o σ' ys P E h1 h2 h3 (pre1.trans h4)) (fun s' n' o σ' ys P E h1 h2 h4 => done d' _ s' n' o σ' ys P E h1 h2 (pre1.trans h4)) stI R5 hDx hw ?_
    intro s' n' σ' ys R6 g6 hq
    obtain ⟨m, F, qf⟩ := R6.fr
    refine ⟨m, F.ns, fun h' hs' => ?_⟩
    have g7 : Gr s news { s' with heap := h' } n' := ⟨g6.gens, g6.drawn, g6.os, pre1.trans g6.pre⟩
    have nd6 : (d.L :: ad (fz ++ n')).Nodup := R6.nd
    rw [List.nodup_cons] at nd6
    have keepC : ∀ b y, b ≠ H2.objs.size → s'.heap.get? b = some y → h'.get? b = some y := fun b y hb e => (hs'.2 b hb).trans e
    refine ⟨.ref H0.length, _, n', ⟨R.bel, R.top, ⟨m0, ⟨F0.ns.at' fun oo e => ?_, fun b y e => keepC b y (fun q => ?_) (F.keep b y e), F0.above⟩, fun y v sv hv => ?_⟩, fun p hp => ?_, R6.hr, nd6.2, fun y i hy => ?_⟩, g0.trans g7, ⟨s.heap.objs.size, pre_get g6.pre hDx, rfl⟩, hq⟩
    · rw [eL] at e; cases e
      exact keepC _ _ lC (R6.nw (d.L, oL) (.head _)).1
    · rw [q] at e; exact absurd (Nat.lt_of_lt_of_le (Heap.lt_size e) hC0) (Nat.lt_irrefl _)
    · obtain ⟨u', e, r⟩ := qf0 y v sv hv
      exact ⟨u', e, r.mono g6.pre⟩
    · have z := R6.nw p (.tail _ hp)
      exact ⟨keepC _ _ z.2.1 z.1, fun q => nd6.1 (q ▸ List.mem_map_of_mem hp), z.2.2⟩
    · obtain ⟨c, e2, e3⟩ := R.cells y i hy
      exact ⟨c, e2, pre_get g7.pre e3⟩
  exact codeAny_compStart_list loop (self d' _ { s with heap := h₁, toks := s.toks + ([] : List (Str × Value)).length } _ o _ [] _ _ stI R5 pre1 loop)

theorem rfits {z : Int} (hz : z.natAbs < 2 ^ 50) : Builtin.Range.rangeFitsLong z = true := by
  unfold Builtin.Range.rangeFitsLong
  simp
  omega
theorem WE_compR (go : GOk G) {cs' : Scope} {x : Str} {px rp p : Pos} {cx' : List (Str × Nat)} {e elt : Expr} {es ifs : List Expr} {scope : Scope} (co : CpOk cs scope cs' x cx cx')
    (hk : cs.names.lookup (Str.ofString "range") = some .globalImplicit)
    (h : WEs G cs xs cx n (e :: es) (fun vs H1 => ∃ a b : Nat, vs = [.int (a : Int), .int (b : Int)] ∧ a < 2 ^ 40 ∧ b < 2 ^ 40 ∧ a ≤ b ∧ WCp G cs' x cx' ifs elt H1 (fun ys => Q (.ref H1.length) (H1 ++ [.list ys])) (rangeL (a : Int) 1 (b - a)) []) σ H)
    (he : ∀ env, starEach (e :: es) env = (false, eval e env) :: starEach es env := by intro _; rfl) (hp : ∀ env, (backTo p (starEach es env)).any (·.1) = false := by intro _; rfl)
    (hc : ∀ env, eval (.Call (.Name (Str.ofString "range") rp) (e :: es) [] p) env = (do callWith p (← eval (.Name (Str.ofString "range") rp) env) [] (backTo p (starEach (e :: es) env)) (backToKw p (keywordEach [] env))) := by intro _; rfl)
    (hf : ∀ env v, foldedSetIterable (.Call (.Name (Str.ofString "range") rp) (e :: es) [] p) env v = pure v := by intro _ _; rfl) :
    WE G cs xs cx n (.ListComp elt [⟨.Name x px, .Call (.Name (Str.ofString "range") rp) (e :: es) [] p, ifs, 0⟩] scope pos) Q σ H := by
  intro ok d A E s fz news hd ha R
  obtain ⟨cl', hcl1, hcl2⟩ := co.clos d.env hd fun y i hy => by
    obtain ⟨c, e1, _⟩ := R.cells y i hy
    exact ⟨c, e1⟩
  show wpAny (model G.prog G.w) A (eval (.ListComp _ _ _ _) d.env) _ _ _
  rw [eval_ListComp]
  refine wpAny_comprehension_free (use := none) rfl (hf _) hcl1 co.kind co.names ?_
  refine Call_ (name_bi (by simp) go boot_range hk ok hd R ?_) (hc _)
  refine PyProof.Rows.callWith_type1 (ep_mono (h p ok d A E s fz news hd ha R) fun vs H1 n1 us s1 R1 g1 vv h1 => ?_) (he _) (hp _)
  obtain ⟨a, b, rfl, hA, hB, hab, hW⟩ := h1
  have key : ∀ (t u v : Tok) (tk : Nat), wpAny (model G.prog G.w) A (pyIter (.ref s1.heap.objs.size)) (fun it s₂ => wpAny (model G.prog G.w) A (newList []) (fun acc s₃ => wpAny (model G.prog G.w) A (newFunctionEnv scope d.env.globals cl' [] d.env.qual none .none (some d.env)) (fun cenv s₄ =>
      codeAny (model G.prog G.w) A (.compStart (.ListComp elt [⟨.Name x px, .Call (.Name (Str.ofString "range") rp) (e :: es) [] p, ifs, 0⟩] scope pos) 0 it acc { cenv with scope := relabel scope d.env }) (compPost (model G.prog G.w) A E none (EP G xs cx d fz s news σ VR Q) acc cenv.locals) s₄) E s₃) E s₂) E
      { s1 with heap := s1.heap.push { cls := .type "range", data := .fields #[.int (a : Int) t, .int (b : Int) u, .int 1 v] }, toks := tk } := by
    intro t u v tk
    have R2 := R1.up (Up.push s1.heap { cls := .type "range", data := .fields #[.int (a : Int) t, .int (b : Int) u, .int 1 v] })
    have hsz : Builtin.Range.rangeSize (a : Int) (b : Int) 1 = ((b - a : Nat) : Int) := by
      unfold Builtin.Range.rangeSize
      rw [if_pos (by decide)]
      split <;> omega
    have hsmall : Builtin.Range.small (a : Int) (b : Int) 1 = true := by
      unfold Builtin.Range.small
      rw [hsz, rfits (z := (a : Int)) (by omega), rfits (z := (b : Int)) (by omega), rfits (z := 1) (by decide), rfits (z := ((b - a : Nat) : Int)) (by omega)]
      simp
      right
      exact rfits (by omega)
    refine wpAny_pyIter_range (IsRange.new ..) hsmall ?_
    generalize s1.heap.push { cls := .type "range", data := .fields #[.int (a : Int) t, .int (b : Int) u, .int 1 v] } = hp at R2 ⊢
    have fresh : hp.get? hp.objs.size = Option.none := by
      cases e : hp.get? hp.objs.size with
      | none => rfl
      | some o' => exact absurd (Heap.lt_size e) (Nat.lt_irrefl _)
    have hI : (hp.push { cls := .type "range_iterator", data := .fields #[rawInt (a : Int), rawInt (Builtin.Range.rangeSize (a : Int) (b : Int) 1), rawInt 1] }).get? hp.objs.size = some { cls := .type "range_iterator", data := .fields #[rawInt (a : Int), rawInt (Builtin.Range.rangeSize (a : Int) (b : Int) 1), rawInt 1] } := Heap.get?_push_size _ rfl
    have R3 := R2.freeze (Up.push _ _) fresh hI
    dsimp only
    generalize hp.objs.size = I at R3 hI ⊢
    have WK := Walks.range (prog := G.prog) (w := G.w) ha.hh I (a : Int) 1 (b - a)
    refine comp_block (s0 := s) (news0 := news) (s := { s1 with heap := _, toks := tk }) co hd ok ha (St := fun i h => IsRangeIter h I ((a : Int) + (i : Int) * 1) (((b - a : Nat) : Int) - (i : Nat)) 1) hcl2 (fun i h h' q e => ?_)
      (fun d' fz i v s' n' o σ' ys P E hv hst R' pre hP => ?_) (fun d' fz s' n' o σ' ys P E hst R' pre hP => ?_) (fun d' fz s' n' o σ' ys P E hst R' pre hP => WK.self 0 s' P E hst hP) ?_ R3 ⟨g1.gens, g1.drawn, g1.os, g1.pre⟩ hW
    · show h'.get? I = _
      rw [← e]; exact q
    · have hi : i < b - a := by
        have := (List.getElem?_eq_some_iff.mp hv).1
        rwa [rangeL_len] at this
      rw [rangeL_get hi] at hv
      cases hv
      refine WK.item i s' _ _ hi hst fun u h' tk' hPv hst' hk' => ?_
      obtain ⟨tv, rfl⟩ := hPv
      exact hP _ h' tk' _ (vr_int _ _) hst' hst' (fun b y hb e => hk' b y (by simpa using hb) e)
    · rw [rangeL_len] at hst
      exact WK.done s' _ _ hst fun h' tk' hk' => hP h' tk' fun b y hb e => hk' b y (by simpa using hb) e
    · show IsRangeIter _ I ((a : Int) + ((0 : Nat) : Int) * 1) (((b - a : Nat) : Int) - ((0 : Nat) : Int)) 1
      have e1 : (a : Int) + ((0 : Nat) : Int) * 1 = a := by simp
      have e2 : ((b - a : Nat) : Int) - ((0 : Nat) : Int) = Builtin.Range.rangeSize (a : Int) (b : Int) 1 := by rw [hsz]; simp
      rw [e1, e2]
      exact hI
  cases vv with
  | cons v1 y =>
    cases y with
    | cons v2 y => cases y; obtain ⟨t, rfl⟩ := v1; obtain ⟨t2, rfl⟩ := v2; exact call_range_2 (key _ _ _ _)
theorem WE_compL {cs' : Scope} {x : Str} {px : Pos} {cx' : List (Str × Nat)} {iter elt : Expr} {ifs : List Expr} {scope : Scope} (co : CpOk cs scope cs' x cx cx')
    (h : WE G cs xs cx n iter (fun v H1 => ∃ j l, v = .ref j ∧ H1[j]? = some (.list l) ∧ WCp G cs' x cx' ifs elt H1 (fun ys => Q (.ref H1.length) (H1 ++ [.list ys])) l []) σ H)
    (hf : ∀ env v, foldedSetIterable iter env v = pure v := by intro _ _; rfl) :
    WE G cs xs cx n (.ListComp elt [⟨.Name x px, iter, ifs, 0⟩] scope pos) Q σ H := by
  intro ok d A E s fz news hd ha R
  obtain ⟨cl', hcl1, hcl2⟩ := co.clos d.env hd fun y i hy => by
    obtain ⟨c, e1, _⟩ := R.cells y i hy
    exact ⟨c, e1⟩
  show wpAny (model G.prog G.w) A (eval (.ListComp _ _ _ _) d.env) _ _ _
  rw [eval_ListComp]
  refine wpAny_comprehension_free (use := none) rfl (hf _) hcl1 co.kind co.names ?_
  refine ep_mono (h ok d A E s fz news hd ha R) fun v H1 n1 u s1 R1 g1 vv h1 => ?_
  obtain ⟨j, l, rfl, hj, hW⟩ := h1
  obtain ⟨a, vs, c, rfl, e1, e2, e3, e4⟩ := R1.list_ hj vv
  refine wpAny_pyIter_list e3 ?_
  have fresh : s1.heap.get? s1.heap.objs.size = Option.none := by
    cases e : s1.heap.get? s1.heap.objs.size with
    | none => rfl
    | some o' => exact absurd (Heap.lt_size e) (Nat.lt_irrefl _)
  have hI : (s1.heap.push { cls := .type "list_iterator", data := .fields #[.ref a, .int 0 0] }).get? s1.heap.objs.size = some { cls := .type "list_iterator", data := .fields #[.ref a, .int 0 0] } := Heap.get?_push_size _ rfl
  have R2 := R1.freeze (Up.push _ _) fresh hI
  have hne : a ≠ s1.heap.objs.size := Nat.ne_of_lt (Heap.lt_size e2)
  generalize s1.heap.objs.size = I at R2 hI hne ⊢
  refine comp_block (s0 := s) (news0 := news) (s := { s1 with heap := _ }) co hd ok ha (St := fun i h => h.IsListIter I a i) hcl2 (fun i h h' q e => ?_)
      (fun d' fz i v s' n' o σ' ys P E hv hst R' pre hP => ?_) (fun d' fz s' n' o σ' ys P E hst R' pre hP => ?_) (fun d' fz s' n' o σ' ys P E hst R' pre hP => ?_) ⟨_, hI, rfl, rfl⟩ R2 ⟨g1.gens, g1.drawn, g1.os, g1.pre⟩ hW
  · obtain ⟨o, q1, q2⟩ := q
    exact ⟨o, e ▸ q1, q2⟩
  · obtain ⟨a', vs', c', ea, f1, f2, f3, f4⟩ := R'.list_ (hget_old hj) (vv.mono pre)
    cases ea
    obtain ⟨b, hb, vb⟩ := f4.get hv
    refine wpAny_pyNext_list_item hst f3 (by rw [List.getElem?_toArray]; exact hb) fun h' hit' hs => ?_
    obtain ⟨oI, hoI, _⟩ := id hit'
    exact hP b h' s'.toks oI vb hit' hoI fun b y hb e => hs.extBut b y hb e
  · obtain ⟨a', vs', c', ea, f1, f2, f3, f4⟩ := R'.list_ (hget_old hj) (vv.mono pre)
    cases ea
    exact wpAny_pyNext_list_end ha.hh hst f3 (by rw [List.getElem?_toArray]; exact List.getElem?_eq_none (by rw [← f4.length]; exact Nat.le_refl _)) fun h' he => hP h' s'.toks fun b y hb e => he b y hb e
  · obtain ⟨a', vs', c', ea, f1, f2, f3, f4⟩ := R'.list_ (hget_old hj) (vv.mono pre)
    cases ea
    exact (Walks.list (prog := G.prog) (w := G.w) ha.hh I a hne vs'.toArray).self 0 s' P E ⟨hst, f3⟩ hP
end
end Mine
namespace Mine
theorem len1 {α : Type} {l : List α} (h : l.length = 1) : ∃ a0, l = [a0] := by
  match l, h with
  | [a0], _ => exact ⟨a0, rfl⟩
theorem len2 {α : Type} {l : List α} (h : l.length = 2) : ∃ a0 a1, l = [a0, a1] := by
  match l, h with
  | [a0, a1], _ => exact ⟨a0, a1, rfl⟩
theorem len3 {α : Type} {l : List α} (h : l.length = 3) : ∃ a0 a1 a2, l = [a0, a1, a2] := by
  match l, h with
  | [a0, a1, a2], _ => exact ⟨a0, a1, a2, rfl⟩
theorem len4 {α : Type} {l : List α} (h : l.length = 4) : ∃ a0 a1 a2 a3, l = [a0, a1, a2, a3] := by
  match l, h with
  | [a0, a1, a2, a3], _ => exact ⟨a0, a1, a2, a3, rfl⟩
theorem len5 {α : Type} {l : List α} (h : l.length = 5) : ∃ a0 a1 a2 a3 a4, l = [a0, a1, a2, a3, a4] := by
  match l, h with
  | [a0, a1, a2, a3, a4], _ => exact ⟨a0, a1, a2, a3, a4, rfl⟩
def stmtAt (i : Nat) : Stmt := match PySem.Challenge.pw_xm0404_01.main.body[i]? with
  | some s => s
  | none => .Pass ⟨0, 0, 0, 0⟩
def recOf : Stmt → DefRec
  | .FunctionDef name a b _ _ _ sc _ _ pos => ⟨name, a, b, sc, pos⟩
  | _ => ⟨Str.ofString "", ⟨[], [], none, [], [], none, []⟩, [], { kind := .function, names := [], isGenerator := false, isCoroutine := false, more := [] }, ⟨0, 0, 0, 0⟩⟩
def dr (i : Nat) : DefRec := recOf (stmtAt i)

structure GAll (G : Gx) : Prop where
  go : GOk G
  fn : ∀ i, 4 ≤ i → i ≤ 40 → i ∉ [12, 17, 26, 34] → dr i ∈ recsOf G.p

theorem nm4 : (dr 4).name = Str.ofString "normal" := by rfl
theorem fn4 {G : Gx} (ga : GAll G) : ∃ d ∈ recsOf G.p, d.name = Str.ofString "normal" := ⟨dr 4, ga.fn 4 (by decide) (by decide) (by decide), by rfl⟩
theorem ff4 : FnFacts (dr 4) [Str.ofString "a"] [Str.ofString "end"] where
  ok := ⟨by rfl, by decide +kernel, by decide +kernel⟩
  bind := by
    intro pm code doc vals h
    obtain ⟨v0, rfl⟩ := len1 h
    rfl
  co := by rfl
  gen := by rfl
theorem nc4 : ∀ x ∈ (dr 4).scope.names, x.2 ≠ .cell := by decide +kernel
theorem nm5 : (dr 5).name = Str.ofString "compare" := by rfl
theorem fn5 {G : Gx} (ga : GAll G) : ∃ d ∈ recsOf G.p, d.name = Str.ofString "compare" := ⟨dr 5, ga.fn 5 (by decide) (by decide) (by decide), by rfl⟩
theorem ff5 : FnFacts (dr 5) [Str.ofString "a", Str.ofString "b"] [Str.ofString "at"] where
  ok := ⟨by rfl, by decide +kernel, by decide +kernel⟩
  bind := by
    intro pm code doc vals h
    obtain ⟨v0, v1, rfl⟩ := len2 h
    rfl
  co := by rfl
  gen := by rfl
theorem nc5 : ∀ x ∈ (dr 5).scope.names, x.2 ≠ .cell := by decide +kernel
theorem nm6 : (dr 6).name = Str.ofString "add" := by rfl
theorem fn6 {G : Gx} (ga : GAll G) : ∃ d ∈ recsOf G.p, d.name = Str.ofString "add" := ⟨dr 6, ga.fn 6 (by decide) (by decide) (by decide), by rfl⟩
theorem ff6 : FnFacts (dr 6) [Str.ofString "a", Str.ofString "b", Str.ofString "w"] [Str.ofString "found", Str.ofString "carry", Str.ofString "mask", Str.ofString "at"] where
  ok := ⟨by rfl, by decide +kernel, by decide +kernel⟩
  bind := by
    intro pm code doc vals h
    obtain ⟨v0, v1, v2, rfl⟩ := len3 h
    rfl
  co := by rfl
  gen := by rfl
theorem nc6 : ∀ x ∈ (dr 6).scope.names, x.2 ≠ .cell := by decide +kernel
theorem nm7 : (dr 7).name = Str.ofString "sub" := by rfl
theorem fn7 {G : Gx} (ga : GAll G) : ∃ d ∈ recsOf G.p, d.name = Str.ofString "sub" := ⟨dr 7, ga.fn 7 (by decide) (by decide) (by decide), by rfl⟩
theorem ff7 : FnFacts (dr 7) [Str.ofString "a", Str.ofString "b", Str.ofString "w"] [Str.ofString "found", Str.ofString "borrow", Str.ofString "base", Str.ofString "at", Str.ofString "limb"] where
  ok := ⟨by rfl, by decide +kernel, by decide +kernel⟩
  bind := by
    intro pm code doc vals h
    obtain ⟨v0, v1, v2, rfl⟩ := len3 h
    rfl
  co := by rfl
  gen := by rfl
theorem nc7 : ∀ x ∈ (dr 7).scope.names, x.2 ≠ .cell := by decide +kernel
theorem nm8 : (dr 8).name = Str.ofString "divrem_limb" := by rfl
theorem fn8 {G : Gx} (ga : GAll G) : ∃ d ∈ recsOf G.p, d.name = Str.ofString "divrem_limb" := ⟨dr 8, ga.fn 8 (by decide) (by decide) (by decide), by rfl⟩
theorem ff8 : FnFacts (dr 8) [Str.ofString "a", Str.ofString "limb", Str.ofString "w"] [Str.ofString "found", Str.ofString "rest", Str.ofString "at"] where
  ok := ⟨by rfl, by decide +kernel, by decide +kernel⟩
  bind := by
    intro pm code doc vals h
    obtain ⟨v0, v1, v2, rfl⟩ := len3 h
    rfl
  co := by rfl
  gen := by rfl
theorem nc8 : ∀ x ∈ (dr 8).scope.names, x.2 ≠ .cell := by decide +kernel
theorem nm9 : (dr 9).name = Str.ofString "shift_left" := by rfl
theorem fn9 {G : Gx} (ga : GAll G) : ∃ d ∈ recsOf G.p, d.name = Str.ofString "shift_left" := ⟨dr 9, ga.fn 9 (by decide) (by decide) (by decide), by rfl⟩
theorem ff9 : FnFacts (dr 9) [Str.ofString "a", Str.ofString "n", Str.ofString "w"] [Str.ofString "spots", Str.ofString "few", Str.ofString "found", Str.ofString "carry", Str.ofString "mask", Str.ofString "one"] where
  ok := ⟨by rfl, by decide +kernel, by decide +kernel⟩
  bind := by
    intro pm code doc vals h
    obtain ⟨v0, v1, v2, rfl⟩ := len3 h
    rfl
  co := by rfl
  gen := by rfl
theorem nc9 : ∀ x ∈ (dr 9).scope.names, x.2 ≠ .cell := by decide +kernel
theorem nm10 : (dr 10).name = Str.ofString "shift_right" := by rfl
theorem fn10 {G : Gx} (ga : GAll G) : ∃ d ∈ recsOf G.p, d.name = Str.ofString "shift_right" := ⟨dr 10, ga.fn 10 (by decide) (by decide) (by decide), by rfl⟩
theorem ff10 : FnFacts (dr 10) [Str.ofString "a", Str.ofString "n", Str.ofString "w"] [Str.ofString "spots", Str.ofString "few", Str.ofString "found", Str.ofString "mask", Str.ofString "at", Str.ofString "above"] where
  ok := ⟨by rfl, by decide +kernel, by decide +kernel⟩
  bind := by
    intro pm code doc vals h
    obtain ⟨v0, v1, v2, rfl⟩ := len3 h
    rfl
  co := by rfl
  gen := by rfl
theorem nc10 : ∀ x ∈ (dr 10).scope.names, x.2 ≠ .cell := by decide +kernel
theorem nm11 : (dr 11).name = Str.ofString "bits" := by rfl
theorem fn11 {G : Gx} (ga : GAll G) : ∃ d ∈ recsOf G.p, d.name = Str.ofString "bits" := ⟨dr 11, ga.fn 11 (by decide) (by decide) (by decide), by rfl⟩
theorem ff11 : FnFacts (dr 11) [Str.ofString "a", Str.ofString "w"] [] where
  ok := ⟨by rfl, by decide +kernel, by decide +kernel⟩
  bind := by
    intro pm code doc vals h
    obtain ⟨v0, v1, rfl⟩ := len2 h
    rfl
  co := by rfl
  gen := by rfl
theorem nc11 : ∀ x ∈ (dr 11).scope.names, x.2 ≠ .cell := by decide +kernel
theorem nm13 : (dr 13).name = Str.ofString "signed" := by rfl
theorem fn13 {G : Gx} (ga : GAll G) : ∃ d ∈ recsOf G.p, d.name = Str.ofString "signed" := ⟨dr 13, ga.fn 13 (by decide) (by decide) (by decide), by rfl⟩
theorem ff13 : FnFacts (dr 13) [Str.ofString "is_below", Str.ofString "nat"] [] where
  ok := ⟨by rfl, by decide +kernel, by decide +kernel⟩
  bind := by
    intro pm code doc vals h
    obtain ⟨v0, v1, rfl⟩ := len2 h
    rfl
  co := by rfl
  gen := by rfl
theorem nc13 : ∀ x ∈ (dr 13).scope.names, x.2 ≠ .cell := by decide +kernel
theorem nm14 : (dr 14).name = Str.ofString "s_neg" := by rfl
theorem fn14 {G : Gx} (ga : GAll G) : ∃ d ∈ recsOf G.p, d.name = Str.ofString "s_neg" := ⟨dr 14, ga.fn 14 (by decide) (by decide) (by decide), by rfl⟩
theorem ff14 : FnFacts (dr 14) [Str.ofString "x"] [] where
  ok := ⟨by rfl, by decide +kernel, by decide +kernel⟩
  bind := by
    intro pm code doc vals h
    obtain ⟨v0, rfl⟩ := len1 h
    rfl
  co := by rfl
  gen := by rfl
theorem nc14 : ∀ x ∈ (dr 14).scope.names, x.2 ≠ .cell := by decide +kernel
theorem nm15 : (dr 15).name = Str.ofString "s_add" := by rfl
theorem fn15 {G : Gx} (ga : GAll G) : ∃ d ∈ recsOf G.p, d.name = Str.ofString "s_add" := ⟨dr 15, ga.fn 15 (by decide) (by decide) (by decide), by rfl⟩
theorem ff15 : FnFacts (dr 15) [Str.ofString "x", Str.ofString "y", Str.ofString "w"] [] where
  ok := ⟨by rfl, by decide +kernel, by decide +kernel⟩
  bind := by
    intro pm code doc vals h
    obtain ⟨v0, v1, v2, rfl⟩ := len3 h
    rfl
  co := by rfl
  gen := by rfl
theorem nc15 : ∀ x ∈ (dr 15).scope.names, x.2 ≠ .cell := by decide +kernel
theorem nm16 : (dr 16).name = Str.ofString "s_mul" := by rfl
theorem fn16 {G : Gx} (ga : GAll G) : ∃ d ∈ recsOf G.p, d.name = Str.ofString "s_mul" := ⟨dr 16, ga.fn 16 (by decide) (by decide) (by decide), by rfl⟩
theorem ff16 : FnFacts (dr 16) [Str.ofString "x", Str.ofString "y", Str.ofString "w", Str.ofString "mul"] [] where
  ok := ⟨by rfl, by decide +kernel, by decide +kernel⟩
  bind := by
    intro pm code doc vals h
    obtain ⟨v0, v1, v2, v3, rfl⟩ := len4 h
    rfl
  co := by rfl
  gen := by rfl
theorem nc16 : ∀ x ∈ (dr 16).scope.names, x.2 ≠ .cell := by decide +kernel
theorem nm18 : (dr 18).name = Str.ofString "common" := by rfl
theorem fn18 {G : Gx} (ga : GAll G) : ∃ d ∈ recsOf G.p, d.name = Str.ofString "common" := ⟨dr 18, ga.fn 18 (by decide) (by decide) (by decide), by rfl⟩
theorem ff18 : FnFacts (dr 18) [Str.ofString "a", Str.ofString "b", Str.ofString "w", Str.ofString "divrem"] [] where
  ok := ⟨by rfl, by decide +kernel, by decide +kernel⟩
  bind := by
    intro pm code doc vals h
    obtain ⟨v0, v1, v2, v3, rfl⟩ := len4 h
    rfl
  co := by rfl
  gen := by rfl
theorem nc18 : ∀ x ∈ (dr 18).scope.names, x.2 ≠ .cell := by decide +kernel
theorem nm19 : (dr 19).name = Str.ofString "cut_signed" := by rfl
theorem fn19 {G : Gx} (ga : GAll G) : ∃ d ∈ recsOf G.p, d.name = Str.ofString "cut_signed" := ⟨dr 19, ga.fn 19 (by decide) (by decide) (by decide), by rfl⟩
theorem ff19 : FnFacts (dr 19) [Str.ofString "x", Str.ofString "d", Str.ofString "w", Str.ofString "divrem"] [] where
  ok := ⟨by rfl, by decide +kernel, by decide +kernel⟩
  bind := by
    intro pm code doc vals h
    obtain ⟨v0, v1, v2, v3, rfl⟩ := len4 h
    rfl
  co := by rfl
  gen := by rfl
theorem nc19 : ∀ x ∈ (dr 19).scope.names, x.2 ≠ .cell := by decide +kernel
theorem nm20 : (dr 20).name = Str.ofString "signed_of" := by rfl
theorem fn20 {G : Gx} (ga : GAll G) : ∃ d ∈ recsOf G.p, d.name = Str.ofString "signed_of" := ⟨dr 20, ga.fn 20 (by decide) (by decide) (by decide), by rfl⟩
theorem ff20 : FnFacts (dr 20) [Str.ofString "nat"] [] where
  ok := ⟨by rfl, by decide +kernel, by decide +kernel⟩
  bind := by
    intro pm code doc vals h
    obtain ⟨v0, rfl⟩ := len1 h
    rfl
  co := by rfl
  gen := by rfl
theorem nc20 : ∀ x ∈ (dr 20).scope.names, x.2 ≠ .cell := by decide +kernel
theorem nm21 : (dr 21).name = Str.ofString "r_neg" := by rfl
theorem fn21 {G : Gx} (ga : GAll G) : ∃ d ∈ recsOf G.p, d.name = Str.ofString "r_neg" := ⟨dr 21, ga.fn 21 (by decide) (by decide) (by decide), by rfl⟩
theorem ff21 : FnFacts (dr 21) [Str.ofString "x"] [] where
  ok := ⟨by rfl, by decide +kernel, by decide +kernel⟩
  bind := by
    intro pm code doc vals h
    obtain ⟨v0, rfl⟩ := len1 h
    rfl
  co := by rfl
  gen := by rfl
theorem nc21 : ∀ x ∈ (dr 21).scope.names, x.2 ≠ .cell := by decide +kernel
theorem nm22 : (dr 22).name = Str.ofString "r_add" := by rfl
theorem fn22 {G : Gx} (ga : GAll G) : ∃ d ∈ recsOf G.p, d.name = Str.ofString "r_add" := ⟨dr 22, ga.fn 22 (by decide) (by decide) (by decide), by rfl⟩
theorem ff22 : FnFacts (dr 22) [Str.ofString "x", Str.ofString "y", Str.ofString "w", Str.ofString "mul", Str.ofString "divrem"] [Str.ofString "told", Str.ofString "here", Str.ofString "there", Str.ofString "top", Str.ofString "out"] where
  ok := ⟨by rfl, by decide +kernel, by decide +kernel⟩
  bind := by
    intro pm code doc vals h
    obtain ⟨v0, v1, v2, v3, v4, rfl⟩ := len5 h
    rfl
  co := by rfl
  gen := by rfl
theorem nc22 : ∀ x ∈ (dr 22).scope.names, x.2 ≠ .cell := by decide +kernel
theorem nm23 : (dr 23).name = Str.ofString "r_sub" := by rfl
theorem fn23 {G : Gx} (ga : GAll G) : ∃ d ∈ recsOf G.p, d.name = Str.ofString "r_sub" := ⟨dr 23, ga.fn 23 (by decide) (by decide) (by decide), by rfl⟩
theorem ff23 : FnFacts (dr 23) [Str.ofString "x", Str.ofString "y", Str.ofString "w", Str.ofString "mul", Str.ofString "divrem"] [] where
  ok := ⟨by rfl, by decide +kernel, by decide +kernel⟩
  bind := by
    intro pm code doc vals h
    obtain ⟨v0, v1, v2, v3, v4, rfl⟩ := len5 h
    rfl
  co := by rfl
  gen := by rfl
theorem nc23 : ∀ x ∈ (dr 23).scope.names, x.2 ≠ .cell := by decide +kernel
theorem nm24 : (dr 24).name = Str.ofString "r_mul" := by rfl
theorem fn24 {G : Gx} (ga : GAll G) : ∃ d ∈ recsOf G.p, d.name = Str.ofString "r_mul" := ⟨dr 24, ga.fn 24 (by decide) (by decide) (by decide), by rfl⟩
theorem ff24 : FnFacts (dr 24) [Str.ofString "x", Str.ofString "y", Str.ofString "w", Str.ofString "mul", Str.ofString "divrem"] [Str.ofString "one", Str.ofString "other", Str.ofString "top"] where
  ok := ⟨by rfl, by decide +kernel, by decide +kernel⟩
  bind := by
    intro pm code doc vals h
    obtain ⟨v0, v1, v2, v3, v4, rfl⟩ := len5 h
    rfl
  co := by rfl
  gen := by rfl
theorem nc24 : ∀ x ∈ (dr 24).scope.names, x.2 ≠ .cell := by decide +kernel
theorem nm25 : (dr 25).name = Str.ofString "r_inverse" := by rfl
theorem fn25 {G : Gx} (ga : GAll G) : ∃ d ∈ recsOf G.p, d.name = Str.ofString "r_inverse" := ⟨dr 25, ga.fn 25 (by decide) (by decide) (by decide), by rfl⟩
theorem ff25 : FnFacts (dr 25) [Str.ofString "x"] [] where
  ok := ⟨by rfl, by decide +kernel, by decide +kernel⟩
  bind := by
    intro pm code doc vals h
    obtain ⟨v0, rfl⟩ := len1 h
    rfl
  co := by rfl
  gen := by rfl
theorem nc25 : ∀ x ∈ (dr 25).scope.names, x.2 ≠ .cell := by decide +kernel
theorem nm27 : (dr 27).name = Str.ofString "mul_school" := by rfl
theorem fn27 {G : Gx} (ga : GAll G) : ∃ d ∈ recsOf G.p, d.name = Str.ofString "mul_school" := ⟨dr 27, ga.fn 27 (by decide) (by decide) (by decide), by rfl⟩
theorem ff27 : FnFacts (dr 27) [Str.ofString "a", Str.ofString "b", Str.ofString "w"] [Str.ofString "found", Str.ofString "mask", Str.ofString "at", Str.ofString "limb", Str.ofString "carry", Str.ofString "spot", Str.ofString "other"] where
  ok := ⟨by rfl, by decide +kernel, by decide +kernel⟩
  bind := by
    intro pm code doc vals h
    obtain ⟨v0, v1, v2, rfl⟩ := len3 h
    rfl
  co := by rfl
  gen := by rfl
theorem nc27 : ∀ x ∈ (dr 27).scope.names, x.2 ≠ .cell := by decide +kernel
theorem nm28 : (dr 28).name = Str.ofString "divrem_small" := by rfl
theorem fn28 {G : Gx} (ga : GAll G) : ∃ d ∈ recsOf G.p, d.name = Str.ofString "divrem_small" := ⟨dr 28, ga.fn 28 (by decide) (by decide) (by decide), by rfl⟩
theorem ff28 : FnFacts (dr 28) [Str.ofString "a", Str.ofString "b", Str.ofString "w"] [Str.ofString "quotient", Str.ofString "rest"] where
  ok := ⟨by rfl, by decide +kernel, by decide +kernel⟩
  bind := by
    intro pm code doc vals h
    obtain ⟨v0, v1, v2, rfl⟩ := len3 h
    rfl
  co := by rfl
  gen := by rfl
theorem nc28 : ∀ x ∈ (dr 28).scope.names, x.2 ≠ .cell := by decide +kernel
theorem nm29 : (dr 29).name = Str.ofString "guessed_limb" := by rfl
theorem fn29 {G : Gx} (ga : GAll G) : ∃ d ∈ recsOf G.p, d.name = Str.ofString "guessed_limb" := ⟨dr 29, ga.fn 29 (by decide) (by decide) (by decide), by rfl⟩
theorem ff29 : FnFacts (dr 29) [Str.ofString "top", Str.ofString "first", Str.ofString "second", Str.ofString "w"] [Str.ofString "high", Str.ofString "base", Str.ofString "limb", Str.ofString "rest"] where
  ok := ⟨by rfl, by decide +kernel, by decide +kernel⟩
  bind := by
    intro pm code doc vals h
    obtain ⟨v0, v1, v2, v3, rfl⟩ := len4 h
    rfl
  co := by rfl
  gen := by rfl
theorem nc29 : ∀ x ∈ (dr 29).scope.names, x.2 ≠ .cell := by decide +kernel
theorem nm30 : (dr 30).name = Str.ofString "take_away" := by rfl
theorem fn30 {G : Gx} (ga : GAll G) : ∃ d ∈ recsOf G.p, d.name = Str.ofString "take_away" := ⟨dr 30, ga.fn 30 (by decide) (by decide) (by decide), by rfl⟩
theorem ff30 : FnFacts (dr 30) [Str.ofString "rest", Str.ofString "b", Str.ofString "limb", Str.ofString "at", Str.ofString "w"] [Str.ofString "carry", Str.ofString "base", Str.ofString "spot", Str.ofString "other", Str.ofString "here"] where
  ok := ⟨by rfl, by decide +kernel, by decide +kernel⟩
  bind := by
    intro pm code doc vals h
    obtain ⟨v0, v1, v2, v3, v4, rfl⟩ := len5 h
    rfl
  co := by rfl
  gen := by rfl
theorem nc30 : ∀ x ∈ (dr 30).scope.names, x.2 ≠ .cell := by decide +kernel
theorem nm31 : (dr 31).name = Str.ofString "put_back" := by rfl
theorem fn31 {G : Gx} (ga : GAll G) : ∃ d ∈ recsOf G.p, d.name = Str.ofString "put_back" := ⟨dr 31, ga.fn 31 (by decide) (by decide) (by decide), by rfl⟩
theorem ff31 : FnFacts (dr 31) [Str.ofString "rest", Str.ofString "b", Str.ofString "at", Str.ofString "w"] [Str.ofString "carry", Str.ofString "mask", Str.ofString "spot", Str.ofString "other"] where
  ok := ⟨by rfl, by decide +kernel, by decide +kernel⟩
  bind := by
    intro pm code doc vals h
    obtain ⟨v0, v1, v2, v3, rfl⟩ := len4 h
    rfl
  co := by rfl
  gen := by rfl
theorem nc31 : ∀ x ∈ (dr 31).scope.names, x.2 ≠ .cell := by decide +kernel
theorem nm32 : (dr 32).name = Str.ofString "divide_rows" := by rfl
theorem fn32 {G : Gx} (ga : GAll G) : ∃ d ∈ recsOf G.p, d.name = Str.ofString "divide_rows" := ⟨dr 32, ga.fn 32 (by decide) (by decide) (by decide), by rfl⟩
theorem ff32 : FnFacts (dr 32) [Str.ofString "rest", Str.ofString "b", Str.ofString "w"] [Str.ofString "size", Str.ofString "quotient", Str.ofString "at", Str.ofString "limb"] where
  ok := ⟨by rfl, by decide +kernel, by decide +kernel⟩
  bind := by
    intro pm code doc vals h
    obtain ⟨v0, v1, v2, rfl⟩ := len3 h
    rfl
  co := by rfl
  gen := by rfl
theorem nc32 : ∀ x ∈ (dr 32).scope.names, x.2 ≠ .cell := by decide +kernel
theorem nm33 : (dr 33).name = Str.ofString "divrem_school" := by rfl
theorem fn33 {G : Gx} (ga : GAll G) : ∃ d ∈ recsOf G.p, d.name = Str.ofString "divrem_school" := ⟨dr 33, ga.fn 33 (by decide) (by decide) (by decide), by rfl⟩
theorem ff33 : FnFacts (dr 33) [Str.ofString "a", Str.ofString "b", Str.ofString "w"] [Str.ofString "shift", Str.ofString "divisor", Str.ofString "rest", Str.ofString "quotient"] where
  ok := ⟨by rfl, by decide +kernel, by decide +kernel⟩
  bind := by
    intro pm code doc vals h
    obtain ⟨v0, v1, v2, rfl⟩ := len3 h
    rfl
  co := by rfl
  gen := by rfl
theorem nc33 : ∀ x ∈ (dr 33).scope.names, x.2 ≠ .cell := by decide +kernel
theorem nm35 : (dr 35).name = Str.ofString "_law_sawn" := by rfl
theorem fn35 {G : Gx} (ga : GAll G) : ∃ d ∈ recsOf G.p, d.name = Str.ofString "_law_sawn" := ⟨dr 35, ga.fn 35 (by decide) (by decide) (by decide), by rfl⟩
theorem ff35 : FnFacts (dr 35) [Str.ofString "blade", Str.ofString "many"] [] where
  ok := ⟨by rfl, by decide +kernel, by decide +kernel⟩
  bind := by
    intro pm code doc vals h
    obtain ⟨v0, v1, rfl⟩ := len2 h
    rfl
  co := by rfl
  gen := by rfl
theorem nc35 : ∀ x ∈ (dr 35).scope.names, x.2 ≠ .cell := by decide +kernel
theorem nm36 : (dr 36).name = Str.ofString "_law_limbs" := by rfl
theorem fn36 {G : Gx} (ga : GAll G) : ∃ d ∈ recsOf G.p, d.name = Str.ofString "_law_limbs" := ⟨dr 36, ga.fn 36 (by decide) (by decide) (by decide), by rfl⟩
theorem ff36 : FnFacts (dr 36) [Str.ofString "number", Str.ofString "w"] [Str.ofString "found"] where
  ok := ⟨by rfl, by decide +kernel, by decide +kernel⟩
  bind := by
    intro pm code doc vals h
    obtain ⟨v0, v1, rfl⟩ := len2 h
    rfl
  co := by rfl
  gen := by rfl
theorem nc36 : ∀ x ∈ (dr 36).scope.names, x.2 ≠ .cell := by decide +kernel
theorem nm37 : (dr 37).name = Str.ofString "_law_least" := by rfl
theorem fn37 {G : Gx} (ga : GAll G) : ∃ d ∈ recsOf G.p, d.name = Str.ofString "_law_least" := ⟨dr 37, ga.fn 37 (by decide) (by decide) (by decide), by rfl⟩
theorem ff37 : FnFacts (dr 37) [Str.ofString "top", Str.ofString "bottom", Str.ofString "w"] [Str.ofString "here", Str.ofString "there"] where
  ok := ⟨by rfl, by decide +kernel, by decide +kernel⟩
  bind := by
    intro pm code doc vals h
    obtain ⟨v0, v1, v2, rfl⟩ := len3 h
    rfl
  co := by rfl
  gen := by rfl
theorem nc37 : ∀ x ∈ (dr 37).scope.names, x.2 ≠ .cell := by decide +kernel
theorem nm39 : (dr 39).name = Str.ofString "_law_exchanged" := by rfl
theorem fn39 {G : Gx} (ga : GAll G) : ∃ d ∈ recsOf G.p, d.name = Str.ofString "_law_exchanged" := ⟨dr 39, ga.fn 39 (by decide) (by decide) (by decide), by rfl⟩
theorem ff39 : FnFacts (dr 39) [Str.ofString "h", Str.ofString "k", Str.ofString "later", Str.ofString "w"] [Str.ofString "quotient", Str.ofString "three", Str.ofString "twelfth", Str.ofString "less"] where
  ok := ⟨by rfl, by decide +kernel, by decide +kernel⟩
  bind := by
    intro pm code doc vals h
    obtain ⟨v0, v1, v2, v3, rfl⟩ := len4 h
    rfl
  co := by rfl
  gen := by rfl
theorem nc39 : ∀ x ∈ (dr 39).scope.names, x.2 ≠ .cell := by decide +kernel

section
variable {G : Gx} {n : Nat} {Q : MV → List MO → Prop} {QB : Bool → List MO → Prop} {H : List MO}
theorem WC_le {n m : Nat} {f : MV} {args : List MV} (h : n ≤ m) (w : WC G n f args Q H) : WC G m f args Q H := by
  intro cs xs cx σ ok d A E s fz news u vs hd ha R vf va
  exact w cs xs cx σ ok d A E s fz news u vs hd ⟨ha.hh, fun h0 => ha.fr (by omega), by have := ha.dp; omega, by have := ha.un; omega⟩ R vf va
/-- the same, the depth as it is asked -/
theorem WC_at {r : DefRec} {x : Str} {ps rest : List Str} {args : List MV} (ff : FnFacts r ps rest) (hm : r ∈ recsOf G.p) (hx : r.name = x) (hl : ps.length = args.length) (hcell : ∀ x ∈ r.scope.names, x.2 ≠ .cell) {k : Nat} (hn : k + 1 ≤ n)
    (body : WSs G r.scope (ps ++ rest) [] (n - 1) r.body (fun _ _ => False) Q (args ++ rest.map fun _ => MV.unb) H) : WC G n (.fn x) args Q H := by
  subst hx
  obtain ⟨m, rfl⟩ : ∃ m, n = m + 1 := ⟨n - 1, by omega⟩
  exact WC_def ff hm hl hcell body
end

theorem WC_atN {G : Gx} {n : Nat} {Q : MV → List MO → Prop} {H : List MO} {r : DefRec} {x : Str} {ps rest : List Str} {args : List MV} (ff : FnFacts r ps rest) (hm : r ∈ recsOf G.p) (hx : r.name = x) (hl : ps.length = args.length) (hcell : ∀ x ∈ r.scope.names, x.2 ≠ .cell) {k : Nat} (hn : k + 1 ≤ n)
    (body : WSs G r.scope (ps ++ rest) [] (n - 1) r.body (fun _ H' => Q .none H') Q (args ++ rest.map fun _ => MV.unb) H) : WC G n (.fn x) args Q H := by
  subst hx
  obtain ⟨m, rfl⟩ : ∃ m, n = m + 1 := ⟨n - 1, by omega⟩
  exact WC_defN ff hm hl hcell body
theorem hset_get {H : List MO} {j : Nat} {o o' : MO} (h : H[j]? = some o) : (H.set j o')[j]? = some o' := by
  rw [List.getElem?_set_self (List.getElem?_eq_some_iff.mp h).1]
theorem hset_ne {H : List MO} {j t : Nat} {o o' : MO} (hne : t ≠ j) (h : H[t]? = some o) : (H.set j o')[t]? = some o := by
  rw [List.getElem?_set_ne (Ne.symm hne)]; exact h
theorem hget_pre {H H' : List MO} {i : Nat} {o : MO} (p : H <+: H') (h : H[i]? = some o) : H'[i]? = some o := by
  obtain ⟨J, rfl⟩ := p; exact hget_old h
theorem IX_t0 {Q : MV → List MO → Prop} {H : List MO} {j : Nat} {x : MV} {l : List MV} (h : H[j]? = some (.tup (x :: l))) (q : Q x H) : IX Q H (.ref j) (.int 0) := .tup (k := 0) h rfl (by decide) q
theorem IX_t1 {Q : MV → List MO → Prop} {H : List MO} {j : Nat} {x y : MV} {l : List MV} (h : H[j]? = some (.tup (x :: y :: l))) (q : Q y H) : IX Q H (.ref j) (.int 1) := .tup (k := 1) h rfl (by decide) q
theorem rs_down (m : Nat) : (Builtin.Range.rangeSize ((m : Int) - 1) (-1) (-1)).toNat = m := by
  unfold Builtin.Range.rangeSize
  rw [if_neg (by decide)]
  split <;> simp <;> omega
theorem rs_up (a b : Nat) : (Builtin.Range.rangeSize (a : Int) (b : Int) 1).toNat = b - a := by
  unfold Builtin.Range.rangeSize
  rw [if_pos (by decide)]
  split <;> simp <;> omega
theorem ex_r1 {m : Nat} {P : List MV → Prop} (hm : m < 2 ^ 40) (h : P (rangeL 0 1 m)) : ∃ a b c : Int, ([MV.int (m : Int)] = [.int b] ∧ a = 0 ∧ c = 1 ∨ [MV.int (m : Int)] = [.int a, .int b] ∧ c = 1 ∨ [MV.int (m : Int)] = [.int a, .int b, .int c]) ∧ a.natAbs < 2 ^ 40 ∧ b.natAbs < 2 ^ 40 ∧ (c = 1 ∨ c = -1) ∧ P (rangeL a c (Builtin.Range.rangeSize a b c).toNat) :=
  ⟨0, (m : Int), 1, .inl ⟨rfl, rfl, rfl⟩, by omega, by omega, .inl rfl, by rw [show (0 : Int) = ((0 : Nat) : Int) from rfl, rs_up]; exact h⟩
theorem ex_r2 {k m : Nat} {x y : Int} {P : List MV → Prop} (hx : x = k) (hy : y = m) (hk : k < 2 ^ 40) (hm : m < 2 ^ 40) (h : P (rangeL (k : Int) 1 (m - k))) : ∃ a b c : Int, ([MV.int x, MV.int y] = [.int b] ∧ a = 0 ∧ c = 1 ∨ [MV.int x, MV.int y] = [.int a, .int b] ∧ c = 1 ∨ [MV.int x, MV.int y] = [.int a, .int b, .int c]) ∧ a.natAbs < 2 ^ 40 ∧ b.natAbs < 2 ^ 40 ∧ (c = 1 ∨ c = -1) ∧ P (rangeL a c (Builtin.Range.rangeSize a b c).toNat) := by
  subst hx hy
  exact ⟨(k : Int), (m : Int), 1, .inr (.inl ⟨rfl, rfl⟩), by omega, by omega, .inl rfl, by rw [rs_up]; exact h⟩
theorem ex_r3 {m : Nat} {x y z : Int} {P : List MV → Prop} (hx : x = (m : Int) - 1) (hy : y = -1) (hz : z = -1) (hm : m < 2 ^ 40) (h : P (rangeL ((m : Int) - 1) (-1) m)) : ∃ a b c : Int, ([MV.int x, MV.int y, MV.int z] = [.int b] ∧ a = 0 ∧ c = 1 ∨ [MV.int x, MV.int y, MV.int z] = [.int a, .int b] ∧ c = 1 ∨ [MV.int x, MV.int y, MV.int z] = [.int a, .int b, .int c]) ∧ a.natAbs < 2 ^ 40 ∧ b.natAbs < 2 ^ 40 ∧ (c = 1 ∨ c = -1) ∧ P (rangeL a c (Builtin.Range.rangeSize a b c).toNat) := by
  subst hx hy hz
  exact ⟨(m : Int) - 1, -1, -1, .inr (.inr rfl), by omega, by omega, .inr rfl, by rw [rs_down]; exact h⟩
theorem ltT {p : Prop} [Decidable p] (h : decide p = true) : p := of_decide_eq_true h
theorem ltF {p : Prop} [Decidable p] (h : decide p = false) : ¬ p := of_decide_eq_false h
theorem eqT {a b : Int} (h : (a == b) = true) : a = b := eq_of_beq h
theorem eqF {a b : Int} (h : (a == b) = false) : a ≠ b := ne_of_beq_false h
theorem neT {a b : Int} (h : (a != b) = true) : a ≠ b := bne_iff_ne.mp h
theorem neF {a b : Int} (h : (a != b) = false) : a = b := by simpa using h
local macro_rules | `(tactic| walk_at "m_slot") => `(tactic| with_reducible first | exact SlotV.here | exact SlotS.here | (apply SlotV.there; walk_at "m_slot") | (apply SlotS.there; walk_at "m_slot"))
local macro_rules | `(tactic| walk_at "m_hget") => `(tactic| with_reducible first | assumption | exact hget_new | (refine hget_old ?_; walk_at "m_hget") | (refine hget_pre (by assumption) ?_; walk_at "m_hget"))
local macro_rules | `(tactic| walk_at "m_pre") => `(tactic| with_reducible first | assumption | exact List.prefix_rfl | (refine List.IsPrefix.trans ?_ (List.prefix_append _ _); walk_at "m_pre") | (refine List.IsPrefix.trans ?_ (by assumption); walk_at "m_pre"))
local macro_rules | `(tactic| walk_at "m_len") => `(tactic| (simp only [List.length_map, List.length_append, List.length_cons, List.length_nil, List.length_replicate] <;> omega))
local macro_rules | `(tactic| walk_at "m_len0") => `(tactic| first | omega | walk_at "m_len")
local macro_rules | `(tactic| walk_at "m_set") => `(tactic| (refine ⟨_, _, _, rfl, rfl, by walk_at "m_hget", by omega, by walk_at "m_len", by omega, ?_⟩; rw [hset_new, nL_set]))
local macro_rules | `(tactic| walk_at "m_app") => `(tactic| (refine WS_append (by walk_at "m_slot") (by walk_at "m_hget") ?_ ?hi ?hs ?hst ?he; (case hi => (intro env he; cases env; cases he; rfl)); (case hs => (intro _; rfl)); (case hst => (intro _; rfl)); (case he => (intro _; rfl))))
local macro_rules | `(tactic| walk_at "m_app2") => `(tactic| (refine ⟨_, by walk_at "m_hget", by walk_at "m_len", ?_⟩; rw [hset_new]))
local macro_rules | `(tactic| walk_at "m_bi") => `(tactic| ((with_reducible first | refine WE_bi (by assumption) ?hx boot_len ?hk ?_ ?he ?hp ?hc | refine WE_bi (by assumption) ?hx boot_min ?hk ?_ ?he ?hp ?hc | refine WE_bi (by assumption) ?hx boot_abs ?hk ?_ ?he ?hp ?hc | refine WE_bi (by assumption) ?hx boot_sum ?hk ?_ ?he ?hp ?hc | refine WE_ty (by assumption) ?hx boot_int ?hk ?_ ?he ?hp ?hc); (case hx => simp); (case hk => decide +kernel); (case he => (intro _; rfl)); (case hp => (intro _; rfl)); (case hc => (intro _; rfl))))
local macro_rules | `(tactic| walk_at "m_we") => `(tactic| first
  | ((with_reducible show WE _ _ _ _ _ (Expr.Name _ _) _ _ _); (refine WE_loc (by walk_at "m_slot") (by nofun) ?_))
  | ((with_reducible show WE _ _ _ _ _ (Expr.Name _ _) _ _ _); walk_at "m_fn")
  | with_reducible refine WE_int ?_
  | with_reducible refine WE_bin ?_
  | with_reducible refine WE_slice ?_
  | ((with_reducible refine WE_sub ?_ ?hs); (case hs => (intro _ _; rfl)))
  | ((with_reducible show WE _ _ _ _ _ (Expr.Call (Expr.Name _ _) _ _ _) _ _ _); walk_at "m_bi")
  | ((with_reducible refine WE_call ?_ ?he ?hc); (case he => (intro _; rfl)); (case hc => (intro _; rfl)))
  | with_reducible refine WE_tuple ?_
  | with_reducible refine WE_list ?_
  | with_reducible refine WE_if ?_
  | with_reducible refine WE_neg ?_
  | with_reducible refine WE_notb ?_
  | with_reducible refine WE_andb ?_
  | with_reducible refine WE_bool ?_
  | ((with_reducible refine WE_cmp ?_ ?hb); (case hb => rfl)))
local macro_rules | `(tactic| walk_at "m_bo") => `(tactic| first
  | with_reducible refine BO_add ?_
  | with_reducible refine BO_sub ?_
  | with_reducible refine BO_and ?_
  | with_reducible refine BO_or ?_
  | ((with_reducible show BO _ Operator.LShift _ _ _ _); (refine BO_shl (by omega) (by omega) (by omega) ?_))
  | ((with_reducible show BO _ Operator.FloorDiv _ _ _ _); (refine BO_fdivN (by omega) (by omega) ?_))
  | ((with_reducible show BO _ Operator.Mod _ _ _ _); (refine BO_mod (by omega) ?_))
  | ((with_reducible show BO _ Operator.Mult (MV.ref _) (MV.int _) _ _); (refine BO_mulZ (by walk_at "m_hget") (by walk_at "m_len0") ?_))
  | ((with_reducible show BO _ Operator.RShift _ _ _ _); (refine BO_shr (by omega) ?_))
  | ((with_reducible show BO _ Operator.Mult (MV.int _) (MV.int _) _ _); (refine BO_mulN ?_ (by omega))))
local macro_rules | `(tactic| walk_at "m_co") => `(tactic| first
  | with_reducible refine CO_gt ?_
  | with_reducible refine CO_lt ?_
  | with_reducible refine CO_le ?_
  | with_reducible refine CO_eq ?_
  | with_reducible refine CO_ne ?_
  | with_reducible refine CO_eqb ?_
  | with_reducible refine CO_neb ?_)
local macro_rules | `(tactic| walk_at "m_ws") => `(tactic| first
  | ((with_reducible refine WS_assign ?_ ?hs); (case hs => (intro _; rfl)))
  | ((with_reducible show WS _ _ _ _ _ (Stmt.AugAssign _ Operator.Add _ _) _ _ _ _); (refine WS_iadd (by walk_at "m_slot") ?_))
  | ((with_reducible show WS _ _ _ _ _ (Stmt.AugAssign _ Operator.Sub _ _) _ _ _ _); (refine WS_isub (by walk_at "m_slot") ?_))
  | ((with_reducible show WS _ _ _ _ _ (Stmt.AugAssign _ Operator.BitOr _ _) _ _ _ _); (refine WS_ior (by walk_at "m_slot") ?_))
  | ((with_reducible show WS _ _ _ _ _ (Stmt.AugAssign _ Operator.RShift _ _) _ _ _ _); (refine WS_ishr (by walk_at "m_slot") ?_))
  | ((with_reducible show WS _ _ _ _ _ (Stmt.AugAssign _ Operator.Mod _ _) _ _ _ _); (refine WS_imod (by walk_at "m_slot") ?_))
  | with_reducible refine WS_return ?_
  | with_reducible refine WS_if ?_
  | ((with_reducible refine WS_setitem ?_ ?hs); (case hs => (intro _; rfl)))
  | ((with_reducible refine WS_tuple2 ?_ ?hw ?hs ?he ?he'); (case hs => (intro _; rfl)); (case he => (intro _; rfl)); (case he' => (intro _; rfl)); (case hw => (intro env he; cases env; cases he; rfl)))
  | ((with_reducible refine WS_tuple3 ?_ ?hw ?hs ?he ?he' ?he2); (case hs => (intro _; rfl)); (case he => (intro _; rfl)); (case he' => (intro _; rfl)); (case he2 => (intro _; rfl)); (case hw => (intro env he; cases env; cases he; rfl))))
local macro_rules | `(tactic| walk_at "m_e") => `(tactic| first
  | ((with_reducible show WE _ _ _ _ _ _ _ _ _); walk_at "m_we")
  | ((with_reducible show WS _ _ _ _ _ _ _ _ _ _); walk_at "m_ws")
  | ((with_reducible show WEs _ _ _ _ _ _ _ _ _); first | ((with_reducible refine WEs_cons ?_ ?he); (case he => (intro _; rfl))) | with_reducible refine WEs_nil ?_)
  | ((with_reducible show BO _ _ _ _ _ _); walk_at "m_bo")
  | ((with_reducible show CO _ _ _ _ _ _); walk_at "m_co")
  | ((with_reducible show WT _ _ _ _ _ _ _ _ _); first | ((with_reducible refine WT_cmp ?_ ?hb); (case hb => rfl)) | with_reducible refine WT_and ?_ | with_reducible refine WT_or ?_)
  | ((with_reducible show ∃ σ', SlotS _ _ _ _ σ' ∧ _); (with_reducible refine ex_slot (by walk_at "m_slot") ?_))
  | (with_reducible refine ex_int ?_)
  | (with_reducible refine ex_bool ?_)
  | (with_reducible refine ex_fn ?_)
  | with_reducible refine WSs_nil ?_
  | ((with_reducible show List.length _ ≤ 1000 ∧ _); (refine ⟨by simp, ?_⟩))
  | ((with_reducible show BC _ (Value.builtin "len") _ _ _); (refine BC_len (by walk_at "m_hget") (by walk_at "m_len") ?_))
  | ((with_reducible show IX _ _ _ _); first | with_reducible refine IX_t0 (by walk_at "m_hget") ?_ | with_reducible refine IX_t1 (by walk_at "m_hget") ?_)
  | with_reducible refine WP_none ?_
  | with_reducible refine WP_some ?_)
local macro_rules | `(tactic| walk_at "m_s") => `(tactic| first | with_reducible refine WSs_cons ?_ | walk_at "m_e")
local macro_rules | `(tactic| walk_at "m_fn") => `(tactic| ((with_reducible refine WE_fn ?hf ?hk ?hd ?_); (case hf => (with_reducible first | exact fn4 (by assumption) | exact fn5 (by assumption) | exact fn6 (by assumption) | exact fn7 (by assumption) | exact fn8 (by assumption) | exact fn9 (by assumption) | exact fn10 (by assumption) | exact fn11 (by assumption) | exact fn13 (by assumption) | exact fn14 (by assumption) | exact fn15 (by assumption) | exact fn16 (by assumption) | exact fn18 (by assumption) | exact fn19 (by assumption) | exact fn20 (by assumption) | exact fn21 (by assumption) | exact fn22 (by assumption) | exact fn23 (by assumption) | exact fn24 (by assumption) | exact fn25 (by assumption) | exact fn27 (by assumption) | exact fn28 (by assumption) | exact fn29 (by assumption) | exact fn30 (by assumption) | exact fn31 (by assumption) | exact fn32 (by assumption) | exact fn33 (by assumption) | exact fn35 (by assumption) | exact fn36 (by assumption) | exact fn37 (by assumption) | exact fn39 (by assumption))); (case hk => decide +kernel); (case hd => decide)))
/-! plain -/
def norm : List Nat → List Nat
  | [] => []
  | x :: r => match norm r with
    | [] => if x = 0 then [] else [x]
    | y :: r' => x :: y :: r'
theorem norm_snoc0 (l : List Nat) : norm (l ++ [0]) = norm l := by
  induction l with
  | nil => rfl
  | cons x r ih => simp only [List.cons_append, norm, ih]
theorem norm_snoc {l : List Nat} {x : Nat} (h : x ≠ 0) : norm (l ++ [x]) = l ++ [x] := by
  induction l with
  | nil => simp [norm, h]
  | cons y r ih =>
    simp only [List.cons_append, norm, ih]
    cases e : r ++ [x] with
    | nil => simp at e
    | cons z t => rfl
theorem take_snoc {A : List Nat} {e : Nat} (h : e < A.length) : A.take (e + 1) = A.take e ++ [A.getD e 0] := by
  rw [List.take_add_one, List.getD_eq_getElem?_getD, List.getElem?_eq_getElem h]; rfl

section
variable {G : Gx} {n : Nat} {Q : MV → List MO → Prop} {H : List MO}
theorem normal_spec (ga : GAll G) {i : Nat} {A : List Nat} (hi : H[i]? = some (.list (nL A))) (hz : A.length ≤ 10000) (hn : 1 ≤ n)
    (q : ∀ J r, (H ++ J)[r]? = some (.list (nL (norm A))) → Q (.ref r) (H ++ J)) : WC G n (.fn (Str.ofString "normal")) [.ref i] Q H := by
  have go := ga.go
  refine WC_at ff4 (ga.fn 4 (by decide) (by decide) (by decide)) nm4 rfl nc4 hn ?_
  simp only [List.cons_append, List.nil_append, List.map_cons, List.map_nil]
  refine WSs_cons ?_
  repeat walk_at "m_s"
  refine WS_while ?_
  simp only [List.length_map]
  obtain ⟨e, he⟩ : ∃ e, e = A.length := ⟨_, rfl⟩
  rw [← he]
  have h1 : e ≤ A.length := Nat.le_of_eq he
  have h2 : norm (A.take e) = norm A := by rw [he, List.take_length]
  have h3 : e ≤ 10000 := by omega
  clear he
  have stop : ∀ e, e ≤ A.length → A.take e = norm A → WSs G (dr 4).scope [Str.ofString "a", Str.ofString "end"] [] (n - 1) ((dr 4).body.drop 2) (fun _ _ => False) Q [.ref i, .int (e : Int)] H := by
    intro e he h4
    show WSs G (dr 4).scope [Str.ofString "a", Str.ofString "end"] [] (n - 1) (_ :: _) _ _ _ _
    repeat walk_at "m_s"
    refine ⟨i, nL A, _, rfl, hi, by walk_at "m_len", slice_upto e rfl, ?_⟩
    exact q _ _ (by rw [← List.map_take, h4]; exact hget_new)
  induction e with
  | zero =>
    refine ⟨1, WWh_succ ?_⟩
    repeat walk_at "m_s"
    refine ⟨fun hc => absurd (of_decide_eq_true hc) (by omega), fun _ => ⟨fun hc => (nomatch hc), fun _ => ?_⟩⟩
    exact stop 0 h1 (by rw [← h2]; rfl)
  | succ e ih =>
    by_cases hz0 : A.getD e 0 = 0
    · obtain ⟨k, hk⟩ := ih (by omega) (by rw [← h2, take_snoc (by omega), hz0, norm_snoc0]) (by omega)
      refine ⟨k + 1, WWh_succ ?_⟩
      repeat walk_at "m_s"
      refine ⟨fun _ => ?_, fun hc => absurd (of_decide_eq_false hc) (by omega)⟩
      repeat walk_at "m_s"
      refine IX_nat e (by walk_at "m_hget") (by omega) (by omega) (by omega) ?_
      repeat walk_at "m_s"
      refine ⟨fun _ => ?_, fun hc => absurd (by rw [hz0]; rfl) (ne_of_beq_false hc)⟩
      repeat walk_at "m_s"
      have : ((e + 1 : Nat) : Int) - 1 = (e : Int) := by omega
      rw [this]
      exact hk
    · refine ⟨1, WWh_succ ?_⟩
      repeat walk_at "m_s"
      refine ⟨fun _ => ?_, fun hc => absurd (of_decide_eq_false hc) (by omega)⟩
      repeat walk_at "m_s"
      refine IX_nat e (by walk_at "m_hget") (by omega) (by omega) (by omega) ?_
      repeat walk_at "m_s"
      refine ⟨fun hc => absurd (Int.ofNat_inj.mp (eq_of_beq hc)) hz0, fun _ => ?_⟩
      exact stop (e + 1) h1 (by rw [← h2, take_snoc (by omega), norm_snoc hz0])
end
/-! compare -/
def cmpL : List Nat → List Nat → Nat
  | x :: a, y :: b => match cmpL a b with
    | 1 => if x < y then 0 else if x = y then 1 else 2
    | c => c
  | _, _ => 1
def cmp (a b : List Nat) : Nat := if a.length = b.length then cmpL a b else if a.length < b.length then 0 else 2
theorem cmpL_snoc {x y : Nat} : ∀ {l l' : List Nat}, l.length = l'.length → cmpL (l ++ [x]) (l' ++ [y]) = if x = y then cmpL l l' else if x < y then 0 else 2
  | [], [], _ => by
    simp only [List.nil_append, cmpL]
    by_cases h : x = y
    · subst h; simp
    · rw [if_neg h, if_neg h]
  | u :: l, v :: l', h => by
    have ih := cmpL_snoc (x := x) (y := y) (l := l) (l' := l') (by simpa using h)
    simp only [List.cons_append, cmpL, ih]
    by_cases h1 : x = y
    · rw [if_pos h1, if_pos h1]
    · rw [if_neg h1, if_neg h1]
      by_cases h2 : x < y
      · simp [h2]
      · simp [h2]

section
variable {G : Gx} {n : Nat} {Q : MV → List MO → Prop} {H : List MO}
theorem compare_spec (ga : GAll G) {i j : Nat} {A B : List Nat} (hi : H[i]? = some (.list (nL A))) (hj : H[j]? = some (.list (nL B))) (hz : A.length ≤ 10000) (hzb : B.length ≤ 10000) (hn : 1 ≤ n)
    (q : Q (.int ((cmp A B : Nat) - 1)) H) : WC G n (.fn (Str.ofString "compare")) [.ref i, .ref j] Q H := by
  have go := ga.go
  refine WC_at ff5 (ga.fn 5 (by decide) (by decide) (by decide)) nm5 rfl nc5 hn ?_
  simp only [List.cons_append, List.nil_append, List.map_cons, List.map_nil]
  refine WSs_cons ?_
  repeat walk_at "m_s"
  simp only [List.length_map]
  refine ⟨fun hc => ?_, fun hc => ?_⟩
  · have hc := neT hc
    repeat walk_at "m_s"
    simp only [List.length_map]
    refine ⟨fun h1 => ?_, fun h1 => ?_⟩
    · have h1 := ltT h1
      repeat walk_at "m_s"
      rw [cmp, if_neg (by omega), if_pos (by omega)] at q
      exact q
    · have h1 := ltF h1
      repeat walk_at "m_s"
      rw [cmp, if_neg (by omega), if_neg (by omega)] at q
      exact q
  · have hc := neF hc
    have hl : A.length = B.length := by omega
    rw [cmp, if_pos hl] at q
    repeat walk_at "m_s"
    refine range_ go (by decide +kernel) ?_
    repeat walk_at "m_s"
    simp only [List.length_map]
    refine ⟨_, _, -1, .inr (.inr rfl), by omega, by omega, .inr rfl, ?_⟩
    rw [rs_down]
    have e0 : cmpL (A.take A.length) (B.take A.length) = cmpL A B := by rw [List.take_length, hl, List.take_length]
    have hm : A.length ≤ A.length := Nat.le_refl _
    generalize hL : A.length = m at e0 ⊢
    rw [hL] at hm
    have hm : m ≤ A.length := by omega
    clear hL
    generalize MV.unb = v
    induction m generalizing v with
    | zero =>
      refine ⟨trivial, ?_⟩
      repeat walk_at "m_s"
      rw [← e0] at q
      exact q
    | succ m ih =>
      rw [rangeL_down]
      refine ⟨trivial, _, by walk_at "m_slot", ?_⟩
      repeat walk_at "m_s"
      refine IX_nat m (by walk_at "m_hget") rfl (by omega) (by omega) ?_
      repeat walk_at "m_s"
      refine IX_nat m (by walk_at "m_hget") rfl (by omega) (by omega) ?_
      repeat walk_at "m_s"
      rw [take_snoc (by omega), take_snoc (by omega), cmpL_snoc (by simp; omega)] at e0
      refine ⟨fun hc => ?_, fun hc => ?_⟩
      · have hc := neT hc
        rw [if_neg (fun e => hc (by rw [e]))] at e0
        repeat walk_at "m_s"
        refine IX_nat m (by walk_at "m_hget") rfl (by omega) (by omega) ?_
        repeat walk_at "m_s"
        refine IX_nat m (by walk_at "m_hget") rfl (by omega) (by omega) ?_
        repeat walk_at "m_s"
        refine ⟨fun h1 => ?_, fun h1 => ?_⟩
        · have h1 := ltT h1
          repeat walk_at "m_s"
          rw [← e0, if_pos (by omega)] at q
          exact q
        · have h1 := ltF h1
          repeat walk_at "m_s"
          rw [← e0, if_neg (by omega)] at q
          exact q
      · have hc := neF hc
        rw [if_pos (Int.ofNat_inj.mp hc)] at e0
        repeat walk_at "m_s"
        exact ih (by omega) e0 (by omega) _
end
/-! numbers -/
theorem mask_eq (w : Nat) : (1 : Int) * 2 ^ ((w : Int)).toNat - 1 = ((2 ^ w - 1 : Nat) : Int) := by
  rw [Int.one_mul, Int.toNat_natCast]
  have h : 1 ≤ 2 ^ w := Nat.one_le_two_pow
  rw [Int.natCast_sub h]
  push_cast
  rfl
theorem pow_nat (w : Nat) : (1 : Int) * 2 ^ ((w : Int)).toNat = ((2 ^ w : Nat) : Int) := by
  rw [Int.one_mul, Int.toNat_natCast]
  push_cast
  rfl
theorem bitAnd_mask (c w : Nat) : Builtin.bitAnd (c : Int) ((2 ^ w - 1 : Nat) : Int) = ((c % 2 ^ w : Nat) : Int) := by
  unfold Builtin.bitAnd
  have h1 : decide ((0 : Int) ≤ (c : Int)) = true := by simp
  have h2 : decide ((0 : Int) ≤ ((2 ^ w - 1 : Nat) : Int)) = true := decide_eq_true (by omega)
  rw [h1, h2]
  show (((c : Int).toNat &&& (((2 ^ w - 1 : Nat) : Int)).toNat : Nat) : Int) = _
  rw [Int.toNat_natCast, Int.toNat_natCast, Nat.and_two_pow_sub_one_eq_mod]
theorem bitAnd_nat (a b : Nat) : Builtin.bitAnd (a : Int) (b : Int) = ((a &&& b : Nat) : Int) := by
  unfold Builtin.bitAnd
  have h1 : decide ((0 : Int) ≤ (a : Int)) = true := by simp
  have h2 : decide ((0 : Int) ≤ (b : Int)) = true := by simp
  rw [h1, h2]
  show (((a : Int).toNat &&& ((b : Int)).toNat : Nat) : Int) = _
  rw [Int.toNat_natCast, Int.toNat_natCast]
theorem bitNot_nat (a : Nat) : Builtin.bitNot (a : Int) = Int.negSucc a := by
  unfold Builtin.bitNot
  omega
theorem bitNot_neg (a : Nat) : Builtin.bitNot (Int.negSucc a) = (a : Int) := by
  unfold Builtin.bitNot
  omega
theorem bitOr_nat (a b : Nat) : Builtin.bitOr (a : Int) (b : Int) = ((a ||| b : Nat) : Int) := by
  unfold Builtin.bitOr
  rw [bitNot_nat, bitNot_nat]
  unfold Builtin.bitAnd
  have h1 : ∀ x : Nat, decide ((0 : Int) ≤ Int.negSucc x) = false := fun x => decide_eq_false (by omega)
  rw [h1, h1]
  show Builtin.bitNot (Builtin.bitNot (((Builtin.bitNot (Int.negSucc a)).toNat ||| (Builtin.bitNot (Int.negSucc b)).toNat : Nat) : Int)) = _
  rw [bitNot_neg, bitNot_neg, Int.toNat_natCast, Int.toNat_natCast, bitNot_nat, bitNot_neg]
theorem fdiv_nat (a b : Nat) : ((a : Int)).fdiv (b : Int) = ((a / b : Nat) : Int) := by
  rw [Int.fdiv_eq_ediv_of_nonneg _ (by omega)]; rfl
theorem fmod_nat (a b : Nat) : ((a : Int)).fmod (b : Int) = ((a % b : Nat) : Int) := by
  rw [Int.fmod_eq_emod_of_nonneg _ (by omega)]; rfl
theorem shr_nat (c w : Nat) : ((c : Int)).fdiv (2 ^ ((w : Int)).toNat) = ((c / 2 ^ w : Nat) : Int) := by
  rw [Int.toNat_natCast, ← fdiv_nat]
  push_cast
  rfl
theorem shl_nat (c w : Nat) : ((c : Int)) * 2 ^ ((w : Int)).toNat = ((c * 2 ^ w : Nat) : Int) := by
  rw [Int.toNat_natCast]
  push_cast
  rfl
theorem nL_snoc (F : List Nat) (x : Nat) : nL F ++ [MV.int (x : Int)] = nL (F ++ [x]) := by simp
theorem drop_get {A : List Nat} {e : Nat} (h : e < A.length) : A.drop e = A.getD e 0 :: A.drop (e + 1) := by
  rw [List.drop_eq_getElem_cons h, List.getD_eq_getElem?_getD, List.getElem?_eq_getElem h]; rfl

/-! add -/
def addC (w : Nat) : List Nat → List Nat → Nat → List Nat
  | x :: a, y :: b, c => (c + (x + y)) % 2 ^ w :: addC w a b ((c + (x + y)) / 2 ^ w)
  | x :: a, [], c => (c + x) % 2 ^ w :: addC w a [] ((c + x) / 2 ^ w)
  | [], _, c => if 0 < c then [c] else []
def add (w : Nat) (a b : List Nat) : List Nat := if a.length < b.length then addC w b a 0 else addC w a b 0

section
variable {G : Gx} {n : Nat} {Q : MV → List MO → Prop} {H : List MO}
theorem add_spec (ga : GAll G) {i j w : Nat} {A B : List Nat} (hi : H[i]? = some (.list (nL A))) (hj : H[j]? = some (.list (nL B))) (hz : A.length ≤ 10000) (hzb : B.length ≤ 10000) (hw : w ≤ 8) (hn : 1 ≤ n)
    (q : ∀ J r, (H ++ J)[r]? = some (.list (nL (add w A B))) → Q (.ref r) (H ++ J)) : WC G n (.fn (Str.ofString "add")) [.ref i, .ref j, .int (w : Int)] Q H := by
  have go := ga.go
  refine WC_at ff6 (ga.fn 6 (by decide) (by decide) (by decide)) nm6 rfl nc6 hn ?_
  simp only [List.cons_append, List.nil_append, List.map_cons, List.map_nil]
  refine WSs_cut (fun σ' H' => H' = H ∧ ∃ i j A' B' x y z u, σ' = [.ref i, .ref j, .int (w : Int), x, y, z, u] ∧ H[i]? = some (.list (nL A')) ∧ H[j]? = some (.list (nL B')) ∧ A'.length ≤ 10000 ∧ B'.length ≤ A'.length ∧ addC w A' B' 0 = add w A B) ?_ ?_
  · repeat walk_at "m_e"
    simp only [List.length_map]
    refine ⟨fun hc => ?_, fun hc => ?_⟩
    · have hc := ltT hc
      repeat walk_at "m_s"
      exact ⟨rfl, _, _, _, _, _, _, _, _, rfl, hj, hi, hzb, by omega, by rw [add, if_pos (by omega)]⟩
    · have hc := ltF hc
      repeat walk_at "m_s"
      exact ⟨rfl, _, _, _, _, _, _, _, _, rfl, hi, hj, hz, by omega, by rw [add, if_neg (by omega)]⟩
  clear hi hj hz hzb
  intro σ' H' hI
  obtain ⟨e, i, j, A', B', x, y, z, u, rfl, hi, hj, hz, hzb, hs⟩ := hI
  cases e
  rw [← hs] at q
  clear hs
  revert A' B'
  clear A B
  intro A B q hi hj hz hzb
  repeat walk_at "m_s"
  rw [mask_eq]
  refine range_ go (by decide +kernel) ?_
  repeat walk_at "m_s"
  simp only [List.length_map]
  refine ⟨0, _, 1, .inl ⟨rfl, rfl, rfl⟩, by omega, by omega, .inl rfl, ?_⟩
  rw [show (0 : Int) = ((0 : Nat) : Int) from rfl, rs_up]
  refine WFor1_up (fun k σ' H' => ∃ F c v, σ' = [.ref i, .ref j, .int (w : Int), .ref H.length, .int ((c : Nat) : Int), .int ((2 ^ w - 1 : Nat) : Int), v] ∧ H' = H ++ [.list (nL F)] ∧ F.length = k ∧ F ++ addC w (A.drop k) (B.drop k) c = addC w A B 0)
    ⟨[], 0, u, rfl, rfl, rfl, rfl⟩ ?_ ?_
  · intro k σ' H' h1 h2 zq
    refine cps fun zP zh => ?_
    obtain ⟨F, c, v, rfl, rfl, h3, h4⟩ := zq
    refine zh ?_
    clear zh zP
    refine ⟨_, by walk_at "m_slot", ?_⟩
    repeat walk_at "m_s"
    refine IX_nat k (by walk_at "m_hget") rfl (by omega) (by omega) ?_
    repeat walk_at "m_s"
    refine IX_nat k (by walk_at "m_hget") rfl (by omega) (by omega) ?_
    repeat walk_at "m_s"
    walk_at "m_app"
    repeat walk_at "m_s"
    rw [← Int.natCast_add, ← Int.natCast_add, bitAnd_mask]
    walk_at "m_app2"
    repeat walk_at "m_s"
    refine ⟨by omega, ?_⟩
    repeat walk_at "m_s"
    rw [shr_nat, nL_snoc]
    refine ⟨_, _, _, rfl, rfl, by simp; omega, ?_⟩
    rw [← h4, drop_get (A := A) (e := k) (by omega), drop_get (A := B) (e := k) (by omega)]
    simp [addC]
  · intro σ' H' zq
    refine cps fun zP zh => ?_
    obtain ⟨F, c, v, rfl, rfl, h3, h4⟩ := zq
    refine zh ?_
    clear zh zP
    repeat walk_at "m_s"
    refine range_ go (by decide +kernel) ?_
    repeat walk_at "m_s"
    simp only [List.length_map]
    refine ⟨_, _, 1, .inr (.inl ⟨rfl, rfl⟩), by omega, by omega, .inl rfl, ?_⟩
    rw [rs_up]
    refine WFor1_up (fun k σ' H' => ∃ F c v, σ' = [.ref i, .ref j, .int (w : Int), .ref H.length, .int ((c : Nat) : Int), .int ((2 ^ w - 1 : Nat) : Int), v] ∧ H' = H ++ [.list (nL F)] ∧ F.length = k ∧ F ++ addC w (A.drop k) [] c = addC w A B 0)
      ⟨F, c, v, rfl, rfl, by omega, ?_⟩ ?_ ?_
    · rw [← h4]; simp
    · intro k σ' H' h1 h2 zq
      refine cps fun zP zh => ?_
      obtain ⟨F, c, v, rfl, rfl, h3, h4⟩ := zq
      refine zh ?_
      clear zh zP
      refine ⟨_, by walk_at "m_slot", ?_⟩
      repeat walk_at "m_s"
      refine IX_nat k (by walk_at "m_hget") rfl (by omega) (by omega) ?_
      repeat walk_at "m_s"
      walk_at "m_app"
      repeat walk_at "m_s"
      rw [← Int.natCast_add, bitAnd_mask]
      walk_at "m_app2"
      repeat walk_at "m_s"
      refine ⟨by omega, ?_⟩
      repeat walk_at "m_s"
      rw [shr_nat, nL_snoc]
      refine ⟨_, _, _, rfl, rfl, by simp; omega, ?_⟩
      rw [← h4, drop_get (A := A) (e := k) (by omega)]
      simp [addC]
    · intro σ' H' zq
      refine cps fun zP zh => ?_
      obtain ⟨F, c, v, rfl, rfl, h3, h4⟩ := zq
      refine zh ?_
      clear zh zP
      rw [List.drop_of_length_le (by omega)] at h4
      repeat walk_at "m_s"
      refine ⟨fun hc => ?_, fun hc => ?_⟩
      · have hc := ltT hc
        repeat walk_at "m_s"
        walk_at "m_app"
        repeat walk_at "m_s"
        walk_at "m_app2"
        repeat walk_at "m_s"
        rw [nL_snoc]
        rw [addC, if_pos (by omega)] at h4
        exact q _ _ (by rw [← h4]; exact hget_new)
      · have hc := ltF hc
        repeat walk_at "m_s"
        rw [addC, if_neg (by omega), List.append_nil] at h4
        exact q _ _ (by rw [← h4]; exact hget_new)
end
/-! sub -/
def subC (w : Nat) : List Nat → List Nat → Nat → List Nat
  | x :: a, y :: b, c => if x < c + y then (x + 2 ^ w - (c + y)) :: subC w a b 1 else (x - (c + y)) :: subC w a b 0
  | x :: a, [], c => if x < c then (x + 2 ^ w - c) :: subC w a [] 1 else (x - c) :: subC w a [] 0
  | [], _, _ => []
def sub (w : Nat) (a b : List Nat) : List Nat := norm (subC w a b 0)
theorem getD_out {B : List Nat} {k : Nat} (h : B.length ≤ k) : B.getD k 0 = 0 := by
  rw [List.getD_eq_getElem?_getD, List.getElem?_eq_none h]; rfl
theorem subC_step {w : Nat} {A B : List Nat} {k c : Nat} (h : k < A.length) : subC w (A.drop k) (B.drop k) c =
    if A.getD k 0 < c + B.getD k 0 then (A.getD k 0 + 2 ^ w - (c + B.getD k 0)) :: subC w (A.drop (k + 1)) (B.drop (k + 1)) 1 else (A.getD k 0 - (c + B.getD k 0)) :: subC w (A.drop (k + 1)) (B.drop (k + 1)) 0 := by
  rw [drop_get (A := A) (e := k) h]
  by_cases hb : k < B.length
  · rw [drop_get (A := B) (e := k) hb]; rfl
  · rw [List.drop_of_length_le (l := B) (by omega), List.drop_of_length_le (l := B) (by omega), getD_out (B := B) (by omega)]; simp [subC]
theorem getD_lt {B : List Nat} {m : Nat} (h : ∀ y ∈ B, y < m) (hm : 0 < m) (k : Nat) : B.getD k 0 < m := by
  by_cases hk : k < B.length
  · rw [List.getD_eq_getElem?_getD, List.getElem?_eq_getElem hk]; exact h _ (List.getElem_mem hk)
  · rw [getD_out (by omega)]; exact hm

section
variable {G : Gx} {n : Nat} {Q : MV → List MO → Prop} {H : List MO}
theorem sub_spec (ga : GAll G) {i j w : Nat} {A B : List Nat} (hi : H[i]? = some (.list (nL A))) (hj : H[j]? = some (.list (nL B))) (hz : A.length ≤ 10000) (hzb : B.length ≤ 10000) (hw : w ≤ 8) (hB : ∀ y ∈ B, y < 2 ^ w) (hc : cmp A B ≠ 0) (hn : 2 ≤ n)
    (q : ∀ J r, (H ++ J)[r]? = some (.list (nL (sub w A B))) → Q (.ref r) (H ++ J)) : WC G n (.fn (Str.ofString "sub")) [.ref i, .ref j, .int (w : Int)] Q H := by
  have go := ga.go
  have hp : 0 < 2 ^ w := Nat.two_pow_pos w
  refine WC_at ff7 (ga.fn 7 (by decide) (by decide) (by decide)) nm7 rfl nc7 hn ?_
  simp only [List.cons_append, List.nil_append, List.map_cons, List.map_nil]
  refine WSs_cons ?_
  repeat walk_at "m_e"
  refine WC_le (by omega) (compare_spec (n := 1) ga hi hj hz hzb (by omega) ?_)
  repeat walk_at "m_e"
  refine ⟨fun h => absurd (ltT h) (by omega), fun _ => ?_⟩
  repeat walk_at "m_s"
  rw [pow_nat]
  refine range_ go (by decide +kernel) ?_
  repeat walk_at "m_e"
  simp only [List.length_map]
  refine ⟨0, _, 1, .inl ⟨rfl, rfl, rfl⟩, by omega, by omega, .inl rfl, ?_⟩
  rw [show (0 : Int) = ((0 : Nat) : Int) from rfl, rs_up]
  refine WFor1_up (fun k σ' H' => ∃ F c v v', σ' = [.ref i, .ref j, .int (w : Int), .ref H.length, .int ((c : Nat) : Int), .int ((2 ^ w : Nat) : Int), v, v'] ∧ H' = H ++ [.list (nL F)] ∧ F.length = k ∧ c ≤ 1 ∧ F ++ subC w (A.drop k) (B.drop k) c = subC w A B 0)
    ⟨[], 0, _, _, rfl, rfl, rfl, by omega, rfl⟩ ?_ ?_
  · intro k σ' H' h1 h2 zq
    refine cps fun zP zh => ?_
    obtain ⟨F, c, v, v', rfl, rfl, h3, h5, h4⟩ := zq
    refine zh ?_
    clear zh zP
    have hy := getD_lt hB hp k
    rw [subC_step (by omega)] at h4
    refine ⟨_, by walk_at "m_slot", ?_⟩
    refine WSs_cut (fun σ' H' => σ' = [.ref i, .ref j, .int (w : Int), .ref H.length, .int ((c : Nat) : Int), .int ((2 ^ w : Nat) : Int), .int (k : Int), .int ((A.getD k 0 : Int) - c - B.getD k 0)] ∧ H' = H ++ [.list (nL F)]) ?_ ?_
    · repeat walk_at "m_e"
      refine IX_nat k (by walk_at "m_hget") rfl (by omega) (by omega) ?_
      repeat walk_at "m_e"
      simp only [List.length_map]
      refine ⟨fun h => ?_, fun h => ?_⟩
      · have h := ltT h
        repeat walk_at "m_e"
        refine IX_nat k (by walk_at "m_hget") rfl (by omega) (by omega) ?_
        repeat walk_at "m_e"
        exact ⟨rfl, rfl⟩
      · have h := ltF h
        repeat walk_at "m_e"
        rw [getD_out (B := B) (k := k) (by omega)]
        exact ⟨rfl, rfl⟩
    rintro σ' H' ⟨rfl, rfl⟩
    generalize A.getD k 0 = X at *
    generalize B.getD k 0 = Y at *
    repeat walk_at "m_s"
    by_cases hl : X < c + Y
    · rw [if_pos hl] at h4
      refine ⟨fun _ => ?_, fun h => absurd (ltF h) (by omega)⟩
      repeat walk_at "m_s"
      walk_at "m_app"
      repeat walk_at "m_e"
      refine ⟨fun _ => ?_, fun h => absurd (ltF h) (by omega)⟩
      repeat walk_at "m_e"
      rw [show (X : Int) - c - Y + ((2 ^ w : Nat) : Int) = ((X + 2 ^ w - (c + Y) : Nat) : Int) by omega]
      walk_at "m_app2"
      repeat walk_at "m_e"
      rw [nL_snoc]
      exact ⟨_, 1, _, _, rfl, rfl, by simp; omega, by omega, by rw [← h4]; simp⟩
    · rw [if_neg hl] at h4
      refine ⟨fun h => absurd (ltT h) (by omega), fun _ => ?_⟩
      repeat walk_at "m_s"
      walk_at "m_app"
      repeat walk_at "m_e"
      refine ⟨fun h => absurd (ltT h) (by omega), fun _ => ?_⟩
      repeat walk_at "m_e"
      rw [show (X : Int) - c - Y = ((X - (c + Y) : Nat) : Int) by omega]
      walk_at "m_app2"
      repeat walk_at "m_e"
      rw [nL_snoc]
      exact ⟨_, 0, _, _, rfl, rfl, by simp; omega, by omega, by rw [← h4]; simp⟩
  · intro σ' H' zq
    refine cps fun zP zh => ?_
    obtain ⟨F, c, v, v', rfl, rfl, h3, h5, h4⟩ := zq
    refine zh ?_
    clear zh zP
    rw [List.drop_of_length_le (by omega), subC, List.append_nil] at h4
    repeat walk_at "m_s"
    refine WC_le (by omega) (normal_spec (n := 1) ga hget_new (by omega) (by omega) fun J r hr => ?_)
    rw [List.append_assoc] at hr ⊢
    exact q _ _ (by rw [sub, ← h4]; exact hr)
end
/-! divrem_limb -/
def dl (limb w : Nat) : List Nat → List Nat × Nat
  | [] => ([], 0)
  | x :: a => (((dl limb w a).2 * 2 ^ w ||| x) / limb :: (dl limb w a).1, ((dl limb w a).2 * 2 ^ w ||| x) % limb)
theorem dl_lt {limb w : Nat} (h : 0 < limb) : ∀ A, (dl limb w A).2 < limb
  | [] => h
  | _ :: _ => Nat.mod_lt _ h
theorem dl_len {limb w : Nat} : ∀ A, (dl limb w A).1.length = A.length
  | [] => rfl
  | _ :: A => by simp [dl, dl_len A]
theorem set_rep (k x : Nat) (L : List Nat) : (List.replicate (k + 1) 0 ++ L).set k x = List.replicate k 0 ++ x :: L := by
  induction k with
  | zero => rfl
  | succ k ih => rw [List.replicate_succ, List.cons_append, List.set_cons_succ, ih]; rfl

section
variable {G : Gx} {n : Nat} {Q : MV → List MO → Prop} {H : List MO}
theorem divrem_limb_spec (ga : GAll G) {i w limb : Nat} {A : List Nat} (hi : H[i]? = some (.list (nL A))) (hz : A.length ≤ 10000) (hw : w ≤ 8) (hl : 0 < limb) (hl' : limb < 2 ^ 20) (hn : 2 ≤ n)
    (q : ∀ J r u, (H ++ J)[r]? = some (.tup [.ref u, .int ((dl limb w A).2 : Nat)]) → (H ++ J)[u]? = some (.list (nL (norm (dl limb w A).1))) → Q (.ref r) (H ++ J)) :
    WC G n (.fn (Str.ofString "divrem_limb")) [.ref i, .int (limb : Int), .int (w : Int)] Q H := by
  have go := ga.go
  refine WC_at ff8 (ga.fn 8 (by decide) (by decide) (by decide)) nm8 rfl nc8 hn ?_
  simp only [List.cons_append, List.nil_append, List.map_cons, List.map_nil]
  refine WSs_cons ?_
  repeat walk_at "m_e"
  refine ⟨fun h => absurd (eqT h) (by omega), fun _ => ?_⟩
  repeat walk_at "m_s"
  simp only [List.length_map]
  have q1 : ∀ J r u, (H ++ [.list [.int 0]] ++ J)[r]? = some (.tup [.ref u, .int ((dl limb w A).2 : Nat)]) → (H ++ [.list [.int 0]] ++ J)[u]? = some (.list (nL (norm (dl limb w A).1))) → Q (.ref r) (H ++ [.list [.int 0]] ++ J) := by
    intro J r u h1 h2
    rw [List.append_assoc] at *
    exact q _ _ _ h1 h2
  have hi1 : (H ++ [MO.list [.int 0]])[i]? = some (.list (nL A)) := hget_old hi
  clear hi q
  generalize H ++ [MO.list [.int 0]] = H at *
  refine range_ go (by decide +kernel) ?_
  repeat walk_at "m_e"
  simp only [List.length_map]
  refine ⟨_, _, -1, .inr (.inr rfl), by omega, by omega, .inr rfl, ?_⟩
  rw [rs_down]
  refine WFor1_down (fun k σ' H' => k ≤ A.length ∧ ∃ v, σ' = [.ref i, .int (limb : Int), .int (w : Int), .ref H.length, .int ((dl limb w (A.drop k)).2 : Nat), v] ∧ H' = H ++ [.list (nL (List.replicate k 0 ++ (dl limb w (A.drop k)).1))])
    ⟨Nat.le_refl _, _, by rw [List.drop_length]; rfl, by rw [List.drop_length, dl, List.append_nil]⟩ ?_ ?_
  · rintro k σ' H' h1 ⟨_, v, rfl, rfl⟩
    have hlt := dl_lt (w := w) hl (A.drop (k + 1))
    refine ⟨_, by walk_at "m_slot", ?_⟩
    refine WSs_cons ?_
    repeat walk_at "m_e"
    refine IX_nat k (by walk_at "m_hget") rfl (by omega) (by omega) ?_
    repeat walk_at "m_e"
    rw [shl_nat, bitOr_nat]
    repeat walk_at "m_s"
    rw [fdiv_nat]
    repeat walk_at "m_s"
    have hlen := dl_len (limb := limb) (w := w) (A.drop (k + 1))
    walk_at "m_set"
    repeat walk_at "m_s"
    refine ⟨by omega, ?_⟩
    repeat walk_at "m_s"
    rw [fmod_nat, set_rep]
    refine ⟨by omega, .int (k : Int), ?_, ?_⟩
    · rw [drop_get (A := A) (e := k) h1]; rfl
    · rw [drop_get (A := A) (e := k) h1]; rfl
  · rintro σ' H' ⟨_, v, rfl, rfl⟩
    rw [List.drop_zero]
    repeat walk_at "m_s"
    refine WC_le (by omega) (normal_spec (n := 1) ga hget_new (by simp [dl_len]; omega) (by omega) fun J r hr => ?_)
    repeat walk_at "m_s"
    rw [List.append_assoc, List.append_assoc] at *
    refine q1 _ _ r ?_ ?_
    · rw [← List.append_assoc, ← List.append_assoc]; exact hget_new
    · rw [← List.append_assoc, ← List.append_assoc]; exact hget_old (by rw [List.append_assoc]; simpa using hr)
end
/-! shifts -/
def shlC (few w : Nat) : List Nat → Nat → List Nat
  | [], c => if 0 < c then [c] else []
  | x :: a, c => (c ||| x * 2 ^ few) % 2 ^ w :: shlC few w a ((c ||| x * 2 ^ few) / 2 ^ w)
def shl (w n : Nat) (a : List Nat) : List Nat := match a with
  | [] => []
  | x :: r => List.replicate (n / w) 0 ++ shlC (n % w) w (x :: r) 0
def shrC (few w : Nat) : List Nat → List Nat
  | [] => []
  | x :: a => (x / 2 ^ few ||| a.getD 0 0 * 2 ^ (w - few)) % 2 ^ w :: shrC few w a
def shr (w n : Nat) (a : List Nat) : List Nat := norm (shrC (n % w) w (a.drop (n / w)))
theorem drop_getD (A : List Nat) (k : Nat) : (A.drop k).getD 0 0 = A.getD k 0 := by
  simp [List.getD_eq_getElem?_getD]

section
variable {G : Gx} {n : Nat} {Q : MV → List MO → Prop} {H : List MO}
theorem shift_left_spec (ga : GAll G) {i w m : Nat} {A : List Nat} (hi : H[i]? = some (.list (nL A))) (hz : A.length ≤ 10000) (hw0 : 0 < w) (hw : w ≤ 8) (hm : m ≤ 1000) (hA : ∀ x ∈ A, x < 2 ^ w) (hn : 1 ≤ n)
    (q : ∀ J r, (H ++ J)[r]? = some (.list (nL (shl w m A))) → Q (.ref r) (H ++ J)) : WC G n (.fn (Str.ofString "shift_left")) [.ref i, .int (m : Int), .int (w : Int)] Q H := by
  have go := ga.go
  have hp : 2 ^ w ≤ 2 ^ 8 := Nat.pow_le_pow_right (by omega) hw
  have hdiv : m / w ≤ m := Nat.div_le_self m w
  have hmod : m % w < w := Nat.mod_lt _ hw0
  refine WC_at ff9 (ga.fn 9 (by decide) (by decide) (by decide)) nm9 rfl nc9 hn ?_
  simp only [List.cons_append, List.nil_append, List.map_cons, List.map_nil]
  refine WSs_cons ?_
  repeat walk_at "m_e"
  simp only [List.length_map]
  refine ⟨fun h => ?_, fun h => ?_⟩
  · have h := eqT h
    repeat walk_at "m_s"
    have hA : A = [] := List.length_eq_zero_iff.mp (by omega)
    subst hA
    exact q [.list []] _ (by simp [shl])
  have h := eqF h
  have hs : shl w m A = List.replicate (m / w) 0 ++ shlC (m % w) w A 0 := by
    cases A with
    | nil => simp at h
    | cons x r => rfl
  rw [hs] at q
  clear hs
  repeat walk_at "m_s"
  rw [fdiv_nat, fmod_nat]
  repeat walk_at "m_s"
  rw [mask_eq]
  have q1 : ∀ J r, (H ++ [.list [.int 0]] ++ J)[r]? = some (.list (nL (List.replicate (m / w) 0 ++ shlC (m % w) w A 0))) → Q (.ref r) (H ++ [.list [.int 0]] ++ J) := by
    intro J r h1
    rw [List.append_assoc] at *
    exact q _ _ h1
  have hi1 : (H ++ [MO.list [.int 0]])[i]? = some (.list (nL A)) := hget_old hi
  clear hi q
  generalize H ++ [MO.list [.int 0]] = H at *
  generalize m % w = few at *
  have hZ : (List.replicate (m / w) 0).length ≤ 1000 := by simp; omega
  generalize List.replicate (m / w) 0 = Z at *
  refine WS_forL ?_ ?hf
  case hf => intro _ _; rfl
  repeat walk_at "m_e"
  refine ⟨_, _, rfl, by walk_at "m_hget", ?_⟩
  refine WFor1_items (fun l σ' H' => ∃ R F c v, l = nL R ∧ σ' = [.ref i, .int (m : Int), .int (w : Int), .int ((m / w : Nat) : Int), .int (few : Int), .ref H.length, .int ((c : Nat) : Int), .int ((2 ^ w - 1 : Nat) : Int), v] ∧ H' = H ++ [.list (nL F)] ∧
      F.length + R.length ≤ 11000 ∧ (∀ x ∈ R, x < 2 ^ w) ∧ F ++ shlC few w R c = Z ++ shlC few w A 0)
    ⟨A, Z, 0, _, rfl, rfl, rfl, by omega, hA, rfl⟩ ?_ ?_
  · intro v r σ' H' zq
    refine cps fun zP zh => ?_
    obtain ⟨R, F, c, v', e, rfl, rfl, h3, h5, h4⟩ := zq
    refine zh ?_
    clear zh zP
    refine ⟨hget_old hi1, ?_⟩
    cases R with
    | nil => cases e
    | cons x R =>
      simp only [List.map_cons, List.cons.injEq] at e
      obtain ⟨rfl, rfl⟩ := e
      have hx := h5 x (.head _)
      simp only [List.length_cons] at h3
      refine ⟨_, by walk_at "m_slot", ?_⟩
      refine WSs_cons ?_
      repeat walk_at "m_e"
      rw [shl_nat, bitOr_nat]
      refine WSs_cons ?_
      walk_at "m_app"
      repeat walk_at "m_e"
      rw [bitAnd_mask]
      walk_at "m_app2"
      repeat walk_at "m_s"
      refine ⟨by omega, ?_⟩
      repeat walk_at "m_s"
      rw [shr_nat, nL_snoc]
      exact ⟨R, _, _, _, rfl, rfl, rfl, by simp; omega, fun y hy => h5 y (.tail _ hy), by rw [← h4]; simp [shlC]⟩
  · intro σ' H' zq
    refine cps fun zP zh => ?_
    obtain ⟨R, F, c, v', e, rfl, rfl, h3, h5, h4⟩ := zq
    refine zh ?_
    clear zh zP
    refine ⟨hget_old hi1, ?_⟩
    cases R with
    | cons x R => cases e
    | nil =>
      repeat walk_at "m_s"
      refine ⟨fun hc => ?_, fun hc => ?_⟩
      · have hc := ltT hc
        refine WSs_cons ?_
        walk_at "m_app"
        repeat walk_at "m_e"
        walk_at "m_app2"
        repeat walk_at "m_s"
        rw [nL_snoc]
        rw [shlC, if_pos (by omega)] at h4
        exact q1 _ _ (by rw [← h4]; exact hget_new)
      · have hc := ltF hc
        repeat walk_at "m_s"
        rw [shlC, if_neg (by omega), List.append_nil] at h4
        exact q1 _ _ (by rw [← h4]; exact hget_new)
theorem shift_right_spec (ga : GAll G) {i w m : Nat} {A : List Nat} (hi : H[i]? = some (.list (nL A))) (hz : A.length ≤ 10000) (hw0 : 0 < w) (hw : w ≤ 8) (hm : m ≤ 1000) (hA : ∀ x ∈ A, x < 2 ^ w) (hn : 2 ≤ n)
    (q : ∀ J r, (H ++ J)[r]? = some (.list (nL (shr w m A))) → Q (.ref r) (H ++ J)) : WC G n (.fn (Str.ofString "shift_right")) [.ref i, .int (m : Int), .int (w : Int)] Q H := by
  have go := ga.go
  have hp : 2 ^ w ≤ 2 ^ 8 := Nat.pow_le_pow_right (by omega) hw
  have hp0 : 0 < 2 ^ w := Nat.two_pow_pos w
  have hdiv : m / w ≤ m := Nat.div_le_self m w
  have hmod : m % w < w := Nat.mod_lt _ hw0
  refine WC_at ff10 (ga.fn 10 (by decide) (by decide) (by decide)) nm10 rfl nc10 hn ?_
  simp only [List.cons_append, List.nil_append, List.map_cons, List.map_nil]
  refine WSs_cons ?_
  repeat walk_at "m_e"
  rw [fdiv_nat, fmod_nat]
  repeat walk_at "m_s"
  rw [mask_eq]
  rw [shr] at q
  generalize m % w = few at *
  generalize hsp : m / w = spots at *
  refine range_ go (by decide +kernel) ?_
  repeat walk_at "m_e"
  simp only [List.length_map]
  refine ⟨_, _, 1, .inr (.inl ⟨rfl, rfl⟩), by omega, by omega, .inl rfl, ?_⟩
  rw [rs_up]
  refine WFor1_up (fun k σ' H' => ∃ F v v', σ' = [.ref i, .int (m : Int), .int (w : Int), .int (spots : Int), .int (few : Int), .ref H.length, .int ((2 ^ w - 1 : Nat) : Int), v, v'] ∧ H' = H ++ [.list (nL F)] ∧ F.length + spots = k ∧ F ++ shrC few w (A.drop k) = shrC few w (A.drop spots))
    ⟨[], _, _, rfl, rfl, by simp, rfl⟩ ?_ ?_
  · intro k σ' H' h1 h2 zq
    refine cps fun zP zh => ?_
    obtain ⟨F, v, v', rfl, rfl, h3, h4⟩ := zq
    refine zh ?_
    clear zh zP
    have hk : k < A.length := by omega
    have hy := getD_lt hA hp0 (k + 1)
    rw [drop_get (A := A) (e := k) hk, shrC, drop_getD] at h4
    refine ⟨_, by walk_at "m_slot", ?_⟩
    refine WSs_cut (fun σ' H' => σ' = [.ref i, .int (m : Int), .int (w : Int), .int (spots : Int), .int (few : Int), .ref H.length, .int ((2 ^ w - 1 : Nat) : Int), .int (k : Int), .int (A.getD (k + 1) 0 : Nat)] ∧ H' = H ++ [.list (nL F)]) ?_ ?_
    · repeat walk_at "m_e"
      simp only [List.length_map]
      refine ⟨fun h => ?_, fun h => ?_⟩
      · have h := ltT h
        repeat walk_at "m_e"
        refine IX_nat (k + 1) (by walk_at "m_hget") (by omega) (by omega) (by omega) ?_
        repeat walk_at "m_e"
        exact ⟨rfl, rfl⟩
      · have h := ltF h
        repeat walk_at "m_e"
        rw [getD_out (B := A) (k := k + 1) (by omega)]
        exact ⟨rfl, rfl⟩
    rintro σ' H' ⟨rfl, rfl⟩
    refine WSs_cons ?_
    walk_at "m_app"
    repeat walk_at "m_e"
    refine IX_nat k (by walk_at "m_hget") rfl (by omega) (by omega) ?_
    repeat walk_at "m_e"
    rw [shr_nat, show (w : Int) - (few : Int) = ((w - few : Nat) : Int) by omega, shl_nat, bitOr_nat, bitAnd_mask]
    walk_at "m_app2"
    repeat walk_at "m_s"
    rw [nL_snoc]
    exact ⟨_, _, _, rfl, rfl, by simp; omega, by rw [← h4]; simp⟩
  · intro σ' H' zq
    refine cps fun zP zh => ?_
    obtain ⟨F, v, v', rfl, rfl, h3, h4⟩ := zq
    refine zh ?_
    clear zh zP
    rw [List.drop_of_length_le (by omega), shrC, List.append_nil] at h4
    repeat walk_at "m_s"
    refine WC_le (by omega) (normal_spec (n := 1) ga hget_new (by omega) (by omega) fun J r hr => ?_)
    rw [List.append_assoc] at hr ⊢
    exact q _ _ (by rw [← h4]; exact hr)
/-- bits of one limb -/
theorem bits_spec (ga : GAll G) {i w x : Nat} (hi : H[i]? = some (.list (nL [x]))) (hw : w ≤ 8) (hn : 1 ≤ n)
    (q : Q (.int ((Builtin.Int.intBits (x : Int) : Nat) : Int)) H) : WC G n (.fn (Str.ofString "bits")) [.ref i, .int (w : Int)] Q H := by
  have go := ga.go
  refine WC_at ff11 (ga.fn 11 (by decide) (by decide) (by decide)) nm11 rfl nc11 hn ?_
  simp only [List.cons_append, List.nil_append, List.map_cons, List.map_nil]
  refine WSs_cons ?_
  repeat walk_at "m_e"
  simp only [List.length_map, List.length_cons, List.length_nil]
  refine ⟨fun h => ?_, fun h => absurd (ltF h) (by decide)⟩
  repeat walk_at "m_e"
  refine WE_bits ?_ ?he
  case he => intro _; rfl
  repeat walk_at "m_e"
  refine IX.neg hi (by decide) (by simp) (x := .int (x : Int)) rfl (by decide) ?_
  repeat walk_at "m_e"
  simpa using q
end
/-! mul_school -/
def row (w limb : Nat) : List Nat → List Nat → Nat → List Nat
  | y :: b, f :: fs, c => (c + (f + limb * y)) % 2 ^ w :: row w limb b fs ((c + (f + limb * y)) / 2 ^ w)
  | [], _ :: fs, c => c :: fs
  | _, [], _ => []
def mulC (w : Nat) (b : List Nat) : List Nat → List Nat → List Nat
  | [], f => f
  | x :: a, f => match row w x b f 0 with
    | [] => []
    | y :: f' => y :: mulC w b a f'
def mul (w : Nat) (a b : List Nat) : List Nat := norm (mulC w b a (List.replicate (a.length + b.length) 0))
theorem row_len {w limb : Nat} : ∀ {b fs : List Nat} {c : Nat}, (row w limb b fs c).length = fs.length
  | _ :: b, _ :: fs, c => by simp [row, row_len (b := b) (fs := fs)]
  | [], _ :: fs, c => by simp [row]
  | [], [], _ => by simp [row]
  | _ :: _, [], _ => by simp [row]
theorem getD_mid {P R : List Nat} {f : Nat} {fs : List Nat} : (P ++ (R ++ f :: fs)).getD (P.length + R.length) 0 = f := by
  rw [List.getD_eq_getElem?_getD, List.getElem?_append_right (by omega), List.getElem?_append_right (by omega)]
  simp
theorem set_mid {P R : List Nat} {f x : Nat} {fs : List Nat} : (P ++ (R ++ f :: fs)).set (P.length + R.length) x = P ++ (R ++ x :: fs) := by
  rw [List.set_append_right _ _ (by omega), List.set_append_right _ _ (by omega)]
  simp

section
variable {G : Gx} {n : Nat} {Q : MV → List MO → Prop} {H : List MO}
theorem mul_spec (ga : GAll G) {i j w : Nat} {A B : List Nat} (hi : H[i]? = some (.list (nL A))) (hj : H[j]? = some (.list (nL B))) (hz : A.length ≤ 4000) (hzb : B.length ≤ 4000) (hw : w ≤ 8) (hB : ∀ y ∈ B, y < 2 ^ w) (hn : 2 ≤ n)
    (q : ∀ J r, (H ++ J)[r]? = some (.list (nL (mul w A B))) → Q (.ref r) (H ++ J)) : WC G n (.fn (Str.ofString "mul_school")) [.ref i, .ref j, .int (w : Int)] Q H := by
  have go := ga.go
  have hp : 2 ^ w ≤ 2 ^ 8 := Nat.pow_le_pow_right (by omega) hw
  refine WC_at ff27 (ga.fn 27 (by decide) (by decide) (by decide)) nm27 rfl nc27 hn ?_
  simp only [List.cons_append, List.nil_append, List.map_cons, List.map_nil]
  refine WSs_cons ?_
  repeat walk_at "m_e"
  simp only [List.length_map]
  rw [mask_eq]
  have q1 : ∀ J r, (H ++ [.list [.int 0]] ++ J)[r]? = some (.list (nL (mul w A B))) → Q (.ref r) (H ++ [.list [.int 0]] ++ J) := by
    intro J r h1
    rw [List.append_assoc] at *
    exact q _ _ h1
  rw [mul] at q1
  have hi1 : (H ++ [MO.list [.int 0]])[i]? = some (.list (nL A)) := hget_old hi
  have hj1 : (H ++ [MO.list [.int 0]])[j]? = some (.list (nL B)) := hget_old hj
  clear hi hj q
  generalize H ++ [MO.list [.int 0]] = H at *
  have hZ : (List.replicate (A.length + B.length) 0).length = A.length + B.length := by simp
  generalize List.replicate (A.length + B.length) 0 = Z at *
  refine WSs_cons ?_
  refine WS_forE go ?hk ?_ ?he ?hc ?hf
  case hk => decide +kernel
  case he => intro _; rfl
  case hc => intro _; rfl
  case hf => intro _ _; rfl
  repeat walk_at "m_e"
  refine ⟨_, _, rfl, by walk_at "m_hget", ?_⟩
  refine WForE_items (fun k l σ' H' => ∃ A' P S v1 v2 v3 v4 v5, l = nL A' ∧ σ' = [.ref i, .ref j, .int (w : Int), .ref H.length, .int ((2 ^ w - 1 : Nat) : Int), v1, v2, v3, v4, v5] ∧ H' = H ++ [.list (nL (P ++ S))] ∧ P.length = k ∧ A'.length + k = A.length ∧
      S.length = A'.length + B.length ∧ P ++ mulC w B A' S = mulC w B A Z)
    ⟨A, [], Z, _, _, _, _, _, rfl, rfl, rfl, rfl, rfl, hZ, rfl⟩ ?_ ?_
  · intro k v r σ' H' zq
    refine cps fun zP zh => ?_
    obtain ⟨A', P, S, v1, v2, v3, v4, v5, e, rfl, rfl, h1, h2, h3, h4⟩ := zq
    refine zh ?_
    clear zh zP
    refine ⟨hget_old hi1, ?_⟩
    cases A' with
    | nil => cases e
    | cons x A' =>
      simp only [List.map_cons, List.cons.injEq] at e
      obtain ⟨rfl, rfl⟩ := e
      simp only [List.length_cons] at h2 h3
      have hrl := row_len (w := w) (limb := x) (b := B) (fs := S) (c := 0)
      refine ⟨_, by walk_at "m_slot", _, by walk_at "m_slot", ?_⟩
      repeat walk_at "m_s"
      refine WS_forE go ?hk ?_ ?he ?hc ?hf
      case hk => decide +kernel
      case he => intro _; rfl
      case hc => intro _; rfl
      case hf => intro _ _; rfl
      repeat walk_at "m_e"
      refine ⟨_, _, rfl, by walk_at "m_hget", ?_⟩
      refine WForE_items (fun s l σ' H' => ∃ B' R S' c v4 v5, l = nL B' ∧ σ' = [.ref i, .ref j, .int (w : Int), .ref H.length, .int ((2 ^ w - 1 : Nat) : Int), .int (k : Int), .int (x : Int), .int ((c : Nat) : Int), v4, v5] ∧ H' = H ++ [.list (nL (P ++ (R ++ S')))] ∧
          R.length = s ∧ B'.length + s = B.length ∧ R.length + S'.length = S.length ∧ (∀ y ∈ B', y < 2 ^ w) ∧ R ++ row w x B' S' c = row w x B S 0)
        ⟨B, [], S, 0, _, _, rfl, rfl, rfl, rfl, rfl, by simp, hB, rfl⟩ ?_ ?_
      · intro s v r σ' H' zq
        refine cps fun zP zh => ?_
        obtain ⟨B', R, S', c, v4, v5, e, rfl, rfl, g1, g2, g3, g5, g4⟩ := zq
        refine zh ?_
        clear zh zP
        refine ⟨hget_old hj1, ?_⟩
        cases B' with
        | nil => cases e
        | cons y B' =>
          simp only [List.map_cons, List.cons.injEq] at e
          obtain ⟨rfl, rfl⟩ := e
          simp only [List.length_cons] at g2
          have hy := g5 y (.head _)
          cases S' with
          | nil => simp at g3; omega
          | cons f S' =>
            simp only [List.length_cons] at g3
            refine ⟨_, by walk_at "m_slot", _, by walk_at "m_slot", ?_⟩
            refine WSs_cons ?_
            repeat walk_at "m_e"
            refine IX_nat (P.length + R.length) (by walk_at "m_hget") (by omega) (by simp <;> omega) (by simp <;> omega) ?_
            rw [getD_mid]
            repeat walk_at "m_e"
            rw [← Int.natCast_mul, ← Int.natCast_add, ← Int.natCast_add]
            repeat walk_at "m_s"
            rw [bitAnd_mask]
            repeat walk_at "m_s"
            rw [← Int.natCast_add]
            walk_at "m_set"
            repeat walk_at "m_s"
            refine ⟨by omega, ?_⟩
            repeat walk_at "m_s"
            rw [shr_nat, ← h1, ← g1, set_mid]
            exact ⟨B', R ++ [(c + (f + x * y)) % 2 ^ w], S', _, _, _, rfl, rfl, by simp, by simp, by omega, by simp; omega, fun z hz => g5 z (.tail _ hz), by rw [← g4]; simp [row]⟩
      · intro s σ' H' zq
        refine cps fun zP zh => ?_
        obtain ⟨B', R, S', c, v4, v5, e, rfl, rfl, g1, g2, g3, g5, g4⟩ := zq
        refine zh ?_
        clear zh zP
        refine ⟨hget_old hj1, ?_⟩
        cases B' with
        | cons y B' => cases e
        | nil =>
          simp only [List.length_nil] at g2
          cases S' with
          | nil => simp at g3; omega
          | cons f S' =>
            repeat walk_at "m_s"
            simp only [List.length_map]
            rw [← Int.natCast_add]
            walk_at "m_set"
            repeat walk_at "m_s"
            rw [← h1, show B.length = R.length by omega, set_mid]
            have hr : row w x B S 0 = R ++ c :: S' := by rw [← g4]; rfl
            cases hR : R ++ c :: S' with
            | nil => simp at hR
            | cons z T =>
              rw [hR] at hr
              refine ⟨A', P ++ [z], T, _, _, _, _, _, rfl, rfl, by simp, by simp <;> omega, by omega, ?_, ?_⟩
              · rw [hr] at hrl; simp at hrl; omega
              · rw [← h4, mulC, hr]; simp
  · intro k σ' H' zq
    refine cps fun zP zh => ?_
    obtain ⟨A', P, S, v1, v2, v3, v4, v5, e, rfl, rfl, h1, h2, h3, h4⟩ := zq
    refine zh ?_
    clear zh zP
    refine ⟨hget_old hi1, ?_⟩
    cases A' with
    | cons x A' => cases e
    | nil =>
      repeat walk_at "m_s"
      simp only [List.length_nil] at h2 h3
      refine WC_le (by omega) (normal_spec (n := 1) ga hget_new (by simp; omega) (by omega) fun J r hr => ?_)
      rw [List.append_assoc] at hr ⊢
      exact q1 _ _ (by rw [← h4]; exact hr)
end
/-! the pieces of the long division -/
def guessC (w t0 first second : Nat) : Nat → Nat → Nat → Nat
  | 0, limb, _ => limb
  | m + 1, limb, rest => if rest < 2 ^ w ∧ (rest * 2 ^ w ||| t0) < limb * second then guessC w t0 first second m (limb - 1) (rest + first) else limb
def guess (w t0 t1 t2 first second : Nat) : Nat :=
  guessC w t0 first second (2 ^ w) (min ((t2 * 2 ^ w ||| t1) / first) (2 ^ w - 1)) ((t2 * 2 ^ w ||| t1) - min ((t2 * 2 ^ w ||| t1) / first) (2 ^ w - 1) * first)
theorem guessC_le {w t0 first second : Nat} : ∀ {m limb rest : Nat}, guessC w t0 first second m limb rest ≤ limb
  | 0, _, _ => Nat.le_refl _
  | m + 1, limb, rest => by
    unfold guessC
    split
    · exact Nat.le_trans guessC_le (Nat.sub_le _ _)
    · exact Nat.le_refl _
theorem guess_lt {w t0 t1 t2 first second : Nat} : guess w t0 t1 t2 first second < 2 ^ w := by
  have h1 : guess w t0 t1 t2 first second ≤ _ := guessC_le
  have h2 := Nat.min_le_right ((t2 * 2 ^ w ||| t1) / first) (2 ^ w - 1)
  have h3 := Nat.two_pow_pos w
  omega

def takeA (w limb : Nat) : List Nat → List Nat → Nat → List Nat × Nat
  | y :: b, f :: fs, c =>
    if f < (limb * y + c) % 2 ^ w then ((f + 2 ^ w - (limb * y + c) % 2 ^ w) :: (takeA w limb b fs ((limb * y + c) / 2 ^ w + 1)).1, (takeA w limb b fs ((limb * y + c) / 2 ^ w + 1)).2)
    else ((f - (limb * y + c) % 2 ^ w) :: (takeA w limb b fs ((limb * y + c) / 2 ^ w)).1, (takeA w limb b fs ((limb * y + c) / 2 ^ w)).2)
  | [], f :: fs, c => if f < c then ((f + 2 ^ w - c) :: fs, 1) else ((f - c) :: fs, 0)
  | _, [], _ => ([], 0)
def putB (w : Nat) : List Nat → List Nat → Nat → List Nat
  | y :: b, f :: fs, c => (c + (f + y)) % 2 ^ w :: putB w b fs ((c + (f + y)) / 2 ^ w)
  | [], f :: fs, c => (f + c) % 2 ^ w :: fs
  | _, [], _ => []
theorem carry_lt {M limb y c f : Nat} (hl : limb < M) (hy : y < M) (hc : c < M) (hb : f < (limb * y + c) % M) : (limb * y + c) / M + 1 < M := by
  have h1 : limb * y ≤ (M - 1) * (M - 1) := Nat.mul_le_mul (by omega) (by omega)
  have h2 := Nat.div_add_mod (limb * y + c) M
  generalize (limb * y + c) / M = q at *
  generalize (limb * y + c) % M = r at *
  false_or_by_contra
  have h3 : M * (M - 1) ≤ M * q := Nat.mul_le_mul_left _ (by omega)
  have h4 : M * (M - 1) = (M - 1) * (M - 1) + (M - 1) := by
    obtain ⟨k, rfl⟩ : ∃ k, M = k + 1 := ⟨M - 1, by omega⟩
    rw [Nat.add_sub_cancel, Nat.add_mul, Nat.one_mul]
  omega
theorem carry_lt' {M limb y c : Nat} (hl : limb < M) (hy : y < M) (hc : c < M) : (limb * y + c) / M < M := by
  have h1 : limb * y ≤ (M - 1) * (M - 1) := Nat.mul_le_mul (by omega) (by omega)
  rw [Nat.div_lt_iff_lt_mul (by omega)]
  obtain ⟨k, rfl⟩ : ∃ k, M = k + 1 := ⟨M - 1, by omega⟩
  rw [Nat.add_sub_cancel] at h1
  have : (k + 1) * (k + 1) = k * k + k + k + 1 := by rw [Nat.add_mul, Nat.mul_add]; omega
  omega
theorem takeA_len {w limb : Nat} : ∀ {b fs : List Nat} {c : Nat}, (takeA w limb b fs c).1.length = fs.length
  | _ :: b, _ :: fs, c => by
    unfold takeA
    split
    · simp [takeA_len (b := b) (fs := fs)]
    · simp [takeA_len (b := b) (fs := fs)]
  | [], _ :: fs, c => by
    unfold takeA
    split <;> simp
  | [], [], _ => by simp [takeA]
  | _ :: _, [], _ => by simp [takeA]
theorem takeA_lt {w limb : Nat} : ∀ {b fs : List Nat} {c : Nat}, (∀ x ∈ fs, x < 2 ^ w) → ∀ x ∈ (takeA w limb b fs c).1, x < 2 ^ w
  | y :: b, f :: fs, c, h => by
    have hf := h f (.head _)
    have ih : ∀ {c : Nat}, ∀ x ∈ (takeA w limb b fs c).1, x < 2 ^ w := takeA_lt fun x hx => h x (.tail _ hx)
    unfold takeA
    split
    · intro x hx
      rcases List.mem_cons.mp hx with rfl | hx
      · omega
      · exact ih _ hx
    · intro x hx
      rcases List.mem_cons.mp hx with rfl | hx
      · omega
      · exact ih _ hx
  | [], f :: fs, c, h => by
    have hf := h f (.head _)
    unfold takeA
    split
    · intro x hx
      rcases List.mem_cons.mp hx with rfl | hx
      · omega
      · exact h _ (.tail _ hx)
    · intro x hx
      rcases List.mem_cons.mp hx with rfl | hx
      · omega
      · exact h _ (.tail _ hx)
  | [], [], _, _ => by simp [takeA]
  | _ :: _, [], _, _ => by simp [takeA]
theorem putB_len {w : Nat} : ∀ {b fs : List Nat} {c : Nat}, (putB w b fs c).length = fs.length
  | _ :: b, _ :: fs, c => by simp [putB, putB_len (b := b) (fs := fs)]
  | [], _ :: fs, c => by simp [putB]
  | [], [], _ => by simp [putB]
  | _ :: _, [], _ => by simp [putB]
theorem putB_lt {w : Nat} : ∀ {b fs : List Nat} {c : Nat}, (∀ x ∈ fs, x < 2 ^ w) → ∀ x ∈ putB w b fs c, x < 2 ^ w
  | y :: b, f :: fs, c, h => by
    have ih : ∀ {c : Nat}, ∀ x ∈ putB w b fs c, x < 2 ^ w := putB_lt fun x hx => h x (.tail _ hx)
    unfold putB
    intro x hx
    rcases List.mem_cons.mp hx with rfl | hx
    · exact Nat.mod_lt _ (Nat.two_pow_pos w)
    · exact ih _ hx
  | [], f :: fs, c, h => by
    unfold putB
    intro x hx
    rcases List.mem_cons.mp hx with rfl | hx
    · exact Nat.mod_lt _ (Nat.two_pow_pos w)
    · exact h _ (.tail _ hx)
  | [], [], _, _ => by simp [putB]
  | _ :: _, [], _, _ => by simp [putB]

section
variable {G : Gx} {n : Nat} {Q : MV → List MO → Prop} {H : List MO}
theorem guess_spec (ga : GAll G) {i w t0 t1 t2 first second : Nat} (hi : H[i]? = some (.list (nL [t0, t1, t2]))) (hw : w ≤ 8) (h2 : t2 < 2 ^ w) (hf : first < 2 ^ w) (hf0 : 0 < first) (hs : second < 2 ^ w) (hn : 1 ≤ n)
    (q : Q (.int (guess w t0 t1 t2 first second : Nat)) H) : WC G n (.fn (Str.ofString "guessed_limb")) [.ref i, .int (first : Int), .int (second : Int), .int (w : Int)] Q H := by
  have go := ga.go
  have hp : 2 ^ w ≤ 2 ^ 8 := Nat.pow_le_pow_right (by omega) hw
  have hp0 := Nat.two_pow_pos w
  refine WC_at ff29 (ga.fn 29 (by decide) (by decide) (by decide)) nm29 rfl nc29 hn ?_
  simp only [List.cons_append, List.nil_append, List.map_cons, List.map_nil]
  refine WSs_cons ?_
  repeat walk_at "m_e"
  refine IX_nat 2 (by walk_at "m_hget") rfl (by simp) (by simp) ?_
  rw [show [t0, t1, t2].getD 2 0 = t2 from rfl]
  repeat walk_at "m_e"
  refine IX_nat 1 (by walk_at "m_hget") rfl (by simp) (by simp) ?_
  rw [show [t0, t1, t2].getD 1 0 = t1 from rfl]
  rw [shl_nat]
  repeat walk_at "m_e"
  rw [bitOr_nat, pow_nat]
  repeat walk_at "m_s"
  rw [fdiv_nat]
  rw [guess] at q
  generalize (t2 * 2 ^ w ||| t1) = high at *
  refine BC_min ?_
  have hmin : (if ((2 ^ w : Nat) : Int) - 1 < ((high / first : Nat) : Int) then ((2 ^ w : Nat) : Int) - 1 else ((high / first : Nat) : Int)) = ((min (high / first) (2 ^ w - 1) : Nat) : Int) := by
    split <;> omega
  rw [hmin]
  have hle : min (high / first) (2 ^ w - 1) * first ≤ high := Nat.le_trans (Nat.mul_le_mul_right _ (Nat.min_le_left _ _)) (Nat.div_mul_le_self _ _)
  generalize min (high / first) (2 ^ w - 1) = limb at *
  repeat walk_at "m_s"
  rw [← Int.natCast_mul, show (high : Int) - ((limb * first : Nat) : Int) = ((high - limb * first : Nat) : Int) by omega]
  refine WS_while (WWh_inv (fun m σ' H' => H' = H ∧ ∃ limb rest : Nat, σ' = [.ref i, .int (first : Int), .int (second : Int), .int (w : Int), .int (high : Int), .int ((2 ^ w : Nat) : Int), .int (limb : Int), .int (rest : Int)] ∧
      2 ^ w ≤ rest + m ∧ Q (.int (guessC w t0 first second m limb rest : Nat)) H) (k := 2 ^ w) ⟨rfl, _, _, rfl, by omega, q⟩ ?_)
  intro m σ' H' zq
  refine cps fun zP zh => ?_
  obtain ⟨e, limb, rest, rfl, h1, q⟩ := zq
  refine zh ?_
  clear zh zP
  subst e
  repeat walk_at "m_e"
  have stop : (rest < 2 ^ w → ¬ (rest * 2 ^ w ||| t0) < limb * second) → Q (.int (limb : Int)) H' := by
    intro hh
    cases m with
    | zero => exact q
    | succ m => rw [guessC, if_neg (fun h => hh h.1 h.2)] at q; exact q
  refine ⟨fun h => ?_, fun h => ⟨fun h => (nomatch h), fun _ => ?_⟩⟩
  · have h := ltT h
    repeat walk_at "m_e"
    refine IX_nat 0 (by walk_at "m_hget") rfl (by simp) (by simp) ?_
    rw [show [t0, t1, t2].getD 0 0 = t0 from rfl]
    rw [shl_nat, ← Int.natCast_mul]
    repeat walk_at "m_e"
    rw [bitOr_nat]
    refine ⟨fun hc => ?_, fun hc => ?_⟩
    · have hc := ltT hc
      have hl : 1 ≤ limb := by
        rcases Nat.eq_zero_or_pos limb with e | e
        · subst e; simp at hc; omega
        · exact e
      cases m with
      | zero => omega
      | succ m =>
        rw [guessC, if_pos ⟨by omega, by omega⟩] at q
        repeat walk_at "m_s"
        refine ⟨m, by omega, rfl, limb - 1, rest + first, ?_, by omega, q⟩
        rw [show (limb : Int) - 1 = ((limb - 1 : Nat) : Int) by omega, ← Int.natCast_add]
    · have hc := ltF hc
      repeat walk_at "m_s"
      exact stop (fun _ => by omega)
  · have h := ltF h
    repeat walk_at "m_s"
    exact stop (fun h' => absurd h' (by omega))
end
theorem hset_self {H : List MO} {j : Nat} {o : MO} (h : H[j]? = some o) : H.set j o = H := by
  obtain ⟨hl, rfl⟩ := List.getElem?_eq_some_iff.mp h
  exact List.set_getElem_self hl
theorem mid_mod {x y : Nat} : ((x : Int) + (y : Int)).fmod 1 = 0 := by rw [Int.fmod_one]
section
variable {G : Gx} {n : Nat} {Q : MV → List MO → Prop} {H : List MO}
theorem take_spec (ga : GAll G) {r j w limb k : Nat} {P S B : List Nat} (hr : H[r]? = some (.list (nL (P ++ S)))) (hj : H[j]? = some (.list (nL B))) (hne : j ≠ r) (hk : P.length = k) (hS : B.length < S.length) (hz : P.length + S.length ≤ 10000) (hw : w ≤ 8) (hl : limb < 2 ^ w)
    (hB : ∀ y ∈ B, y < 2 ^ w) (hn : 1 ≤ n) (q : Q (.int ((takeA w limb B S 0).2 : Nat)) (H.set r (.list (nL (P ++ (takeA w limb B S 0).1))))) : WC G n (.fn (Str.ofString "take_away")) [.ref r, .ref j, .int (limb : Int), .int (k : Int), .int (w : Int)] Q H := by
  have go := ga.go
  have hp : 2 ^ w ≤ 2 ^ 8 := Nat.pow_le_pow_right (by omega) hw
  have hp0 := Nat.two_pow_pos w
  subst hk
  refine WC_at ff30 (ga.fn 30 (by decide) (by decide) (by decide)) nm30 rfl nc30 hn ?_
  simp only [List.cons_append, List.nil_append, List.map_cons, List.map_nil]
  refine WSs_cons ?_
  repeat walk_at "m_e"
  rw [pow_nat]
  refine WSs_cons ?_
  refine WS_forE go ?hk ?_ ?he ?hc ?hf
  case hk => decide +kernel
  case he => intro _; rfl
  case hc => intro _; rfl
  case hf => intro _ _; rfl
  repeat walk_at "m_e"
  refine ⟨_, _, rfl, by walk_at "m_hget", ?_⟩
  refine WForE_items (fun s l σ' H' => ∃ B' R S' c v3 v4 v5, l = nL B' ∧ σ' = [.ref r, .ref j, .int (limb : Int), .int (P.length : Int), .int (w : Int), .int ((c : Nat) : Int), .int ((2 ^ w : Nat) : Int), v3, v4, v5] ∧ H' = H.set r (.list (nL (P ++ (R ++ S')))) ∧
      R.length = s ∧ B'.length + s = B.length ∧ R.length + S'.length = S.length ∧ (∀ y ∈ B', y < 2 ^ w) ∧ c < 2 ^ w ∧ R ++ (takeA w limb B' S' c).1 = (takeA w limb B S 0).1 ∧ (takeA w limb B' S' c).2 = (takeA w limb B S 0).2)
    ⟨B, [], S, 0, _, _, _, rfl, rfl, (hset_self hr).symm, rfl, rfl, by simp, hB, hp0, rfl, rfl⟩ ?_ ?_
  · intro s v l σ' H' zq
    refine cps fun zP zh => ?_
    obtain ⟨B', R, S', c, v3, v4, v5, e, rfl, rfl, g1, g2, g3, g5, g6, g4, g7⟩ := zq
    refine zh ?_
    clear zh zP
    refine ⟨hset_ne hne hj, ?_⟩
    cases B' with
    | nil => cases e
    | cons y B' =>
      simp only [List.map_cons, List.cons.injEq] at e
      obtain ⟨rfl, rfl⟩ := e
      simp only [List.length_cons] at g2
      have hy := g5 y (.head _)
      cases S' with
      | nil => simp at g3; omega
      | cons f S' =>
        simp only [List.length_cons] at g3
        refine ⟨_, by walk_at "m_slot", _, by walk_at "m_slot", ?_⟩
        refine WSs_cons ?_
        repeat walk_at "m_e"
        refine IX_nat (P.length + R.length) (hset_get hr) (by omega) (by simp <;> omega) (by simp <;> omega) ?_
        rw [getD_mid]
        repeat walk_at "m_e"
        rw [← Int.natCast_mul, ← Int.natCast_add]
        repeat walk_at "m_e"
        rw [fmod_nat]
        refine WSs_cut (fun σ' H' => σ' = [.ref r, .ref j, .int (limb : Int), .int (P.length : Int), .int (w : Int), .int (((limb * y + c) / 2 ^ w + (if f < (limb * y + c) % 2 ^ w then 1 else 0) : Nat) : Int), .int ((2 ^ w : Nat) : Int), .int (s : Int), .int (y : Int), .int ((f : Int) - ((limb * y + c) % 2 ^ w : Nat))] ∧ H' = H.set r (.list (nL (P ++ (R ++ f :: S'))))) ?_ ?_
        · repeat walk_at "m_e"
          rw [← Int.natCast_mul, ← Int.natCast_add]
          repeat walk_at "m_e"
          rw [fdiv_nat]
          refine ⟨fun h => ?_, fun h => ?_⟩
          · have h := ltT h
            rw [if_pos (by omega)]
            repeat walk_at "m_e"
            exact ⟨by simp, rfl⟩
          · have h := ltF h
            rw [if_neg (by omega)]
            repeat walk_at "m_e"
            exact ⟨by simp, rfl⟩
        rintro σ' H' ⟨rfl, rfl⟩
        have c1 : ¬ f < (limb * y + c) % 2 ^ w → (limb * y + c) / 2 ^ w < 2 ^ w := fun _ => carry_lt' hl hy g6
        have c2 : f < (limb * y + c) % 2 ^ w → (limb * y + c) / 2 ^ w + 1 < 2 ^ w := fun h => carry_lt hl hy g6 h
        have hmod : (limb * y + c) % 2 ^ w < 2 ^ w := Nat.mod_lt _ hp0
        rw [takeA] at g4 g7
        generalize (limb * y + c) % 2 ^ w = m at *
        generalize (limb * y + c) / 2 ^ w = d at *
        by_cases hb : f < m
        · rw [if_pos hb] at g4 g7
          rw [if_pos hb]
          repeat walk_at "m_s"
          refine ⟨fun _ => ?_, fun h => absurd (ltF h) (by omega)⟩
          repeat walk_at "m_e"
          rw [show (f : Int) - (m : Int) + ((2 ^ w : Nat) : Int) = ((f + 2 ^ w - m : Nat) : Int) by omega, ← Int.natCast_add]
          refine ⟨_, _, _, rfl, rfl, hset_get hr, by omega, by simp <;> omega, by omega, ?_⟩
          rw [List.set_set, nL_set, ← g1, set_mid]
          repeat walk_at "m_s"
          exact ⟨B', R ++ [f + 2 ^ w - m], S', _, _, _, _, rfl, rfl, by simp, by simp, by omega, by simp; omega, fun z hz => g5 z (.tail _ hz), c2 hb, by rw [← g4]; simp, g7⟩
        · rw [if_neg hb] at g4 g7
          rw [if_neg hb]
          repeat walk_at "m_s"
          refine ⟨fun h => absurd (ltT h) (by omega), fun h => ?_⟩
          repeat walk_at "m_e"
          rw [show (f : Int) - (m : Int) = ((f - m : Nat) : Int) by omega, ← Int.natCast_add]
          refine ⟨_, _, _, rfl, rfl, hset_get hr, by omega, by simp <;> omega, by omega, ?_⟩
          rw [List.set_set, nL_set, ← g1, set_mid]
          repeat walk_at "m_s"
          exact ⟨B', R ++ [f - m], S', _, _, _, _, rfl, rfl, by simp, by simp, by omega, by simp; omega, fun z hz => g5 z (.tail _ hz), c1 hb, by rw [← g4]; simp, g7⟩
  · intro s σ' H' zq
    refine cps fun zP zh => ?_
    obtain ⟨B', R, S', c, v3, v4, v5, e, rfl, rfl, g1, g2, g3, g5, g6, g4, g7⟩ := zq
    refine zh ?_
    clear zh zP
    refine ⟨hset_ne hne hj, ?_⟩
    cases B' with
    | cons y B' => cases e
    | nil =>
      simp only [List.length_nil] at g2
      have hj' : (H.set r (.list (nL (P ++ (R ++ S')))))[j]? = some (.list (nL B)) := hset_ne hne hj
      cases S' with
      | nil => simp at g3; omega
      | cons f S' =>
        simp only [List.length_cons] at g3
        repeat walk_at "m_s"
        simp only [List.length_map]
        refine IX_nat (P.length + R.length) (hset_get hr) (by omega) (by simp <;> omega) (by simp <;> omega) ?_
        rw [getD_mid]
        rw [takeA] at g4 g7
        repeat walk_at "m_s"
        have hBR : B.length = R.length := by omega
        by_cases hb : f < c
        · rw [if_pos hb] at g4 g7
          refine ⟨fun _ => ?_, fun h => absurd (ltF h) (by omega)⟩
          repeat walk_at "m_e"
          simp only [List.length_map]
          rw [hBR]
          rw [show (f : Int) - (c : Int) + ((2 ^ w : Nat) : Int) = ((f + 2 ^ w - c : Nat) : Int) by omega, ← Int.natCast_add]
          refine ⟨_, _, _, rfl, rfl, hset_get hr, by omega, by simp <;> omega, by omega, ?_⟩
          rw [List.set_set, nL_set, set_mid]
          repeat walk_at "m_s"
          refine ⟨fun _ => ?_, fun h => absurd (ltF h) (by omega)⟩
          repeat walk_at "m_e"
          rw [← g4, ← g7] at q
          exact q
        · rw [if_neg hb] at g4 g7
          refine ⟨fun h => absurd (ltT h) (by omega), fun _ => ?_⟩
          repeat walk_at "m_e"
          simp only [List.length_map]
          rw [hBR]
          rw [show (f : Int) - (c : Int) = ((f - c : Nat) : Int) by omega, ← Int.natCast_add]
          refine ⟨_, _, _, rfl, rfl, hset_get hr, by omega, by simp <;> omega, by omega, ?_⟩
          rw [List.set_set, nL_set, set_mid]
          repeat walk_at "m_s"
          refine ⟨fun h => absurd (ltT h) (by omega), fun _ => ?_⟩
          repeat walk_at "m_e"
          rw [← g4, ← g7] at q
          exact q
theorem put_spec (ga : GAll G) {r j w k : Nat} {P S B : List Nat} (hr : H[r]? = some (.list (nL (P ++ S)))) (hj : H[j]? = some (.list (nL B))) (hne : j ≠ r) (hk : P.length = k) (hS : B.length < S.length) (hz : P.length + S.length ≤ 10000) (hw : w ≤ 8)
    (hn : 1 ≤ n) (q : Q .none (H.set r (.list (nL (P ++ putB w B S 0))))) : WC G n (.fn (Str.ofString "put_back")) [.ref r, .ref j, .int (k : Int), .int (w : Int)] Q H := by
  have go := ga.go
  have hp : 2 ^ w ≤ 2 ^ 8 := Nat.pow_le_pow_right (by omega) hw
  subst hk
  refine WC_atN ff31 (ga.fn 31 (by decide) (by decide) (by decide)) nm31 rfl nc31 hn ?_
  simp only [List.cons_append, List.nil_append, List.map_cons, List.map_nil]
  refine WSs_cons ?_
  repeat walk_at "m_e"
  rw [mask_eq]
  refine WSs_cons ?_
  refine WS_forE go ?hk ?_ ?he ?hc ?hf
  case hk => decide +kernel
  case he => intro _; rfl
  case hc => intro _; rfl
  case hf => intro _ _; rfl
  repeat walk_at "m_e"
  refine ⟨_, _, rfl, by walk_at "m_hget", ?_⟩
  refine WForE_items (fun s l σ' H' => ∃ B' R S' c v3 v4, l = nL B' ∧ σ' = [.ref r, .ref j, .int (P.length : Int), .int (w : Int), .int ((c : Nat) : Int), .int ((2 ^ w - 1 : Nat) : Int), v3, v4] ∧ H' = H.set r (.list (nL (P ++ (R ++ S')))) ∧
      R.length = s ∧ B'.length + s = B.length ∧ R.length + S'.length = S.length ∧ R ++ putB w B' S' c = putB w B S 0)
    ⟨B, [], S, 0, _, _, rfl, rfl, (hset_self hr).symm, rfl, rfl, by simp, rfl⟩ ?_ ?_
  · intro s v l σ' H' zq
    refine cps fun zP zh => ?_
    obtain ⟨B', R, S', c, v3, v4, e, rfl, rfl, g1, g2, g3, g4⟩ := zq
    refine zh ?_
    clear zh zP
    refine ⟨hset_ne hne hj, ?_⟩
    cases B' with
    | nil => cases e
    | cons y B' =>
      simp only [List.map_cons, List.cons.injEq] at e
      obtain ⟨rfl, rfl⟩ := e
      simp only [List.length_cons] at g2
      cases S' with
      | nil => simp at g3; omega
      | cons f S' =>
        simp only [List.length_cons] at g3
        refine ⟨_, by walk_at "m_slot", _, by walk_at "m_slot", ?_⟩
        refine WSs_cons ?_
        repeat walk_at "m_e"
        refine IX_nat (P.length + R.length) (hset_get hr) (by omega) (by simp <;> omega) (by simp <;> omega) ?_
        rw [getD_mid]
        repeat walk_at "m_e"
        rw [← Int.natCast_add, ← Int.natCast_add]
        repeat walk_at "m_s"
        rw [bitAnd_mask]
        repeat walk_at "m_s"
        rw [← Int.natCast_add]
        refine ⟨_, _, _, rfl, rfl, hset_get hr, by omega, by simp <;> omega, by omega, ?_⟩
        rw [List.set_set, nL_set, ← g1, set_mid]
        repeat walk_at "m_s"
        refine ⟨by omega, ?_⟩
        repeat walk_at "m_s"
        rw [shr_nat]
        exact ⟨B', R ++ [(c + (f + y)) % 2 ^ w], S', _, _, _, rfl, rfl, by simp, by simp, by omega, by simp; omega, by rw [← g4]; simp [putB]⟩
  · intro s σ' H' zq
    refine cps fun zP zh => ?_
    obtain ⟨B', R, S', c, v3, v4, e, rfl, rfl, g1, g2, g3, g4⟩ := zq
    refine zh ?_
    clear zh zP
    refine ⟨hset_ne hne hj, ?_⟩
    cases B' with
    | cons y B' => cases e
    | nil =>
      simp only [List.length_nil] at g2
      have hj' : (H.set r (.list (nL (P ++ (R ++ S')))))[j]? = some (.list (nL B)) := hset_ne hne hj
      cases S' with
      | nil => simp at g3; omega
      | cons f S' =>
        simp only [List.length_cons] at g3
        repeat walk_at "m_s"
        simp only [List.length_map]
        refine IX_nat (P.length + R.length) (hset_get hr) (by omega) (by simp <;> omega) (by simp <;> omega) ?_
        rw [getD_mid]
        repeat walk_at "m_e"
        simp only [List.length_map]
        rw [show Builtin.bitAnd ((f : Int) + (c : Int)) ((2 ^ w - 1 : Nat) : Int) = (((f + c) % 2 ^ w : Nat) : Int) by rw [← Int.natCast_add, bitAnd_mask], show B.length = R.length by omega, ← Int.natCast_add]
        refine ⟨_, _, _, rfl, rfl, hset_get hr, by omega, by simp <;> omega, by omega, ?_⟩
        rw [List.set_set, nL_set, set_mid]
        repeat walk_at "m_s"
        rw [← g4] at q
        exact q
end
def rowsC (w : Nat) (b : List Nat) : Nat → List Nat → List Nat → Option (List Nat × List Nat)
  | 0, R, U => some (R, U)
  | m + 1, R, U =>
    let limb := guess w (R.getD (m + b.length - 2) 0) (R.getD (m + b.length - 1) 0) (R.getD (m + b.length) 0) (b.getD (b.length - 1) 0) (b.getD (b.length - 2) 0)
    let t := takeA w limb b (R.drop m) 0
    if t.2 = 1 then (if limb = 0 then none else rowsC w b m (R.take m ++ putB w b t.1 0) (U.set m (limb - 1)))
    else rowsC w b m (R.take m ++ t.1) (U.set m limb)
theorem takeA_flag {w limb : Nat} : ∀ {b fs : List Nat} {c : Nat}, (takeA w limb b fs c).2 ≤ 1
  | _ :: b, _ :: fs, c => by
    unfold takeA
    split
    · exact takeA_flag (b := b) (fs := fs)
    · exact takeA_flag (b := b) (fs := fs)
  | [], _ :: fs, c => by
    unfold takeA
    split <;> simp
  | [], [], _ => by simp [takeA]
  | _ :: _, [], _ => by simp [takeA]
theorem three {R : List Nat} {a : Nat} (h : a + 2 < R.length) : ((nL R).drop a).take 3 = nL [R.getD a 0, R.getD (a + 1) 0, R.getD (a + 2) 0] := by
  rw [← List.map_drop, drop_get (A := R) (e := a) (by omega), drop_get (A := R) (e := a + 1) (by omega), drop_get (A := R) (e := a + 1 + 1) (by omega)]
  rfl
theorem set_add {A J : List MO} {i k : Nat} {o : MO} (h : A.length = k) : (A ++ J).set (k + i) o = A ++ J.set i o := by
  subst h
  rw [List.set_append_right _ _ (by omega), Nat.add_sub_cancel_left]

section
variable {G : Gx} {n : Nat} {Q : MV → List MO → Prop} {H : List MO}
theorem rows_spec (ga : GAll G) {r j w : Nat} {R B R' U' : List Nat} (hr : H[r]? = some (.list (nL R))) (hj : H[j]? = some (.list (nL B))) (hne : j ≠ r) (h2 : 2 ≤ B.length) (hS : B.length < R.length) (hz : R.length ≤ 5000) (hw : w ≤ 8)
    (hB : ∀ y ∈ B, y < 2 ^ w) (hR : ∀ y ∈ R, y < 2 ^ w) (hb0 : 0 < B.getD (B.length - 1) 0) (hn : 2 ≤ n) (hm : rowsC w B (R.length - B.length) R (List.replicate (R.length - B.length) 0) = some (R', U'))
    (q : ∀ J t, (H.set r (.list (nL R')) ++ J)[t]? = some (.list (nL U')) → R'.length = R.length → U'.length = R.length - B.length → (∀ y ∈ R', y < 2 ^ w) → Q (.ref t) (H.set r (.list (nL R')) ++ J)) : WC G n (.fn (Str.ofString "divide_rows")) [.ref r, .ref j, .int (w : Int)] Q H := by
  have go := ga.go
  have hp : 2 ^ w ≤ 2 ^ 8 := Nat.pow_le_pow_right (by omega) hw
  have hp0 := Nat.two_pow_pos w
  refine WC_at ff32 (ga.fn 32 (by decide) (by decide) (by decide)) nm32 rfl nc32 (k := 1) hn ?_
  simp only [List.cons_append, List.nil_append, List.map_cons, List.map_nil]
  refine WSs_cons ?_
  repeat walk_at "m_s"
  simp only [List.length_map]
  rw [show (R.length : Int) - (B.length : Int) = ((R.length - B.length : Nat) : Int) by omega]
  refine BO_mulZ (by walk_at "m_hget") (by omega) ?_
  repeat walk_at "m_s"
  refine range_ go (by decide +kernel) ?_
  repeat walk_at "m_e"
  simp only [List.length_map]
  rw [show (R.length : Int) - (B.length : Int) - 1 = ((R.length - B.length : Nat) : Int) - 1 by omega]
  refine ⟨_, _, -1, .inr (.inr rfl), by omega, by omega, .inr rfl, ?_⟩
  rw [rs_down]
  have hrl : r < H.length := (List.getElem?_eq_some_iff.mp hr).1
  refine WFor1_down (fun k σ' H' => k ≤ R.length - B.length ∧ ∃ R1 U1 J v v', σ' = [.ref r, .ref j, .int (w : Int), .int (B.length : Int), .ref (H.length + 1), v, v'] ∧ H' = H.set r (.list (nL R1)) ++ J ∧ J[1]? = some (.list (nL U1)) ∧
      R1.length = R.length ∧ (∀ y ∈ R1, y < 2 ^ w) ∧ U1.length = R.length - B.length ∧ rowsC w B k R1 U1 = some (R', U'))
    ⟨Nat.le_refl _, R, _, _, .unb, .unb, by simp, by rw [hset_self hr, List.append_assoc], rfl, rfl, hR, by simp, hm⟩ ?_ ?_
  · intro k σ' H' hk zq
    refine cps fun zP zh => ?_
    obtain ⟨hk', R1, U1, J, v, v', rfl, rfl, g1, g2, g3, g4, g5⟩ := zq
    refine zh ?_
    clear zh zP
    have hr1 : (H.set r (.list (nL R1)) ++ J)[r]? = some (.list (nL R1)) := hget_old (hset_get hr)
    have hj1 : (H.set r (.list (nL R1)) ++ J)[j]? = some (.list (nL B)) := hget_old (hset_ne hne hj)
    refine ⟨_, by walk_at "m_slot", ?_⟩
    rw [rowsC] at g5
    have hlimb : guess w (R1.getD (k + B.length - 2) 0) (R1.getD (k + B.length - 1) 0) (R1.getD (k + B.length) 0) (B.getD (B.length - 1) 0) (B.getD (B.length - 2) 0) < 2 ^ w := guess_lt
    generalize hlim : guess w (R1.getD (k + B.length - 2) 0) (R1.getD (k + B.length - 1) 0) (R1.getD (k + B.length) 0) (B.getD (B.length - 1) 0) (B.getD (B.length - 2) 0) = limb at *
    refine WSs_cut (fun σ' H' => ∃ J, J[1]? = some (.list (nL U1)) ∧ σ' = [.ref r, .ref j, .int (w : Int), .int (B.length : Int), .ref (H.length + 1), .int (k : Int), .int (limb : Int)] ∧ H' = H.set r (.list (nL R1)) ++ J) ?_ ?_
    · repeat walk_at "m_e"
      refine ⟨_, _, _, rfl, hr1, by simp; omega, slice_run (k + B.length - 2) (k + B.length + 1) (by omega) (by omega) (by simp; omega) (by omega), ?_⟩
      rw [show k + B.length + 1 - (k + B.length - 2) = 3 by omega, three (by omega), show k + B.length - 2 + 1 = k + B.length - 1 by omega, show k + B.length - 2 + 2 = k + B.length by omega]
      repeat walk_at "m_e"
      refine IX_nat (B.length - 1) (by walk_at "m_hget") (by omega) (by omega) (by omega) ?_
      repeat walk_at "m_e"
      refine IX_nat (B.length - 2) (by walk_at "m_hget") (by omega) (by omega) (by omega) ?_
      repeat walk_at "m_e"
      refine WC_le (by omega) (guess_spec (n := 1) ga hget_new hw (getD_lt g3 hp0 _) (getD_lt hB hp0 _) hb0 (getD_lt hB hp0 _) (by omega) ?_)
      repeat walk_at "m_e"
      exact ⟨J ++ _, hget_old g1, by rw [hlim], by rw [List.append_assoc]⟩
    rintro σ' H' ⟨J, g1, rfl, rfl⟩
    have hr1 : (H.set r (.list (nL R1)) ++ J)[r]? = some (.list (nL (R1.take k ++ R1.drop k))) := by rw [List.take_append_drop]; exact hget_old (hset_get hr)
    have hj1 : (H.set r (.list (nL R1)) ++ J)[j]? = some (.list (nL B)) := hget_old (hset_ne hne hj)
    have hlen := takeA_len (w := w) (limb := limb) (b := B) (fs := R1.drop k) (c := 0)
    have hlt := takeA_lt (w := w) (limb := limb) (b := B) (fs := R1.drop k) (c := 0) fun x hx => g3 x (List.mem_of_mem_drop hx)
    have hflag := takeA_flag (w := w) (limb := limb) (b := B) (fs := R1.drop k) (c := 0)
    have htk : ∀ y ∈ R1.take k, y < 2 ^ w := fun x hx => g3 x (List.mem_of_mem_take hx)
    have htl : (R1.take k).length = k := by simp; omega
    have hdl : (R1.drop k).length = R.length - k := by simp; omega
    refine WSs_cons ?_
    repeat walk_at "m_e"
    refine WC_le (by omega) (take_spec (n := 1) ga hr1 hj1 hne htl (by omega) (by omega) hw hlimb hB (by omega) ?_)
    have e1 : ∀ R2, ((H.set r (.list (nL R1)) ++ J).set r (.list (nL R2))) = H.set r (.list (nL R2)) ++ J := by
      intro R2
      rw [List.set_append_left _ _ (by simpa using hrl), List.set_set]
    rw [e1]
    generalize R1.take k = P at *
    generalize R1.drop k = S at *
    generalize takeA w limb B S 0 = t at *
    repeat walk_at "m_e"
    refine ⟨fun h => ?_, fun h => ?_⟩
    · have h : t.2 = 1 := by have := eqT h; omega
      rw [if_pos h] at g5
      by_cases hl0 : limb = 0
      · rw [if_pos hl0] at g5; cases g5
      rw [if_neg hl0] at g5
      repeat walk_at "m_s"
      rw [show (limb : Int) - 1 = ((limb - 1 : Nat) : Int) by omega]
      refine WS_expr ?_ ?hi ?hs
      case hi => intro env he; cases env; cases he; rfl
      case hs => intro _; rfl
      have hr2 : (H.set r (.list (nL (P ++ t.1))) ++ J)[r]? = some (.list (nL (P ++ t.1))) := hget_old (hset_get hr)
      have hj2 : (H.set r (.list (nL (P ++ t.1))) ++ J)[j]? = some (.list (nL B)) := hget_old (hset_ne hne hj)
      repeat walk_at "m_e"
      refine WC_le (by omega) (put_spec (n := 1) ga hr2 hj2 hne htl (by omega) (by omega) hw (by omega) ?_)
      rw [List.set_append_left _ _ (by simpa using hrl), List.set_set]
      repeat walk_at "m_s"
      have hplen := putB_len (w := w) (b := B) (fs := t.1) (c := 0)
      have hplt := putB_lt (w := w) (b := B) (fs := t.1) (c := 0) hlt
      refine ⟨H.length + 1, nL U1, _, rfl, rfl, ?_, by omega, ?_, by omega, ?_⟩
      · rw [List.getElem?_append_right (by simp), List.length_set, Nat.add_sub_cancel_left]; exact g1
      · simp; omega
      rw [set_add (by simp), nL_set]
      repeat walk_at "m_s"
      exact ⟨by omega, _, _, _, _, _, rfl, rfl, hset_get g1, by simp; omega, by intro y hy; rcases List.mem_append.mp hy with hy | hy; exact htk y hy; exact hplt y hy, by simp; exact g4, g5⟩
    · have h : ¬ t.2 = 1 := by have := eqF h; omega
      rw [if_neg h] at g5
      repeat walk_at "m_s"
      refine ⟨H.length + 1, nL U1, _, rfl, rfl, ?_, by omega, ?_, by omega, ?_⟩
      · rw [List.getElem?_append_right (by simp), List.length_set, Nat.add_sub_cancel_left]; exact g1
      · simp; omega
      rw [set_add (by simp), nL_set]
      repeat walk_at "m_s"
      exact ⟨by omega, _, _, _, _, _, rfl, rfl, hset_get g1, by simp; omega, by intro y hy; rcases List.mem_append.mp hy with hy | hy; exact htk y hy; exact hlt y hy, by simp; exact g4, g5⟩
  · intro σ' H' zq
    refine cps fun zP zh => ?_
    obtain ⟨hk', R1, U1, J, v, v', rfl, rfl, g1, g2, g3, g4, g5⟩ := zq
    refine zh ?_
    clear zh zP
    rw [rowsC] at g5
    cases g5
    repeat walk_at "m_s"
    refine q _ _ ?_ g2 g4 g3
    rw [List.getElem?_append_right (by simp), List.length_set, Nat.add_sub_cancel_left]
    exact g1
end
def okL (w : Nat) (l : List Nat) : Bool := decide (l.length ≤ 1000) && l.all (fun x => decide (x < 2 ^ w))
theorem okL_len {w : Nat} {l : List Nat} (h : okL w l = true) : l.length ≤ 1000 := by
  simp only [okL, Bool.and_eq_true, decide_eq_true_eq] at h; exact h.1
theorem okL_lt {w : Nat} {l : List Nat} (h : okL w l = true) : ∀ x ∈ l, x < 2 ^ w := by
  simp only [okL, Bool.and_eq_true, decide_eq_true_eq, List.all_eq_true] at h; exact h.2
def opt {α : Type} (c : Bool) (x : Option α) : Option α := match c with
  | true => x
  | false => none
theorem opt_some {α : Type} {c : Bool} {x : Option α} {r : α} (h : opt c x = some r) : c = true ∧ x = some r := by
  cases c with
  | true => exact ⟨rfl, h⟩
  | false => cases h
def bitsN (x : Nat) : Nat := Builtin.Int.intBits (x : Int)
def longC (w : Nat) (a b : List Nat) (shift : Nat) (d r1 : List Nat) : Option (List Nat × List Nat) :=
  opt (decide (2 ≤ d.length) && decide (d.length < r1.length) && okL w d && okL w r1 && decide (0 < d.getD (d.length - 1) 0)) <|
    match rowsC w d (r1.length - d.length) r1 (List.replicate (r1.length - d.length) 0) with
    | none => none
    | some (R', U') => some (norm U', shr w shift (norm R'))
def longD (w : Nat) (a b : List Nat) : Option (List Nat × List Nat) :=
  opt (decide (bitsN (b.getD (b.length - 1) 0) ≤ w) && decide ((shl w (w - bitsN (b.getD (b.length - 1) 0)) a).length ≤ a.length + 1)) <|
    longC w a b (w - bitsN (b.getD (b.length - 1) 0)) (shl w (w - bitsN (b.getD (b.length - 1) 0)) b) (shl w (w - bitsN (b.getD (b.length - 1) 0)) a ++ List.replicate (a.length + 1 - (shl w (w - bitsN (b.getD (b.length - 1) 0)) a).length) 0)
def divrem (w : Nat) (a b : List Nat) : Option (List Nat × List Nat) :=
  opt (okL w a && okL w b && decide (b.length ≠ 0)) <|
    if cmp a b = 0 then some ([], a)
    else if b.length = 1 then opt (decide (0 < b.getD 0 0)) (some (norm (dl (b.getD 0 0) w a).1, if 0 < (dl (b.getD 0 0) w a).2 then [(dl (b.getD 0 0) w a).2] else []))
    else longD w a b
theorem IX_last {Q : MV → List MO → Prop} {H : List MO} {j : Nat} {A : List Nat} (hl : H[j]? = some (.list (nL A))) (hm : 0 < A.length) (hz : A.length ≤ 100000) (q : Q (.int (A.getD (A.length - 1) 0 : Nat)) H) : IX Q H (.ref j) (.int (-1)) := by
  refine .neg hl (by decide) (by simp; omega) (x := .int (A.getD (A.length - 1) 0 : Nat)) ?_ (by decide) q
  have : (-1 + ((nL A).length : Int)).toNat = A.length - 1 := by simp; omega
  rw [this]
  simp [show A.length - 1 < A.length by omega]
theorem BO_addN {G : Gx} {Q : MV → List MO → Prop} {H : List MO} {i j : Nat} {l r : List Nat} (hl : H[i]? = some (.list (nL l))) (hr : H[j]? = some (.list (nL r))) (h1 : l.length + r.length ≤ 10000) (q : Q (.ref H.length) (H ++ [.list (nL (l ++ r))])) : BO G .Add (.ref i) (.ref j) Q H := by
  rw [nL_iL] at hl hr
  refine BO_addList hl hr (by simpa using h1) ?_
  rw [nL_iL] at q
  simpa using q
theorem norm_le : ∀ A : List Nat, (norm A).length ≤ A.length
  | [] => by simp [norm]
  | x :: r => by
    have ih := norm_le r
    rw [norm]
    split
    · split <;> simp
    · rename_i y r' e
      rw [e] at ih
      simp at ih ⊢
      exact ih
theorem norm_mem : ∀ {A : List Nat} {x : Nat}, x ∈ norm A → x ∈ A
  | [], x, h => by simp [norm] at h
  | y :: r, x, h => by
    have ih : ∀ {x : Nat}, x ∈ norm r → x ∈ r := norm_mem
    rw [norm] at h
    split at h
    · split at h
      · simp at h
      · simp at h; simp [h]
    · rename_i z r' e
      rcases List.mem_cons.mp h with rfl | h
      · simp
      · exact .tail _ (ih (by rw [e]; exact h))

section
variable {G : Gx} {n : Nat} {Q : MV → List MO → Prop} {H : List MO}
theorem small_spec (ga : GAll G) {i j w : Nat} {A B : List Nat} (hi : H[i]? = some (.list (nL A))) (hj : H[j]? = some (.list (nL B))) (hz : A.length ≤ 10000) (hb1 : B.length = 1) (hw : w ≤ 8) (hl : 0 < B.getD 0 0) (hl' : B.getD 0 0 < 2 ^ 20) (hn : 3 ≤ n)
    (q : ∀ H' t u v, H <+: H' → H'[t]? = some (.tup [.ref u, .ref v]) → H'[u]? = some (.list (nL (norm (dl (B.getD 0 0) w A).1))) → H'[v]? = some (.list (nL (if 0 < (dl (B.getD 0 0) w A).2 then [(dl (B.getD 0 0) w A).2] else []))) → Q (.ref t) H') :
    WC G n (.fn (Str.ofString "divrem_small")) [.ref i, .ref j, .int (w : Int)] Q H := by
  have go := ga.go
  refine WC_at ff28 (ga.fn 28 (by decide) (by decide) (by decide)) nm28 rfl nc28 hn ?_
  simp only [List.cons_append, List.nil_append, List.map_cons, List.map_nil]
  refine WSs_cons ?_
  refine WS_assignT ?_ ?hw ?hs
  case hw => intro env he; cases env; cases he; rfl
  case hs => intro _; rfl
  repeat walk_at "m_e"
  refine IX_nat 0 (by walk_at "m_hget") rfl (by omega) (by omega) ?_
  repeat walk_at "m_e"
  refine WC_le (by omega) (divrem_limb_spec (n := 2) ga hi hz hw hl hl' (by omega) fun J r u h1 h2 => ?_)
  refine ⟨_, _, _, _, _, rfl, h1, by walk_at "m_slot", by walk_at "m_slot", ?_⟩
  generalize dl (B.getD 0 0) w A = p at *
  repeat walk_at "m_s"
  refine ⟨fun h => ?_, fun h => ?_⟩
  · have h := ltT h
    rw [if_pos (by omega)] at q
    repeat walk_at "m_e"
    exact q _ _ _ _ (by walk_at "m_pre") hget_new (by walk_at "m_hget") (hget_old hget_new)
  · have h := ltF h
    rw [if_neg (by omega)] at q
    repeat walk_at "m_e"
    exact q _ _ _ _ (by walk_at "m_pre") hget_new (by walk_at "m_hget") (hget_old hget_new)
theorem divrem_spec (ga : GAll G) {i j w : Nat} {A B U R : List Nat} (hi : H[i]? = some (.list (nL A))) (hj : H[j]? = some (.list (nL B))) (hw0 : 0 < w) (hw : w ≤ 8) (hm : divrem w A B = some (U, R)) (hn : 4 ≤ n)
    (q : ∀ H' t u v, H <+: H' → H'[t]? = some (.tup [.ref u, .ref v]) → H'[u]? = some (.list (nL U)) → H'[v]? = some (.list (nL R)) → Q (.ref t) H') :
    WC G n (.fn (Str.ofString "divrem_school")) [.ref i, .ref j, .int (w : Int)] Q H := by
  have go := ga.go
  have hp : 2 ^ w ≤ 2 ^ 8 := Nat.pow_le_pow_right (by omega) hw
  have hp0 := Nat.two_pow_pos w
  obtain ⟨hc, hm⟩ := opt_some hm
  simp only [Bool.and_eq_true, decide_eq_true_eq] at hc
  obtain ⟨⟨hA, hB⟩, hb0⟩ := hc
  have hz := okL_len hA
  have hzb := okL_len hB
  have hA := okL_lt hA
  have hB := okL_lt hB
  refine WC_at ff33 (ga.fn 33 (by decide) (by decide) (by decide)) nm33 rfl nc33 hn ?_
  simp only [List.cons_append, List.nil_append, List.map_cons, List.map_nil]
  refine WSs_cons ?_
  repeat walk_at "m_e"
  simp only [List.length_map]
  refine ⟨fun h => absurd (eqT h) (by omega), fun _ => ?_⟩
  repeat walk_at "m_s"
  refine WC_le (by omega) (compare_spec (n := 1) ga hi hj (by omega) (by omega) (by omega) ?_)
  repeat walk_at "m_e"
  refine ⟨fun h => ?_, fun h => ?_⟩
  · have h := ltT h
    rw [if_pos (by omega)] at hm
    cases hm
    repeat walk_at "m_s"
    refine ⟨_, _, _, rfl, by walk_at "m_hget", by simp; omega, slice_all, ?_⟩
    repeat walk_at "m_s"
    exact q _ _ _ _ (by walk_at "m_pre") hget_new (hget_old (hget_old hget_new)) (by walk_at "m_hget")
  have h := ltF h
  rw [if_neg (by omega)] at hm
  repeat walk_at "m_s"
  simp only [List.length_map]
  refine ⟨fun h => ?_, fun h => ?_⟩
  · have h := eqT h
    rw [if_pos (by omega)] at hm
    obtain ⟨hl, hm⟩ := opt_some hm
    have hl := of_decide_eq_true hl
    cases hm
    repeat walk_at "m_s"
    have hl' := getD_lt hB hp0 0
    exact WC_le (by omega) (small_spec (n := 3) ga hi hj (by omega) (by omega) hw hl (by omega) (by omega) q)
  have h := eqF h
  rw [if_neg (by omega), longD] at hm
  obtain ⟨hc, hm⟩ := opt_some hm
  simp only [Bool.and_eq_true, decide_eq_true_eq] at hc
  obtain ⟨hib, hsl⟩ := hc
  repeat walk_at "m_s"
  refine IX_last (by walk_at "m_hget") (by omega) (by omega) ?_
  repeat walk_at "m_s"
  refine WC_le (by omega) (bits_spec (n := 1) ga hget_new hw (by omega) ?_)
  rw [show Builtin.Int.intBits ((B.getD (B.length - 1) 0 : Nat) : Int) = bitsN (B.getD (B.length - 1) 0) from rfl]
  repeat walk_at "m_s"
  rw [show (w : Int) - ((bitsN (B.getD (B.length - 1) 0) : Nat) : Int) = ((w - bitsN (B.getD (B.length - 1) 0) : Nat) : Int) by omega]
  have hsw : w - bitsN (B.getD (B.length - 1) 0) ≤ w := Nat.sub_le _ _
  generalize w - bitsN (B.getD (B.length - 1) 0) = shift at *
  refine WC_le (by omega) (shift_left_spec (n := 1) ga (hget_old hj) (by omega) hw0 hw (by omega) hB (by omega) fun J d hd => ?_)
  repeat walk_at "m_s"
  refine WC_le (by omega) (shift_left_spec (n := 1) ga (hget_old (hget_old hi)) (by omega) hw0 hw (by omega) hA (by omega) fun J1 r0 hr0 => ?_)
  repeat walk_at "m_s"
  simp only [List.length_map]
  rw [show (A.length : Int) + 1 - ((shl w shift A).length : Int) = ((A.length + 1 - (shl w shift A).length : Nat) : Int) by omega]
  refine BO_mulZ (by walk_at "m_hget") (by omega) ?_
  have hlr : (shl w shift A ++ List.replicate (A.length + 1 - (shl w shift A).length) 0).length = A.length + 1 := by simp; omega
  have hr1 : (H ++ [MO.list [MV.int (B.getD (B.length - 1) 0 : Nat)]] ++ J ++ J1 ++ [MO.list [MV.int 0]] ++ [MO.list (nL (List.replicate (A.length + 1 - (shl w shift A).length) 0))])[r0]? = some (.list (nL (shl w shift A))) := hget_old (hget_old hr0)
  refine BO_addN hr1 hget_new (by simp; omega) ?_
  have hd1 : (H ++ [MO.list [MV.int (B.getD (B.length - 1) 0 : Nat)]] ++ J ++ J1)[d]? = some (.list (nL (shl w shift B))) := hget_old hd
  have hdl := (List.getElem?_eq_some_iff.mp hd1).1
  have hpre : H <+: H ++ [MO.list [MV.int (B.getD (B.length - 1) 0 : Nat)]] ++ J ++ J1 := by walk_at "m_pre"
  have hHl := hpre.length_le
  generalize H ++ [MO.list [MV.int (B.getD (B.length - 1) 0 : Nat)]] ++ J ++ J1 = H1 at *
  repeat walk_at "m_s"
  generalize shl w shift A ++ List.replicate (A.length + 1 - (shl w shift A).length) 0 = R1 at *
  rw [longC] at hm
  obtain ⟨hc, hm⟩ := opt_some hm
  simp only [Bool.and_eq_true, decide_eq_true_eq] at hc
  obtain ⟨⟨⟨⟨c1, c2⟩, c3⟩, c4⟩, c5⟩ := hc
  generalize shl w shift B = D at *
  generalize hrows : rowsC w D (R1.length - D.length) R1 (List.replicate (R1.length - D.length) 0) = o at hm
  cases o with
  | none => cases hm
  | some p =>
    obtain ⟨R', U'⟩ := p
    cases hm
    refine WC_le (by omega) (rows_spec (n := 2) ga hget_new (hget_old (hget_old (hget_old hd1))) (by simp; omega) c1 c2 (by omega) hw (okL_lt c3) (okL_lt c4) c5 (by omega) hrows fun J2 qi h1 h2 h3 h4 => ?_)
    rw [hset_new] at *
    have hlen4 := okL_len c4
    repeat walk_at "m_s"
    refine WC_le (by omega) (normal_spec (n := 1) ga h1 (by omega) (by omega) fun J3 u hu => ?_)
    repeat walk_at "m_s"
    refine WC_le (by omega) (normal_spec (n := 1) ga (hget_old (hget_old hget_new)) (by omega) (by omega) fun J4 v hv => ?_)
    repeat walk_at "m_s"
    have hnl := norm_le R'
    refine WC_le (by omega) (shift_right_spec (n := 2) ga hv (by omega) hw0 hw (by omega) (fun x hx => h4 x (norm_mem hx)) (by omega) fun J5 v2 hv2 => ?_)
    repeat walk_at "m_s"
    exact q _ _ _ _ (by walk_at "m_pre") hget_new (by walk_at "m_hget") (by walk_at "m_hget")
end
/-! signed numbers and rationals -/
def bnd {α β : Type} (x : Option α) (f : α → Option β) : Option β := match x with
  | none => none
  | some a => f a
theorem bnd_some {α β : Type} {x : Option α} {f : α → Option β} {r : β} (h : bnd x f = some r) : ∃ a, x = some a ∧ f a = some r := by
  cases x with
  | none => cases h
  | some a => exact ⟨a, rfl, h⟩
abbrev SN := Bool × List Nat
abbrev RN := SN × List Nat
def sgn (b : Bool) (l : List Nat) : Option SN := opt (decide (l.length ≤ 10000)) (some (b && decide (0 < l.length), l))
def addO (w : Nat) (a b : List Nat) : Option (List Nat) := opt (okL w a && okL w b) (some (add w a b))
def subO (w : Nat) (a b : List Nat) : Option (List Nat) := opt (okL w a && okL w b && decide (cmp a b ≠ 0)) (some (sub w a b))
def mulO (w : Nat) (a b : List Nat) : Option (List Nat) := opt (okL w a && okL w b) (some (mul w a b))
def sadd (w : Nat) (x y : SN) : Option SN := opt (okL w x.2 && okL w y.2) <|
  match x.1 == y.1 with
  | true => bnd (addO w x.2 y.2) fun l => sgn x.1 l
  | false => if cmp x.2 y.2 = 0 then bnd (subO w y.2 x.2) fun l => sgn y.1 l else bnd (subO w x.2 y.2) fun l => sgn x.1 l
def smul (w : Nat) (x y : SN) : Option SN := bnd (mulO w x.2 y.2) fun l => sgn (x.1 != y.1) l
def comm (w : Nat) : Nat → List Nat → List Nat → Option (List Nat)
  | 0, _, _ => none
  | f + 1, a, b => match b with
    | [] => opt (okL w a) (some (norm a))
    | y :: b' => bnd (divrem w a (y :: b')) fun p => comm w f (y :: b') p.2
def cut (w : Nat) (x : SN) (d : List Nat) : Option SN := bnd (divrem w x.2 d) fun p => some (x.1, p.1)
def rneg (x : RN) : Option RN := bnd (sgn (!x.1.1) x.1.2) fun s => some (s, x.2)
def radd (w : Nat) (x y : RN) : Option RN :=
  bnd (comm w 40 x.2 y.2) fun told => bnd (divrem w x.2 told) fun here => bnd (divrem w y.2 told) fun there =>
  bnd (smul w x.1 (false, there.1)) fun t1 => bnd (smul w y.1 (false, here.1)) fun t2 => bnd (sadd w t1 t2) fun top => opt (decide (top.2.length ≤ 10000)) <|
  if top.2.length = 0 then some (top, [1]) else
  bnd (comm w 40 top.2 told) fun out => bnd (cut w top out) fun c => bnd (divrem w y.2 out) fun e => bnd (mulO w here.1 e.1) fun m => some (c, m)
def rsub (w : Nat) (x y : RN) : Option RN := bnd (rneg y) fun z => radd w x z
def rmul (w : Nat) (x y : RN) : Option RN := opt (decide (x.1.2.length ≤ 10000) && decide (y.1.2.length ≤ 10000)) <|
  if x.1.2.length = 0 ∨ y.1.2.length = 0 then some ((false, []), [1]) else
  bnd (comm w 40 x.1.2 y.2) fun one => bnd (comm w 40 y.1.2 x.2) fun other => bnd (cut w x.1 one) fun c1 => bnd (cut w y.1 other) fun c2 => bnd (smul w c1 c2) fun top =>
  bnd (divrem w x.2 other) fun d1 => bnd (divrem w y.2 one) fun d2 => bnd (mulO w d1.1 d2.1) fun m => some (top, m)
def rinv (x : RN) : Option RN := opt (decide (x.1.2.length ≠ 0) && decide (x.1.2.length ≤ 10000)) (some ((x.1.1, x.2), x.1.2))
def SR (H : List MO) (i : Nat) (s : SN) : Prop := ∃ u, H[i]? = some (.tup [.bool s.1, .ref u]) ∧ H[u]? = some (.list (nL s.2))
def RR (H : List MO) (i : Nat) (x : RN) : Prop := ∃ a b, H[i]? = some (.tup [.ref a, .ref b]) ∧ SR H a x.1 ∧ H[b]? = some (.list (nL x.2))
theorem SR.mono {H H' : List MO} {i : Nat} {s : SN} (p : H <+: H') (h : SR H i s) : SR H' i s := by
  obtain ⟨u, h1, h2⟩ := h
  exact ⟨u, hget_pre p h1, hget_pre p h2⟩
theorem RR.mono {H H' : List MO} {i : Nat} {s : RN} (p : H <+: H') (h : RR H i s) : RR H' i s := by
  obtain ⟨a, b, h1, h2, h3⟩ := h
  exact ⟨a, b, hget_pre p h1, h2.mono p, hget_pre p h3⟩

section
variable {G : Gx} {n : Nat} {Q : MV → List MO → Prop} {H : List MO}
theorem addP (ga : GAll G) {i j w : Nat} {A B C : List Nat} (hi : H[i]? = some (.list (nL A))) (hj : H[j]? = some (.list (nL B))) (hw : w ≤ 8) (hm : addO w A B = some C) (hn : 1 ≤ n)
    (q : ∀ H' r, H <+: H' → H'[r]? = some (.list (nL C)) → Q (.ref r) H') : WC G n (.fn (Str.ofString "add")) [.ref i, .ref j, .int (w : Int)] Q H := by
  obtain ⟨hc, hm⟩ := opt_some hm
  simp only [Bool.and_eq_true] at hc
  have h1 := okL_len hc.1
  have h2 := okL_len hc.2
  cases hm
  exact add_spec ga hi hj (by omega) (by omega) hw hn fun J r h => q _ r (List.prefix_append _ _) h
theorem subP (ga : GAll G) {i j w : Nat} {A B C : List Nat} (hi : H[i]? = some (.list (nL A))) (hj : H[j]? = some (.list (nL B))) (hw : w ≤ 8) (hm : subO w A B = some C) (hn : 2 ≤ n)
    (q : ∀ H' r, H <+: H' → H'[r]? = some (.list (nL C)) → Q (.ref r) H') : WC G n (.fn (Str.ofString "sub")) [.ref i, .ref j, .int (w : Int)] Q H := by
  obtain ⟨hc, hm⟩ := opt_some hm
  simp only [Bool.and_eq_true, decide_eq_true_eq] at hc
  have h1 := okL_len hc.1.1
  have h2 := okL_len hc.1.2
  cases hm
  exact sub_spec ga hi hj (by omega) (by omega) hw (okL_lt hc.1.2) hc.2 hn fun J r h => q _ r (List.prefix_append _ _) h
theorem mulP (ga : GAll G) {i j w : Nat} {A B C : List Nat} (hi : H[i]? = some (.list (nL A))) (hj : H[j]? = some (.list (nL B))) (hw : w ≤ 8) (hm : mulO w A B = some C) (hn : 2 ≤ n)
    (q : ∀ H' r, H <+: H' → H'[r]? = some (.list (nL C)) → Q (.ref r) H') : WC G n (.fn (Str.ofString "mul_school")) [.ref i, .ref j, .int (w : Int)] Q H := by
  obtain ⟨hc, hm⟩ := opt_some hm
  simp only [Bool.and_eq_true] at hc
  have h1 := okL_len hc.1
  have h2 := okL_len hc.2
  cases hm
  exact mul_spec ga hi hj (by omega) (by omega) hw (okL_lt hc.2) hn fun J r h => q _ r (List.prefix_append _ _) h
theorem normP (ga : GAll G) {i : Nat} {A : List Nat} (hi : H[i]? = some (.list (nL A))) (hz : A.length ≤ 10000) (hn : 1 ≤ n)
    (q : ∀ H' r, H <+: H' → H'[r]? = some (.list (nL (norm A))) → Q (.ref r) H') : WC G n (.fn (Str.ofString "normal")) [.ref i] Q H :=
  normal_spec ga hi hz hn fun J r h => q _ r (List.prefix_append _ _) h
theorem signed_spec (ga : GAll G) {b : Bool} {u : Nat} {l : List Nat} {s : SN} (hu : H[u]? = some (.list (nL l))) (hm : sgn b l = some s) (hn : 1 ≤ n)
    (q : ∀ H' t, H <+: H' → SR H' t s → Q (.ref t) H') : WC G n (.fn (Str.ofString "signed")) [.bool b, .ref u] Q H := by
  have go := ga.go
  obtain ⟨hc, hm⟩ := opt_some hm
  have hc := of_decide_eq_true hc
  cases hm
  refine WC_at ff13 (ga.fn 13 (by decide) (by decide) (by decide)) nm13 rfl nc13 hn ?_
  simp only [List.cons_append, List.nil_append, List.map_cons, List.map_nil]
  refine WSs_cons ?_
  repeat walk_at "m_e"
  refine ⟨fun h => ?_, fun h => ?_⟩
  · subst h
    repeat walk_at "m_e"
    refine q _ _ (by walk_at "m_pre") ⟨u, ?_, hget_old hu⟩
    rw [hget_new]
    simp
  · subst h
    repeat walk_at "m_e"
    exact q _ _ (by walk_at "m_pre") ⟨u, hget_new, hget_old hu⟩
theorem s_add_spec (ga : GAll G) {i j w : Nat} {x y s : SN} (hx : SR H i x) (hy : SR H j y) (hw : w ≤ 8) (hm : sadd w x y = some s) (hn : 3 ≤ n)
    (q : ∀ H' t, H <+: H' → SR H' t s → Q (.ref t) H') : WC G n (.fn (Str.ofString "s_add")) [.ref i, .ref j, .int (w : Int)] Q H := by
  have go := ga.go
  obtain ⟨hc, hm⟩ := opt_some hm
  simp only [Bool.and_eq_true] at hc
  have z1 := okL_len hc.1
  have z2 := okL_len hc.2
  obtain ⟨u, hx1, hx2⟩ := hx
  obtain ⟨v, hy1, hy2⟩ := hy
  refine WC_at ff15 (ga.fn 15 (by decide) (by decide) (by decide)) nm15 rfl nc15 hn ?_
  simp only [List.cons_append, List.nil_append, List.map_cons, List.map_nil]
  refine WSs_cons ?_
  repeat walk_at "m_e"
  refine ⟨fun h => ?_, fun h => ?_⟩
  · rw [h] at hm
    obtain ⟨l, h1, hm⟩ := bnd_some hm
    repeat walk_at "m_s"
    refine WC_le (by omega) (addP (n := 1) ga hx2 hy2 hw h1 (by omega) fun H1 r p1 hr => ?_)
    repeat walk_at "m_s"
    exact WC_le (by omega) (signed_spec (n := 1) ga hr hm (by omega) fun H2 t p2 ht => q _ _ (p1.trans p2) ht)
  · rw [h] at hm
    repeat walk_at "m_s"
    refine WC_le (by omega) (compare_spec (n := 1) ga hx2 hy2 (by omega) (by omega) (by omega) ?_)
    repeat walk_at "m_e"
    refine ⟨fun h => ?_, fun h => ?_⟩
    · have h := ltT h
      simp only [] at hm
      rw [if_pos (by omega)] at hm
      obtain ⟨l, h1, hm⟩ := bnd_some hm
      repeat walk_at "m_s"
      refine WC_le (by omega) (subP (n := 2) ga hy2 hx2 hw h1 (by omega) fun H1 r p1 hr => ?_)
      repeat walk_at "m_s"
      exact WC_le (by omega) (signed_spec (n := 1) ga hr hm (by omega) fun H2 t p2 ht => q _ _ (p1.trans p2) ht)
    · have h := ltF h
      simp only [] at hm
      rw [if_neg (by omega)] at hm
      obtain ⟨l, h1, hm⟩ := bnd_some hm
      repeat walk_at "m_s"
      refine WC_le (by omega) (subP (n := 2) ga hx2 hy2 hw h1 (by omega) fun H1 r p1 hr => ?_)
      repeat walk_at "m_s"
      exact WC_le (by omega) (signed_spec (n := 1) ga hr hm (by omega) fun H2 t p2 ht => q _ _ (p1.trans p2) ht)
theorem s_mul_spec (ga : GAll G) {i j w : Nat} {x y s : SN} (hx : SR H i x) (hy : SR H j y) (hw : w ≤ 8) (hm : smul w x y = some s) (hn : 3 ≤ n)
    (q : ∀ H' t, H <+: H' → SR H' t s → Q (.ref t) H') : WC G n (.fn (Str.ofString "s_mul")) [.ref i, .ref j, .int (w : Int), .fn (Str.ofString "mul_school")] Q H := by
  have go := ga.go
  obtain ⟨l, h1, hm⟩ := bnd_some hm
  obtain ⟨u, hx1, hx2⟩ := hx
  obtain ⟨v, hy1, hy2⟩ := hy
  refine WC_at ff16 (ga.fn 16 (by decide) (by decide) (by decide)) nm16 rfl nc16 hn ?_
  simp only [List.cons_append, List.nil_append, List.map_cons, List.map_nil]
  refine WSs_cons ?_
  repeat walk_at "m_e"
  refine WC_le (by omega) (mulP (n := 2) ga hx2 hy2 hw h1 (by omega) fun H1 r p1 hr => ?_)
  repeat walk_at "m_s"
  exact WC_le (by omega) (signed_spec (n := 1) ga hr hm (by omega) fun H2 t p2 ht => q _ _ (p1.trans p2) ht)
theorem s_neg_spec (ga : GAll G) {i : Nat} {x s : SN} (hx : SR H i x) (hm : sgn (!x.1) x.2 = some s) (hn : 2 ≤ n)
    (q : ∀ H' t, H <+: H' → SR H' t s → Q (.ref t) H') : WC G n (.fn (Str.ofString "s_neg")) [.ref i] Q H := by
  have go := ga.go
  obtain ⟨u, hx1, hx2⟩ := hx
  refine WC_at ff14 (ga.fn 14 (by decide) (by decide) (by decide)) nm14 rfl nc14 hn ?_
  simp only [List.cons_append, List.nil_append, List.map_cons, List.map_nil]
  refine WSs_cons ?_
  repeat walk_at "m_e"
  exact WC_le (by omega) (signed_spec (n := 1) ga hx2 hm (by omega) fun H2 t p2 ht => q _ _ p2 ht)
theorem common_spec (ga : GAll G) {i j w : Nat} {A B C : List Nat} (hi : H[i]? = some (.list (nL A))) (hj : H[j]? = some (.list (nL B))) (hw0 : 0 < w) (hw : w ≤ 8) (hm : comm w 40 A B = some C) (hn : 5 ≤ n)
    (q : ∀ H' r, H <+: H' → H'[r]? = some (.list (nL C)) → Q (.ref r) H') : WC G n (.fn (Str.ofString "common")) [.ref i, .ref j, .int (w : Int), .fn (Str.ofString "divrem_school")] Q H := by
  have go := ga.go
  refine WC_at ff18 (ga.fn 18 (by decide) (by decide) (by decide)) nm18 rfl nc18 hn ?_
  simp only [List.cons_append, List.nil_append, List.map_cons, List.map_nil]
  refine WSs_cons ?_
  refine WS_while (WWh_inv (fun m σ' H' => ∃ ia ib A B, σ' = [.ref ia, .ref ib, .int (w : Int), .fn (Str.ofString "divrem_school")] ∧ H <+: H' ∧ H'[ia]? = some (.list (nL A)) ∧ H'[ib]? = some (.list (nL B)) ∧ comm w m A B = some C)
    (k := 40) ⟨i, j, A, B, rfl, List.prefix_rfl, hi, hj, hm⟩ ?_)
  intro m σ' H' zq
  refine cps fun zP zh => ?_
  obtain ⟨ia, ib, A, B, rfl, p, hi, hj, hm⟩ := zq
  refine zh ?_
  clear zh zP
  cases m with
  | zero => cases hm
  | succ m =>
    cases B with
    | nil =>
      obtain ⟨hc, hm⟩ := opt_some hm
      have hz := okL_len hc
      cases hm
      repeat walk_at "m_e"
      refine ⟨fun h => absurd (ltT h) (by simp), fun _ => ?_⟩
      repeat walk_at "m_s"
      exact WC_le (by omega) (normP (n := 1) ga hi (by omega) (by omega) fun H1 r p1 hr => q _ _ (p.trans p1) hr)
    | cons y B =>
      obtain ⟨pr, h1, hm⟩ := bnd_some hm
      obtain ⟨U, R⟩ := pr
      obtain ⟨hc, _⟩ := opt_some h1
      simp only [Bool.and_eq_true, decide_eq_true_eq] at hc
      have hz := okL_len hc.1.2
      simp only [List.length_cons] at hz
      repeat walk_at "m_e"
      refine ⟨fun _ => ?_, fun h => absurd (ltF h) (by simp)⟩
      repeat walk_at "m_s"
      refine WC_le (by omega) (divrem_spec (n := 4) ga hi hj hw0 hw h1 (by omega) fun H1 t u v p1 ht hu hv => ?_)
      repeat walk_at "m_s"
      exact ⟨m, by omega, ib, v, _, _, rfl, p.trans p1, hget_pre p1 hj, hv, hm⟩
theorem cut_spec (ga : GAll G) {i j w : Nat} {x s : SN} {D : List Nat} (hx : SR H i x) (hj : H[j]? = some (.list (nL D))) (hw0 : 0 < w) (hw : w ≤ 8) (hm : cut w x D = some s) (hn : 5 ≤ n)
    (q : ∀ H' t, H <+: H' → SR H' t s → Q (.ref t) H') : WC G n (.fn (Str.ofString "cut_signed")) [.ref i, .ref j, .int (w : Int), .fn (Str.ofString "divrem_school")] Q H := by
  have go := ga.go
  obtain ⟨⟨U, R⟩, h1, hm⟩ := bnd_some hm
  cases hm
  obtain ⟨u, hx1, hx2⟩ := hx
  refine WC_at ff19 (ga.fn 19 (by decide) (by decide) (by decide)) nm19 rfl nc19 hn ?_
  simp only [List.cons_append, List.nil_append, List.map_cons, List.map_nil]
  refine WSs_cons ?_
  repeat walk_at "m_e"
  refine WC_le (by omega) (divrem_spec (n := 4) ga hx2 hj hw0 hw h1 (by omega) fun H1 t u v p1 ht hu hv => ?_)
  repeat walk_at "m_s"
  exact q _ _ (by walk_at "m_pre") ⟨u, hget_new, hget_old hu⟩
theorem signed_of_spec (ga : GAll G) {u : Nat} {l : List Nat} (hu : H[u]? = some (.list (nL l))) (hn : 1 ≤ n)
    (q : ∀ H' t, H <+: H' → SR H' t (false, l) → Q (.ref t) H') : WC G n (.fn (Str.ofString "signed_of")) [.ref u] Q H := by
  have go := ga.go
  refine WC_at ff20 (ga.fn 20 (by decide) (by decide) (by decide)) nm20 rfl nc20 hn ?_
  simp only [List.cons_append, List.nil_append, List.map_cons, List.map_nil]
  refine WSs_cons ?_
  repeat walk_at "m_e"
  exact q _ _ (by walk_at "m_pre") ⟨u, hget_new, hget_old hu⟩
theorem r_neg_spec (ga : GAll G) {i : Nat} {x s : RN} (hx : RR H i x) (hm : rneg x = some s) (hn : 3 ≤ n)
    (q : ∀ H' t, H <+: H' → RR H' t s → Q (.ref t) H') : WC G n (.fn (Str.ofString "r_neg")) [.ref i] Q H := by
  have go := ga.go
  obtain ⟨s', h1, hm⟩ := bnd_some hm
  cases hm
  obtain ⟨a, b, hx1, hx2, hx3⟩ := hx
  refine WC_at ff21 (ga.fn 21 (by decide) (by decide) (by decide)) nm21 rfl nc21 hn ?_
  simp only [List.cons_append, List.nil_append, List.map_cons, List.map_nil]
  refine WSs_cons ?_
  repeat walk_at "m_e"
  refine WC_le (by omega) (s_neg_spec (n := 2) ga hx2 h1 (by omega) fun H1 t p1 ht => ?_)
  repeat walk_at "m_s"
  exact q _ _ (by walk_at "m_pre") ⟨t, b, hget_new, ht.mono (by walk_at "m_pre"), hget_old (hget_pre p1 hx3)⟩
theorem r_inv_spec (ga : GAll G) {i : Nat} {x s : RN} (hx : RR H i x) (hm : rinv x = some s) (hn : 1 ≤ n)
    (q : ∀ H' t, H <+: H' → RR H' t s → Q (.ref t) H') : WC G n (.fn (Str.ofString "r_inverse")) [.ref i] Q H := by
  have go := ga.go
  obtain ⟨hc, hm⟩ := opt_some hm
  simp only [Bool.and_eq_true, decide_eq_true_eq] at hc
  have hc2 := hc.2
  cases hm
  obtain ⟨a, b, hx1, ⟨u, hx2, hx4⟩, hx3⟩ := hx
  refine WC_at ff25 (ga.fn 25 (by decide) (by decide) (by decide)) nm25 rfl nc25 hn ?_
  simp only [List.cons_append, List.nil_append, List.map_cons, List.map_nil]
  refine WSs_cons ?_
  repeat walk_at "m_e"
  simp only [List.length_map]
  refine ⟨fun h => absurd (eqT h) (by omega), fun _ => ?_⟩
  repeat walk_at "m_s"
  exact q _ _ (by walk_at "m_pre") ⟨_, u, hget_new, ⟨b, hget_old hget_new, by walk_at "m_hget"⟩, by walk_at "m_hget"⟩
end
section
variable {G : Gx} {n : Nat} {Q : MV → List MO → Prop} {H : List MO}
theorem r_add_spec (ga : GAll G) {i j w : Nat} {x y s : RN} (hx : RR H i x) (hy : RR H j y) (hw0 : 0 < w) (hw : w ≤ 8) (hm : radd w x y = some s) (hn : 6 ≤ n)
    (q : ∀ H' t, H <+: H' → RR H' t s → Q (.ref t) H') : WC G n (.fn (Str.ofString "r_add")) [.ref i, .ref j, .int (w : Int), .fn (Str.ofString "mul_school"), .fn (Str.ofString "divrem_school")] Q H := by
  have go := ga.go
  obtain ⟨told, m1, hm⟩ := bnd_some hm
  obtain ⟨here, m2, hm⟩ := bnd_some hm
  obtain ⟨there, m3, hm⟩ := bnd_some hm
  obtain ⟨t1, m4, hm⟩ := bnd_some hm
  obtain ⟨t2, m5, hm⟩ := bnd_some hm
  obtain ⟨top, m6, hm⟩ := bnd_some hm
  obtain ⟨hc, hm⟩ := opt_some hm
  have hc := of_decide_eq_true hc
  obtain ⟨xa, xb, hx1, hx2, hx3⟩ := hx
  obtain ⟨ya, yb, hy1, hy2, hy3⟩ := hy
  refine WC_at ff22 (ga.fn 22 (by decide) (by decide) (by decide)) nm22 rfl nc22 hn ?_
  simp only [List.cons_append, List.nil_append, List.map_cons, List.map_nil]
  refine WSs_cons ?_
  repeat walk_at "m_e"
  refine WC_le (by omega) (common_spec (n := 5) ga hx3 hy3 hw0 hw m1 (by omega) fun H1 rt p1 ht => ?_)
  repeat walk_at "m_s"
  refine WC_le (by omega) (divrem_spec (n := 4) ga (hget_pre p1 hx3) ht hw0 hw m2 (by omega) fun H2 z1 u1 v1 p2 a1 a2 a3 => ?_)
  repeat walk_at "m_s"
  refine WC_le (by omega) (divrem_spec (n := 4) ga (hget_pre p2 (hget_pre p1 hy3)) (hget_pre p2 ht) hw0 hw m3 (by omega) fun H3 z2 u2 v2 p3 b1 b2 b3 => ?_)
  repeat walk_at "m_s"
  refine WC_le (by omega) (signed_of_spec (n := 1) ga b2 (by omega) fun H4 s1 p4 c1 => ?_)
  repeat walk_at "m_s"
  refine WC_le (by omega) (s_mul_spec (n := 3) ga (hx2.mono (p1.trans (p2.trans (p3.trans p4)))) c1 hw m4 (by omega) fun H5 s2 p5 c2 => ?_)
  repeat walk_at "m_s"
  refine WC_le (by omega) (signed_of_spec (n := 1) ga (hget_pre p5 (hget_pre p4 (hget_pre p3 a2))) (by omega) fun H6 s3 p6 c3 => ?_)
  repeat walk_at "m_s"
  refine WC_le (by omega) (s_mul_spec (n := 3) ga (hy2.mono (p1.trans (p2.trans (p3.trans (p4.trans (p5.trans p6)))))) c3 hw m5 (by omega) fun H7 s4 p7 c4 => ?_)
  repeat walk_at "m_s"
  refine WC_le (by omega) (s_add_spec (n := 3) ga (c2.mono (p6.trans p7)) c4 hw m6 (by omega) fun H8 s5 p8 c5 => ?_)
  obtain ⟨tu, d1, d2⟩ := id c5
  repeat walk_at "m_s"
  simp only [List.length_map]
  refine ⟨fun h => ?_, fun h => ?_⟩
  · have h := eqT h
    rw [if_pos (by omega)] at hm
    cases hm
    repeat walk_at "m_s"
    exact q _ _ (by walk_at "m_pre") ⟨s5, _, hget_new, c5.mono (by walk_at "m_pre"), hget_old hget_new⟩
  · have h := eqF h
    rw [if_neg (by omega)] at hm
    obtain ⟨out, m7, hm⟩ := bnd_some hm
    obtain ⟨c, m8, hm⟩ := bnd_some hm
    obtain ⟨e, m9, hm⟩ := bnd_some hm
    obtain ⟨m, m10, hm⟩ := bnd_some hm
    cases hm
    repeat walk_at "m_s"
    refine WC_le (by omega) (common_spec (n := 5) ga d2 (by walk_at "m_hget") hw0 hw m7 (by omega) fun H9 s6 p9 c6 => ?_)
    repeat walk_at "m_s"
    refine WC_le (by omega) (cut_spec (n := 5) ga (c5.mono p9) c6 hw0 hw m8 (by omega) fun H10 s7 p10 c7 => ?_)
    repeat walk_at "m_s"
    refine WC_le (by omega) (divrem_spec (n := 4) ga (by walk_at "m_hget") (by walk_at "m_hget") hw0 hw m9 (by omega) fun H11 z3 u3 v3 p11 e1 e2 e3 => ?_)
    repeat walk_at "m_s"
    refine WC_le (by omega) (mulP (n := 2) ga (by walk_at "m_hget") e2 hw m10 (by omega) fun H12 s8 p12 c8 => ?_)
    repeat walk_at "m_s"
    exact q _ _ (by walk_at "m_pre") ⟨s7, s8, hget_new, c7.mono (by walk_at "m_pre"), hget_old c8⟩
theorem r_sub_spec (ga : GAll G) {i j w : Nat} {x y s : RN} (hx : RR H i x) (hy : RR H j y) (hw0 : 0 < w) (hw : w ≤ 8) (hm : rsub w x y = some s) (hn : 7 ≤ n)
    (q : ∀ H' t, H <+: H' → RR H' t s → Q (.ref t) H') : WC G n (.fn (Str.ofString "r_sub")) [.ref i, .ref j, .int (w : Int), .fn (Str.ofString "mul_school"), .fn (Str.ofString "divrem_school")] Q H := by
  have go := ga.go
  obtain ⟨z, m1, hm⟩ := bnd_some hm
  refine WC_at ff23 (ga.fn 23 (by decide) (by decide) (by decide)) nm23 rfl nc23 hn ?_
  simp only [List.cons_append, List.nil_append, List.map_cons, List.map_nil]
  refine WSs_cons ?_
  repeat walk_at "m_e"
  refine WC_le (by omega) (r_neg_spec (n := 3) ga hy m1 (by omega) fun H1 t p1 ht => ?_)
  repeat walk_at "m_s"
  exact WC_le (by omega) (r_add_spec (n := 6) ga (hx.mono p1) ht hw0 hw hm (by omega) fun H2 t2 p2 h2 => q _ _ (p1.trans p2) h2)
theorem r_mul_spec (ga : GAll G) {i j w : Nat} {x y s : RN} (hx : RR H i x) (hy : RR H j y) (hw0 : 0 < w) (hw : w ≤ 8) (hm : rmul w x y = some s) (hn : 6 ≤ n)
    (q : ∀ H' t, H <+: H' → RR H' t s → Q (.ref t) H') : WC G n (.fn (Str.ofString "r_mul")) [.ref i, .ref j, .int (w : Int), .fn (Str.ofString "mul_school"), .fn (Str.ofString "divrem_school")] Q H := by
  have go := ga.go
  obtain ⟨hc, hm⟩ := opt_some hm
  simp only [Bool.and_eq_true, decide_eq_true_eq] at hc
  obtain ⟨z1, z2⟩ := hc
  obtain ⟨xa, xb, hx1, hx2, hx3⟩ := hx
  obtain ⟨ya, yb, hy1, hy2, hy3⟩ := hy
  obtain ⟨xu, hx4, hx5⟩ := id hx2
  obtain ⟨yu, hy4, hy5⟩ := id hy2
  refine WC_at ff24 (ga.fn 24 (by decide) (by decide) (by decide)) nm24 rfl nc24 hn ?_
  simp only [List.cons_append, List.nil_append, List.map_cons, List.map_nil]
  refine WSs_cons ?_
  repeat walk_at "m_e"
  simp only [List.length_map]
  have stop : x.1.2.length = 0 ∨ y.1.2.length = 0 → Q (.ref (H ++ [MO.list []] ++ [MO.tup [.bool false, .ref H.length]] ++ [MO.list [.int 1]]).length) (H ++ [MO.list []] ++ [MO.tup [.bool false, .ref H.length]] ++ [MO.list [.int 1]] ++ [MO.tup [.ref (H ++ [MO.list []]).length, .ref (H ++ [MO.list []] ++ [MO.tup [.bool false, .ref H.length]]).length]]) := by
    intro h
    rw [if_pos h] at hm
    cases hm
    exact q _ _ (by walk_at "m_pre") ⟨_, _, hget_new, ⟨H.length, hget_old (hget_old hget_new), hget_old (hget_old (hget_old hget_new))⟩, hget_old hget_new⟩
  refine ⟨fun h => ?_, fun h => ⟨fun _ => ?_, fun h => (nomatch h)⟩⟩
  · have h := eqF h
    repeat walk_at "m_e"
    simp only [List.length_map]
    refine ⟨fun h => ?_, fun h' => ?_⟩
    · have h := eqT h
      repeat walk_at "m_s"
      exact stop (.inr (by omega))
    · have h' := eqF h'
      rw [if_neg (by omega)] at hm
      obtain ⟨one, m1, hm⟩ := bnd_some hm
      obtain ⟨other, m2, hm⟩ := bnd_some hm
      obtain ⟨c1, m3, hm⟩ := bnd_some hm
      obtain ⟨c2, m4, hm⟩ := bnd_some hm
      obtain ⟨top, m5, hm⟩ := bnd_some hm
      obtain ⟨d1, m6, hm⟩ := bnd_some hm
      obtain ⟨d2, m7, hm⟩ := bnd_some hm
      obtain ⟨m, m8, hm⟩ := bnd_some hm
      cases hm
      repeat walk_at "m_s"
      refine WC_le (by omega) (common_spec (n := 5) ga hx5 hy3 hw0 hw m1 (by omega) fun H1 s1 p1 e1 => ?_)
      repeat walk_at "m_s"
      refine WC_le (by omega) (common_spec (n := 5) ga (by walk_at "m_hget") (by walk_at "m_hget") hw0 hw m2 (by omega) fun H2 s2 p2 e2 => ?_)
      repeat walk_at "m_s"
      refine WC_le (by omega) (cut_spec (n := 5) ga (hx2.mono (p1.trans p2)) (by walk_at "m_hget") hw0 hw m3 (by omega) fun H3 s3 p3 e3 => ?_)
      repeat walk_at "m_s"
      refine WC_le (by omega) (cut_spec (n := 5) ga (hy2.mono (p1.trans (p2.trans p3))) (by walk_at "m_hget") hw0 hw m4 (by omega) fun H4 s4 p4 e4 => ?_)
      repeat walk_at "m_s"
      refine WC_le (by omega) (s_mul_spec (n := 3) ga (e3.mono p4) e4 hw m5 (by omega) fun H5 s5 p5 e5 => ?_)
      repeat walk_at "m_s"
      refine WC_le (by omega) (divrem_spec (n := 4) ga (by walk_at "m_hget") (by walk_at "m_hget") hw0 hw m6 (by omega) fun H6 z1 u1 v1 p6 a1 a2 a3 => ?_)
      repeat walk_at "m_s"
      refine WC_le (by omega) (divrem_spec (n := 4) ga (by walk_at "m_hget") (by walk_at "m_hget") hw0 hw m7 (by omega) fun H7 z2 u2 v2 p7 b1 b2 b3 => ?_)
      repeat walk_at "m_s"
      refine WC_le (by omega) (mulP (n := 2) ga (by walk_at "m_hget") b2 hw m8 (by omega) fun H8 s8 p8 e8 => ?_)
      repeat walk_at "m_s"
      exact q _ _ (by walk_at "m_pre") ⟨s5, s8, hget_new, e5.mono (by walk_at "m_pre"), hget_old e8⟩
  · have h := eqT h
    repeat walk_at "m_s"
    exact stop (.inl (by omega))
end
/-! the law's own helpers -/
def limbsC (w : Nat) : Nat → Nat → Option (List Nat)
  | 0, _ => none
  | f + 1, m => if m = 0 then some [] else bnd (limbsC w f (m / 2 ^ w)) fun l => some (m % 2 ^ w :: l)
def gcdC : Nat → Nat → Nat → Option Nat
  | 0, _, _ => none
  | f + 1, a, b => if b = 0 then some a else gcdC f b (a % b)
def least (w : Nat) (top : Int) (bottom : Nat) : Option RN :=
  bnd (gcdC 60 top.natAbs bottom) fun g => opt (decide (0 < g) && decide (g < 2 ^ 20)) <|
  bnd (limbsC w 60 (top.natAbs / g)) fun l1 => bnd (limbsC w 60 (bottom / g)) fun l2 => some ((decide (top < 0), l1), l2)
def exch (w h k : Nat) (later : RN) : Option RN :=
  bnd (least w h k) fun quo => bnd (rinv quo) fun inv => bnd (radd w quo inv) fun t1 => bnd (limbsC w 60 (h * k)) fun hk => bnd (radd w t1 ((false, [1]), hk)) fun t2 =>
  bnd (limbsC w 60 12) fun l12 => bnd (rmul w t2 ((false, [1]), l12)) fun tw => bnd (limbsC w 60 4) fun l4 => bnd (radd w later ((false, [1]), l4)) fun less => rsub w tw less
theorem pow_nat2 (w : Nat) : (2 : Int) ^ ((w : Int)).toNat = ((2 ^ w : Nat) : Int) := by
  rw [Int.toNat_natCast]
  exact (Int.natCast_pow 2 w).symm ▸ rfl

section
variable {G : Gx} {n : Nat} {Q : MV → List MO → Prop} {H : List MO}
theorem limbs_spec (ga : GAll G) {w m : Nat} {L : List Nat} (hw : w ≤ 8) (hm : limbsC w 60 m = some L) (hn : 1 ≤ n)
    (q : ∀ H' r, H <+: H' → H'[r]? = some (.list (nL L)) → Q (.ref r) H') : WC G n (.fn (Str.ofString "_law_limbs")) [.int (m : Int), .int (w : Int)] Q H := by
  have go := ga.go
  have hp : 2 ^ w ≤ 2 ^ 8 := Nat.pow_le_pow_right (by omega) hw
  have hp0 := Nat.two_pow_pos w
  refine WC_at ff36 (ga.fn 36 (by decide) (by decide) (by decide)) nm36 rfl nc36 hn ?_
  simp only [List.cons_append, List.nil_append, List.map_cons, List.map_nil]
  refine WSs_cons ?_
  repeat walk_at "m_s"
  refine WS_while (WWh_inv (fun f σ' H' => ∃ (F : List Nat) (m : Nat) (L1 : List Nat), σ' = [.int (m : Int), .int (w : Int), .ref H.length] ∧ H' = H ++ [.list (nL F)] ∧ F.length + f = 60 ∧ limbsC w f m = some L1 ∧ F ++ L1 = L)
    (k := 60) ⟨[], m, L, rfl, rfl, rfl, hm, rfl⟩ ?_)
  intro f σ' H' zq
  refine cps fun zP zh => ?_
  obtain ⟨F, m, L1, rfl, rfl, h1, hm, h2⟩ := zq
  refine zh ?_
  clear zh zP
  cases f with
  | zero => cases hm
  | succ f =>
    rw [limbsC] at hm
    repeat walk_at "m_e"
    refine ⟨fun h => ?_, fun h => ?_⟩
    · have h := ltT h
      rw [if_neg (by omega)] at hm
      obtain ⟨L2, hm2, e⟩ := bnd_some hm
      cases e
      refine WSs_cons ?_
      walk_at "m_app"
      repeat walk_at "m_e"
      refine BO_pow (by omega) (by omega) (by decide) ?_
      rw [pow_nat2]
      repeat walk_at "m_e"
      rw [fmod_nat]
      walk_at "m_app2"
      repeat walk_at "m_s"
      refine BO_pow (by omega) (by omega) (by decide) ?_
      rw [pow_nat2]
      repeat walk_at "m_s"
      rw [fdiv_nat, nL_snoc]
      exact ⟨f, by omega, _, _, _, rfl, rfl, by simp; omega, hm2, by simpa using h2⟩
    · have h := ltF h
      rw [if_pos (by omega)] at hm
      cases hm
      repeat walk_at "m_s"
      rw [List.append_nil] at h2
      subst h2
      exact q _ _ (by walk_at "m_pre") hget_new
theorem abs_nat (k : Int) : (if k < 0 then -k else k) = (k.natAbs : Int) := by split <;> omega
theorem least_spec (ga : GAll G) {w b : Nat} {a : Int} {x : RN} (hw : w ≤ 8) (hm : least w a b = some x) (hn : 2 ≤ n)
    (q : ∀ H' r, H <+: H' → RR H' r x → Q (.ref r) H') : WC G n (.fn (Str.ofString "_law_least")) [.int a, .int (b : Int), .int (w : Int)] Q H := by
  have go := ga.go
  obtain ⟨g, m1, hm⟩ := bnd_some hm
  obtain ⟨hc, hm⟩ := opt_some hm
  simp only [Bool.and_eq_true, decide_eq_true_eq] at hc
  obtain ⟨l1, m2, hm⟩ := bnd_some hm
  obtain ⟨l2, m3, hm⟩ := bnd_some hm
  cases hm
  refine WC_at ff37 (ga.fn 37 (by decide) (by decide) (by decide)) nm37 rfl nc37 (k := 1) hn ?_
  simp only [List.cons_append, List.nil_append, List.map_cons, List.map_nil]
  refine WSs_cons ?_
  repeat walk_at "m_e"
  refine BC_abs ?_
  rw [abs_nat]
  repeat walk_at "m_s"
  refine WS_while (WWh_inv (fun f σ' H' => ∃ c d : Nat, σ' = [.int a, .int (b : Int), .int (w : Int), .int (c : Int), .int (d : Int)] ∧ H' = H ∧ gcdC f c d = some g)
    (k := 60) ⟨a.natAbs, b, rfl, rfl, m1⟩ ?_)
  intro f σ' H' zq
  refine cps fun zP zh => ?_
  obtain ⟨c, d, rfl, e, m1⟩ := zq
  refine zh ?_
  clear zh zP
  subst e
  cases f with
  | zero => cases m1
  | succ f =>
    rw [gcdC] at m1
    repeat walk_at "m_e"
    refine ⟨fun h => ?_, fun h => ?_⟩
    · have h := ltT h
      rw [if_neg (by omega)] at m1
      repeat walk_at "m_s"
      rw [fmod_nat]
      exact ⟨f, by omega, _, _, rfl, rfl, m1⟩
    · have h := ltF h
      rw [if_pos (by omega)] at m1
      cases m1
      repeat walk_at "m_s"
      refine BC_abs ?_
      rw [abs_nat]
      repeat walk_at "m_s"
      rw [fdiv_nat]
      refine WC_le (by omega) (limbs_spec (n := 1) ga hw m2 (by omega) fun H1 r1 p1 e1 => ?_)
      repeat walk_at "m_s"
      rw [fdiv_nat]
      refine WC_le (by omega) (limbs_spec (n := 1) ga hw m3 (by omega) fun H2 r2 p2 e2 => ?_)
      repeat walk_at "m_s"
      exact q _ _ (by walk_at "m_pre") ⟨_, r2, hget_new, ⟨r1, by walk_at "m_hget", by walk_at "m_hget"⟩, by walk_at "m_hget"⟩
theorem one_rr {H' : List MO} {i j k : Nat} {L : List Nat} {t : Nat} (h4 : H'[t]? = some (.tup [.ref j, .ref k])) (h2 : H'[j]? = some (.tup [.bool false, .ref i])) (h1 : H'[i]? = some (.list [.int 1])) (h3 : H'[k]? = some (.list (nL L))) : RR H' t ((false, [1]), L) :=
  ⟨j, k, h4, ⟨i, h2, h1⟩, h3⟩
theorem exch_spec (ga : GAll G) {i w h k : Nat} {x s : RN} (hx : RR H i x) (hw0 : 0 < w) (hw : w ≤ 8) (hk : k < 2 ^ 20) (hm : exch w h k x = some s) (hn : 8 ≤ n)
    (q : ∀ H' t, H <+: H' → RR H' t s → Q (.ref t) H') : WC G n (.fn (Str.ofString "_law_exchanged")) [.int (h : Int), .int (k : Int), .ref i, .int (w : Int)] Q H := by
  have go := ga.go
  obtain ⟨quo, m1, hm⟩ := bnd_some hm
  obtain ⟨inv, m2, hm⟩ := bnd_some hm
  obtain ⟨t1, m3, hm⟩ := bnd_some hm
  obtain ⟨hkl, m4, hm⟩ := bnd_some hm
  obtain ⟨t2, m5, hm⟩ := bnd_some hm
  obtain ⟨l12, m6, hm⟩ := bnd_some hm
  obtain ⟨tw, m7, hm⟩ := bnd_some hm
  obtain ⟨l4, m8, hm⟩ := bnd_some hm
  obtain ⟨less, m9, hm⟩ := bnd_some hm
  refine WC_at ff39 (ga.fn 39 (by decide) (by decide) (by decide)) nm39 rfl nc39 hn ?_
  simp only [List.cons_append, List.nil_append, List.map_cons, List.map_nil]
  refine WSs_cons ?_
  repeat walk_at "m_s"
  refine WC_le (by omega) (least_spec (n := 2) ga hw m1 (by omega) fun H1 r1 p1 e1 => ?_)
  repeat walk_at "m_s"
  refine WC_le (by omega) (r_inv_spec (n := 1) ga e1 m2 (by omega) fun H2 r2 p2 e2 => ?_)
  repeat walk_at "m_s"
  refine WC_le (by omega) (r_add_spec (n := 6) ga (e1.mono p2) e2 hw0 hw m3 (by omega) fun H3 r3 p3 e3 => ?_)
  repeat walk_at "m_s"
  rw [← Int.natCast_mul]
  refine WC_le (by omega) (limbs_spec (n := 1) ga hw m4 (by omega) fun H4 r4 p4 e4 => ?_)
  repeat walk_at "m_s"
  refine WC_le (by omega) (r_add_spec (n := 6) ga (e3.mono (by walk_at "m_pre")) (one_rr hget_new (by walk_at "m_hget") (by walk_at "m_hget") (by walk_at "m_hget")) hw0 hw m5 (by omega) fun H5 r5 p5 e5 => ?_)
  repeat walk_at "m_s"
  refine WC_le (by omega) (limbs_spec (m := 12) (n := 1) ga hw m6 (by omega) fun H6 r6 p6 e6 => ?_)
  repeat walk_at "m_s"
  refine WC_le (by omega) (r_mul_spec (n := 6) ga (e5.mono (by walk_at "m_pre")) (one_rr hget_new (by walk_at "m_hget") (by walk_at "m_hget") (by walk_at "m_hget")) hw0 hw m7 (by omega) fun H7 r7 p7 e7 => ?_)
  repeat walk_at "m_s"
  refine WC_le (by omega) (limbs_spec (m := 4) (n := 1) ga hw m8 (by omega) fun H8 r8 p8 e8 => ?_)
  repeat walk_at "m_s"
  refine WC_le (by omega) (r_add_spec (n := 6) ga (hx.mono (by walk_at "m_pre")) (one_rr hget_new (by walk_at "m_hget") (by walk_at "m_hget") (by walk_at "m_hget")) hw0 hw m9 (by omega) fun H9 r9 p9 e9 => ?_)
  repeat walk_at "m_s"
  exact WC_le (by omega) (r_sub_spec (n := 7) ga (e7.mono (by walk_at "m_pre")) e9 hw0 hw hm (by omega) fun H10 r10 p10 e10 => q _ _ (by walk_at "m_pre") e10)
theorem sawn_spec (ga : GAll G) {b u many : Nat} {c : Int} {L : List Int} (hb : H[b]? = some (.list [.int c, .ref u])) (hu : H[u]? = some (.list (iL L))) (hne : u ≠ b) (hc : 0 ≤ c) (hc' : c < 1000) (hz : L.length ≤ 1000) (hmn : 0 < many) (hmn' : many < 2 ^ 20) (hn : 1 ≤ n)
    (q : ∀ v : Nat, v < many → Q (.int (v : Int)) (H.set b (.list [.int (c + 1), .ref u]))) : WC G n (.fn (Str.ofString "_law_sawn")) [.ref b, .int (many : Int)] Q H := by
  have go := ga.go
  have fin : ∀ x : Int, Q (.int (x.fmod (many : Int))) (H.set b (.list [.int (c + 1), .ref u])) := by
    intro x
    have h1 := Int.fmod_nonneg_of_pos x (b := (many : Int)) (by omega)
    have h2 := Int.fmod_lt_of_pos x (b := (many : Int)) (by omega)
    have := q (x.fmod (many : Int)).toNat (by omega)
    rwa [Int.toNat_of_nonneg h1] at this
  refine WC_at ff35 (ga.fn 35 (by decide) (by decide) (by decide)) nm35 rfl nc35 hn ?_
  simp only [List.cons_append, List.nil_append, List.map_cons, List.map_nil]
  refine WSs_cons ?_
  repeat walk_at "m_s"
  refine .list hb (by decide) (x := .int c) rfl (by decide) ?_
  repeat walk_at "m_s"
  refine ⟨b, _, 0, rfl, rfl, hb, by decide, by simp, by decide, ?_⟩
  have hb1 : (H.set b (.list [.int (c + 1), .ref u]))[b]? = some (.list [.int (c + 1), .ref u]) := hset_get hb
  have hu1 : (H.set b (.list [.int (c + 1), .ref u]))[u]? = some (.list (iL L)) := hset_ne hne hu
  have hset : List.set [MV.int c, .ref u] (Int.toNat 0) (.int (c + 1)) = [.int (c + 1), .ref u] := rfl
  rw [hset]
  repeat walk_at "m_s"
  refine .list hb1 (by decide) (x := .int (c + 1)) rfl (by decide) ?_
  repeat walk_at "m_s"
  refine .list hb1 (by decide) (x := .ref u) rfl (by decide) ?_
  repeat walk_at "m_s"
  simp only [List.length_map]
  refine ⟨fun h => ?_, fun h => ?_⟩
  · have h := of_decide_eq_true h
    repeat walk_at "m_s"
    refine .list hb1 (by decide) (x := .ref u) rfl (by decide) ?_
    repeat walk_at "m_s"
    refine .list hb1 (by decide) (x := .int (c + 1)) rfl (by decide) ?_
    repeat walk_at "m_s"
    refine .list hu1 (by omega) (x := .int (L[c.toNat]'(by omega))) ?_ (by omega) ?_
    · rw [show c + 1 - 1 = c by omega]; simp [show c.toNat < L.length by omega]
    repeat walk_at "m_s"
    exact fin _
  · have h := of_decide_eq_false h
    repeat walk_at "m_s"
    refine .list hb1 (by decide) (x := .int (c + 1)) rfl (by decide) ?_
    repeat walk_at "m_s"
    refine .list hb1 (by decide) (x := .int (c + 1)) rfl (by decide) ?_
    repeat walk_at "m_s"
    exact fin _
end
def env0 (cs : Scope) : Env := { scope := cs, locals := 0, globals := mainGlobals, cells := [], qual := Str.ofString "", func := none, code := .none, frame := none, builtins := builtinsNs }
theorem relabel_env {scope cs : Scope} {env : Env} (he : env.scope = cs) : relabel scope env = relabel scope (env0 cs) := by
  subst he; rfl
theorem WCp_map {G : Gx} {cs : Scope} {x : Str} {cx : List (Str × Nat)} {elt : Expr} {H0 : List MO} {Fin : List MV → Prop} (g : MV → MV) : ∀ {l ys : List MV}, l.length + ys.length ≤ 100000 →
    (∀ v ∈ l, ∀ ys, WE G cs [x] cx 0 elt (fun y H2 => y = g v ∧ H2 = H0 ++ [.list ys]) [v] (H0 ++ [.list ys])) → Fin (ys ++ l.map g) → WCp G cs x cx [] elt H0 Fin l ys
  | [], ys, _, _, h => by simpa [WCp] using h
  | v :: l, ys, hz, he, h => by
    have ih : WCp G cs x cx [] elt H0 Fin l (ys ++ [g v]) := WCp_map g (by simp at hz ⊢; omega) (fun u hu => he u (.tail _ hu)) (by simpa using h)
    refine ⟨by simp at hz; omega, rfl, fun _ => ?_, fun h => nomatch h⟩
    intro ok d A E s fz news hd ha R
    refine ep_mono (he v (.head _) ys ok d A E s fz news hd ha R) fun y H2 n2 u s2 R2 g2 vy h2 => ?_
    obtain ⟨rfl, rfl⟩ := h2
    exact ⟨_, _, _, R2, g2, vy, rfl, ih⟩
/-- the same, where some are left out -/
theorem WCp_filter {G : Gx} {cs : Scope} {x : Str} {cx : List (Str × Nat)} {c elt : Expr} {H0 : List MO} {Fin : List MV → Prop} (p : MV → Bool) : ∀ {l ys : List MV}, l.length + ys.length ≤ 100000 →
    (∀ v ∈ l, ∀ ys, WT G cs [x] cx 0 c (fun b H1 => b = p v ∧ H1 = H0 ++ [.list ys]) [v] (H0 ++ [.list ys])) →
    (∀ v ∈ l, ∀ ys, WE G cs [x] cx 0 elt (fun y H2 => y = v ∧ H2 = H0 ++ [.list ys]) [v] (H0 ++ [.list ys])) → Fin (ys ++ l.filter p) → WCp G cs x cx [c] elt H0 Fin l ys
  | [], ys, _, _, _, h => by simpa [WCp] using h
  | v :: l, ys, hz, hc, he, h => by
    refine ⟨by simp at hz; omega, WT_mono (hc v (.head _) ys) fun b H1 hb => ?_⟩
    obtain ⟨rfl, rfl⟩ := hb
    refine ⟨rfl, fun hp => ?_, fun hp => ?_⟩
    · have ih : WCp G cs x cx [c] elt H0 Fin l (ys ++ [v]) := WCp_filter p (by simp at hz ⊢; omega) (fun u hu => hc u (.tail _ hu)) (fun u hu => he u (.tail _ hu)) (by simpa [hp] using h)
      intro ok d A E s fz news hd ha R
      refine ep_mono (he v (.head _) ys ok d A E s fz news hd ha R) fun y H2 n2 u s2 R2 g2 vy h2 => ?_
      obtain ⟨rfl, rfl⟩ := h2
      exact ⟨_, _, _, R2, g2, vy, rfl, ih⟩
    · exact WCp_filter p (by simp at hz ⊢; omega) (fun u hu => hc u (.tail _ hu)) (fun u hu => he u (.tail _ hu)) (by simpa [hp] using h)
theorem mem_rangeL {a c : Int} {n : Nat} {v : MV} (h : v ∈ rangeL a c n) : ∃ i : Nat, i < n ∧ v = .int (a + (i : Int) * c) := by
  obtain ⟨i, hi, rfl⟩ := List.mem_map.mp h
  exact ⟨i, List.mem_range.mp hi, rfl⟩

theorem bind38 : ∀ pm code doc (vals : List Value), vals.length = 2 → bindArgs (docDef (dr 38).name (dr 38).params (dr 38).body (dr 38).scope pm code doc) ⟨vals, []⟩ = pure ([Str.ofString "h", Str.ofString "k"].zip vals) := by
  intro pm code doc vals h
  match vals, h with
  | [v0, v1], _ => rfl
theorem WC_teeth {G : Gx} (ga : GAll G) {n : Nat} {Q : MV → List MO → Prop} {H : List MO} {v w : MV} (hv : v ≠ .unb)
    (body : WSs G (dr 38).scope [] [(Str.ofString "k", H.length), (Str.ofString "h", H.length + 1)] n (dr 38).body (fun _ _ => False) Q [] (H ++ [.cell w, .cell v])) : WC G (n + 1) (.fn (Str.ofString "_law_teeth")) [v, w] Q H := by
  intro cs xs cx σ ok d A E s fz news u vals hd ha R vf va
  have hm := ga.fn 38 (by decide) (by decide) (by decide)
  obtain ⟨_, f, e1, rfl⟩ := vf
  obtain ⟨a', o, pm, code, doc, h1, h2, h3, h4⟩ := R.top.fn (dr 38) hm
  rw [show (dr 38).name = Str.ofString "_law_teeth" from rfl, e1] at h1; cases h1
  obtain ⟨m, F, qf⟩ := R.fr
  have hk : d.env.scope.kind = .function := by subst hd; exact ok.kind
  cases va with
  | cons vv1 va =>
  cases va with
  | cons vv2 va =>
  cases va
  rename_i u1 u2
  refine wpAny_call (callX_cells (env := d.env) (name := (dr 38).name) (qual := (dr 38).name) (params := (dr 38).params) (body := (dr 38).body) (scope := (dr 38).scope) (dV := .none) (kV := .none) (doc := doc) (pm := pm) (an := Option.none) (cdv := code) (ct := .none)
    R.bel F R.nw R.top.nolimit (ha.fr (by omega)).1 (ha.fr (by omega)).2 hk (F.keep _ _ h2) h3 (h4.keeps F.keep) (by have := ha.dp; simp only [recursionLimit]; omega)
    (BindsTo.of_eq (bind38 pm code doc [u1, u2] rfl)) (fun n x hx => ?_) (by decide +kernel) (fun g L' h₁ tk cells FG F' N' Y B' st lt => ?_) rfl rfl rfl)
  · rcases List.mem_cons.mp hx with rfl | hx
    · exact .inr ⟨rfl, rfl⟩
    · rcases List.mem_cons.mp hx with rfl | hx
      · exact .inr ⟨rfl, rfl⟩
      · cases hx
  obtain ⟨o1, o2, rfl, d1, d2⟩ := CellsAre.two (n := Str.ofString "k") (n' := Str.ofString "h") (c := L' + 2) (c' := L' + 1) Y
  let d' : Fd := { A₀ := A, base := d.base, outer := d.env :: d.outer, h₀ := g, L := L', cs := (dr 38).scope, ccd := code, cl := [(Str.ofString "k", L' + 2), (Str.ofString "h", L' + 1)], qu := (dr 38).name ++ ".<locals>.", fu := some f, fm := some L' }
  have pre1 : ad news <+: ad (news ++ [(L' + 2, o1), (L' + 1, o2)]) := by simp [ad]
  have hlen : H.length = news.length := R.hr.length
  have R' : Rl G [] [(Str.ofString "k", H.length), (Str.ofString "h", H.length + 1)] d' fz (news ++ [(L' + 2, o1), (L' + 1, o2)]) [] (H ++ [.cell w, .cell v]) h₁ := by
    refine ⟨B', R.top.keeps st, ⟨_, F', fun x v sv hv => by cases sv⟩, fun p hp => N' p ?_, ?_, ?_, fun x i hx => ?_⟩
    · rcases List.mem_append.mp hp with hp | hp
      · exact List.mem_append_right _ (List.mem_append_left _ hp)
      · rcases List.mem_append.mp hp with hp | hp
        · exact List.mem_append_right _ (List.mem_append_right _ hp)
        · exact List.mem_append_left _ hp
    · refine (R.hr.mono fun _ _ y => y.mono pre1).append (.cons ⟨_, d1, .inr ⟨u2, rfl, vv2.mono pre1⟩⟩ (.cons ⟨_, d2, .inr ⟨u1, rfl, vv1.mono pre1⟩⟩ .nil))
    · rw [← List.append_assoc, ad, List.map_append, List.nodup_append]
      refine ⟨R.nd, by simp, fun b hb c hc => ?_⟩
      obtain ⟨p, hp, rfl⟩ := List.mem_map.mp hb
      have := lt p hp
      simp only [List.map_cons, List.map_nil, List.mem_cons, List.not_mem_nil, or_false] at hc
      rcases hc with rfl | rfl
      · exact Nat.ne_of_lt (Nat.lt_of_lt_of_le this (Nat.le_add_right _ _))
      · exact Nat.ne_of_lt (Nat.lt_of_lt_of_le this (Nat.le_add_right _ _))
    · rcases List.mem_cons.mp hx with e | hx
      · cases e
        exact ⟨L' + 2, rfl, by rw [ad, List.map_append, hlen, List.getElem?_append_right (by simp), List.length_map, Nat.sub_self]; rfl⟩
      · rcases List.mem_cons.mp hx with e | hx
        · cases e
          exact ⟨L' + 1, rfl, by rw [ad, List.map_append, hlen, List.getElem?_append_right (by simp), List.length_map, Nat.add_sub_cancel_left]; rfl⟩
        · cases hx
  have ha' : AOk n d' (A.deeper d'.env) := ⟨ha.hh, fun _ => ⟨by show A.frames.map _ = _; rw [(ha.fr (by omega)).1]; rfl, rfl⟩, by have := ha.dp; show A.depth + 1 + n ≤ 900; omega, by have := ha.un; show A.units + 3 + 10 * n ≤ 9800; omega⟩
  refine wpAny_mono (body ⟨rfl, .nil, fun x hx => by cases hx⟩ d' (A.deeper d'.env) _ { s with heap := h₁, toks := tk } fz _ rfl ha' R') (fun fl s' hf => ?_) fun _ _ e => e
  rcases hf with ⟨rfl, σ', H', n', R2, g2, q⟩ | ⟨v, mv, σ', H', n', rfl, R2, g2, vv, q⟩
  · exact q.elim
  · obtain ⟨m2, F2, qf2⟩ := R2.fr
    refine leaveK_ F2 R2.nw fun F3 N3 => ?_
    have g3 : Gr s news s' n' := ⟨g2.gens, g2.drawn, g2.os, pre1.trans g2.pre⟩
    refine ⟨mv, H', n', ⟨R.bel, R.top, ⟨m, F3, fun x v sv hv => ?_⟩, N3, R2.hr, R2.nd, fun x i hx => ?_⟩, g3, vv, q⟩
    · obtain ⟨u', e, rr⟩ := qf x v sv hv
      exact ⟨u', e, rr.mono g3.pre⟩
    · obtain ⟨c, e2, e3⟩ := R.cells x i hx
      exact ⟨c, e2, pre_get g3.pre e3⟩
def hkScope (x : Str) : Scope := { kind := .function, names := [(Str.ofString ".0", .local), (x, .local), (Str.ofString "h", .free), (Str.ofString "k", .free)], isGenerator := false, isCoroutine := false, more := [] }
theorem closure_hk {x : Str} {env : Env} {c1 c2 : Addr} (e1 : env.cells.lookup (Str.ofString "h") = some c1) (e2 : env.cells.lookup (Str.ofString "k") = some c2) : closureFor (hkScope x) env = pure [(Str.ofString "k", c2), (Str.ofString "h", c1)] := by
  have h1 : cellOf env (Str.ofString "h") = pure c1 := by unfold cellOf; rw [e1]
  have h2 : cellOf env (Str.ofString "k") = pure c2 := by unfold cellOf; rw [e2]
  unfold closureFor hkScope
  simp only [List.forIn_cons, List.forIn_nil]
  simp only [h1, h2, show (NameKind.local == NameKind.free) = false from rfl, show (NameKind.free == NameKind.free) = true from rfl, if_true, Bool.false_eq_true, if_false]
  rfl
theorem cp_hk {cs : Scope} {x : Str} {i j : Nat} (hx : (x == ("__debug__" : Str)) = false) (hx0 : (x == Str.ofString ".0") = false) (hk : cs.kind = .function) (hh : cs.names.lookup (Str.ofString "h") = some .cell) (hkk : cs.names.lookup (Str.ofString "k") = some .cell) :
    CpOk cs (hkScope x) (relabel (hkScope x) (env0 cs)) x [(Str.ofString "k", i), (Str.ofString "h", j)] [(Str.ofString "k", i), (Str.ofString "h", j)] where
  cell := by intro y hy; simp [hkScope] at hy; rcases hy with rfl | rfl | rfl | rfl <;> simp
  kind := rfl
  names := by
               intro y hy hl
               simp [hkScope] at hy
               rcases hy with rfl | rfl | rfl | rfl
               · rfl
               · show List.lookup x _ = _
                 simp only [hkScope, List.lookup_cons, hx0, beq_self_eq_true]
               · cases hl
               · cases hl
  lab := fun env he => relabel_env he
  ok := ⟨rfl, by simp, fun y hy => by
    rw [List.mem_singleton.mp hy]
    refine ⟨lookup_relabel_local (names := (hkScope x).names) ?_, hx⟩
    simp [hkScope, List.lookup, hx0]⟩
  sub := fun y i hy => hy
  clos := fun env he hc => by
    obtain ⟨c1, e1⟩ := hc (Str.ofString "h") j (by simp)
    obtain ⟨c2, e2⟩ := hc (Str.ofString "k") i (by simp)
    refine ⟨_, closure_hk e1 e2, fun y i hy => ?_⟩
    rcases List.mem_cons.mp hy with e | hy
    · cases e; rw [e2]; rfl
    · rcases List.mem_cons.mp hy with e | hy
      · cases e; rw [e1]; rfl
      · cases hy
theorem cell_of {cs : Scope} {x y : Str} (hk : cs.kind = .function) (hy : cs.names.lookup y = some .cell) (h : (hkScope x).names.lookup y = some .free) : (relabel (hkScope x) (env0 cs)).names.lookup y = some .cell := by
  have key : ∀ l : List (Str × NameKind), l.lookup y = some .free → (l.map fun (n, k) => if (k == NameKind.free && (env0 cs).scope.kind == .function && (env0 cs).kindOf n == some .cell) then (n, NameKind.cell) else (n, k)).lookup y = some .cell := by
    intro l
    induction l with
    | nil => intro h; cases h
    | cons p r ih =>
      obtain ⟨n, k⟩ := p
      intro h
      show List.lookup y ((if (k == NameKind.free && (env0 cs).scope.kind == .function && (env0 cs).kindOf n == some .cell) = true then (n, NameKind.cell) else (n, k)) :: _) = _
      cases hx : y == n with
      | true =>
        simp only [List.lookup_cons, hx] at h
        cases h
        have e : y = n := eq_of_beq hx
        subst e
        have e2 : (env0 cs).kindOf y = some .cell := hy
        rw [e2, show (env0 cs).scope.kind = .function from hk]
        simp [List.lookup_cons]
      | false =>
        simp only [List.lookup_cons, hx] at h
        by_cases hc : (k == NameKind.free && (env0 cs).scope.kind == .function && (env0 cs).kindOf n == some .cell) = true
        · rw [if_pos hc]; simp only [List.lookup_cons, hx]; exact ih h
        · rw [if_neg hc]; simp only [List.lookup_cons, hx]; exact ih h
  exact key _ h
def el (h k : Nat) : MV → Int
  | .int j => (2 * j - (k : Int)) * (2 * ((h : Int) * j).fmod (k : Int) - (k : Int))
  | _ => 0
def teeth (h k : Nat) : Int := ((rangeL ((1 : Nat) : Int) 1 (k - 1)).map (el h k)).sum

section
variable {G : Gx} {n : Nat} {Q : MV → List MO → Prop} {H : List MO}
theorem teeth_spec (ga : GAll G) {h k : Nat} (hh : h < 2 ^ 10) (hk0 : 0 < k) (hk : k < 2 ^ 10) (hn : 1 ≤ n) (q : ∀ H', H <+: H' → Q (.int (teeth h k)) H') : WC G n (.fn (Str.ofString "_law_teeth")) [.int (h : Int), .int (k : Int)] Q H := by
  have go := ga.go
  obtain ⟨n, rfl⟩ : ∃ m, n = m + 1 := ⟨n - 1, by omega⟩
  refine WC_teeth ga (by nofun) ?_
  refine WSs_cons (WS_return ?_)
  walk_at "m_e"
  refine WEs_cons ?_ ?he
  case he => intro _; rfl
  refine WE_compR go (cp_hk (x := Str.ofString "at") (by decide) (by decide) rfl rfl rfl) rfl ?_ ?he ?hp ?hc ?hf
  case he => intro _; rfl
  case hp => intro _; rfl
  case hc => intro _; rfl
  case hf => intro _ _; rfl
  repeat walk_at "m_e"
  have i1 : (H ++ [MO.cell (.int (k : Int)), .cell (.int (h : Int))])[H.length]? = some (.cell (.int (k : Int))) := by simp
  have i2 : (H ++ [MO.cell (.int (k : Int)), .cell (.int (h : Int))])[H.length + 1]? = some (.cell (.int (h : Int))) := by simp
  have hp1 : H <+: H ++ [MO.cell (.int (k : Int)), .cell (.int (h : Int))] := List.prefix_append _ _
  generalize H ++ [MO.cell (.int (k : Int)), .cell (.int (h : Int))] = H1 at *
  refine WE_cell (.head _) i1 (by nofun) rfl (by decide) ?_
  repeat walk_at "m_e"
  refine ⟨1, k, rfl, by decide, by omega, by omega, ?_⟩
  refine WCp_map (fun v => .int (el h k v)) (by simp [rangeL]; omega) (fun v hv ys => ?_) ?_
  · obtain ⟨i, hi, rfl⟩ := mem_rangeL hv
    have e1 : ((1 : Nat) : Int) + (i : Int) * 1 = ((i + 1 : Nat) : Int) := by omega
    rw [e1]
    have hc1 : (relabel (hkScope (Str.ofString "at")) (env0 (dr 38).scope)).names.lookup (Str.ofString "h") = some .cell := cell_of rfl rfl rfl
    have hc2 : (relabel (hkScope (Str.ofString "at")) (env0 (dr 38).scope)).names.lookup (Str.ofString "k") = some .cell := cell_of rfl rfl rfl
    have j1 := hget_old (J := [.list ys]) i1
    have j2 := hget_old (J := [.list ys]) i2
    have f1 := Int.fmod_nonneg_of_pos ((h : Int) * ((i + 1 : Nat) : Int)) (b := (k : Int)) (by omega)
    have f2 := Int.fmod_lt_of_pos ((h : Int) * ((i + 1 : Nat) : Int)) (b := (k : Int)) (by omega)
    repeat walk_at "m_e"
    refine WE_cell (.head _) j1 (by nofun) hc2 (by decide) ?_
    repeat walk_at "m_e"
    refine WE_cell (.tail _ (.head _)) j2 (by nofun) hc1 (by decide) ?_
    repeat walk_at "m_e"
    refine WE_cell (.head _) j1 (by nofun) hc2 (by decide) ?_
    repeat walk_at "m_e"
    refine WE_cell (.head _) j1 (by nofun) hc2 (by decide) ?_
    repeat walk_at "m_e"
    exact ⟨rfl, rfl⟩
  · refine WEs_nil ?_
    refine BC_sum (l := (rangeL ((1 : Nat) : Int) 1 (k - 1)).map (el h k)) (by simp [iL]) ?_
    exact q _ (hp1.trans (List.prefix_append _ _))
end
/-- names or cells bound one after the other -/
inductive StoresX (cs : Scope) (xs : List Str) (cx : List (Str × Nat)) : List Str → List MV → List MV → List MO → List MV → List MO → Prop where
  | nil {σ H} : StoresX cs xs cx [] [] σ H σ H
  | loc {x v ns vs σ σ1 σ' H H'} : SlotS xs σ x v σ1 → StoresX cs xs cx ns vs σ1 H σ' H' → StoresX cs xs cx (x :: ns) (v :: vs) σ H σ' H'
  | cell {x v w i ns vs σ σ' H H'} : cs.names.lookup x = some .cell → (x, i) ∈ cx → H[i]? = some (.cell w) → StoresX cs xs cx ns vs σ (H.set i (.cell v)) σ' H' → StoresX cs xs cx (x :: ns) (v :: vs) σ H σ' H'
def dInts (l : List Nat) : List PyData := l.map fun (k : Nat) => PyData.int (k : Int)
def dataR (x : RN) : PyData := .tuple [.tuple [.bool x.1.1, .list (dInts x.1.2)], .list (dInts x.2)]
theorem eqv_ints : ∀ l : List Nat, PyData.eqvAll (dInts l) (dInts l) = true
  | [] => by simp [dInts, PyData.eqvAll]
  | k :: l => by
    have ih := eqv_ints l
    simp only [dInts, List.map_cons] at ih ⊢
    simp [PyData.eqvAll, PyData.eqv, ih]
theorem lay_ints : ∀ l : List Nat, PyData.canLayAll0 (dInts l) = true
  | [] => by simp [dInts, PyData.canLayAll0]
  | k :: l => by
    have ih := lay_ints l
    simp only [dInts, List.map_cons] at ih ⊢
    simp [PyData.canLayAll0, PyData.canLay0, ih]
theorem depth_ints : ∀ l : List Nat, PyData.depthAll (dInts l) ≤ 1
  | [] => by simp [dInts, PyData.depthAll]
  | k :: l => by
    have ih := depth_ints l
    simp only [dInts, List.map_cons] at ih ⊢
    simp only [PyData.depthAll, PyData.depth]
    omega
theorem eqv_R (x : RN) : PyData.eqv (dataR x) (dataR x) = true := by
  simp [dataR, PyData.eqv, PyData.eqvAll, eqv_ints]
theorem shaped_R (x : RN) : SeqAt.shaped (dataR x) = true := by
  have h1 := depth_ints x.1.2
  have h2 := depth_ints x.2
  simp only [SeqAt.shaped, Bool.and_eq_true, decide_eq_true_eq]
  refine ⟨by simp [dataR, PyData.canLay0, PyData.canLayAll0, lay_ints], ?_⟩
  simp only [dataR, PyData.depth, PyData.depthAll]
  omega
theorem reads_ints {G : Gx} {ρ : List Addr} {h : Heap} : ∀ {l : List Nat} {vs : List Value}, All2 (VR G ρ) (nL l) vs → ReadsAll h vs (dInts l) []
  | [], _, .nil => .nil
  | k :: l, _, .cons ⟨t, e⟩ y => by
    subst e
    exact ReadsAll.cons (.int _ t) (reads_ints (l := l) y)
theorem tup_of (vs : List Value) : vs.toArray.toList = vs := by simp

section
variable {G : Gx} {n : Nat} {Q : MV → List MO → Prop} {QB : Bool → List MO → Prop} {H : List MO}
theorem reads_list {xs : List Str} {cx : List (Str × Nat)} {d : Fd} {fz news : List (Addr × Obj)} {σ : List MV} {h : Heap} (R : Rl G xs cx d fz news σ H h) {i : Nat} {l : List Nat} {u : Value} (hi : H[i]? = some (.list (nL l))) (v : VR G (ad news) (.ref i) u) : ∃ as, Reads h u (.list (dInts l)) as := by
  obtain ⟨a, vs, c, rfl, e1, e2, e3, e4⟩ := R.list_ hi v
  exact ⟨_, Reads.list e2 rfl rfl (by rw [tup_of]; exact reads_ints e4)⟩
theorem reads_R {xs : List Str} {cx : List (Str × Nat)} {d : Fd} {fz news : List (Addr × Obj)} {σ : List MV} {h : Heap} (R : Rl G xs cx d fz news σ H h) {i : Nat} {x : RN} {u : Value} (hi : RR H i x) (v : VR G (ad news) (.ref i) u) : ∃ as, Reads h u (dataR x) as := by
  obtain ⟨a, b, h1, ⟨c, h2, h3⟩, h4⟩ := hi
  obtain ⟨t, us, k, rfl, e1, _, e3⟩ := R.tup_ h1 v
  cases e3 with
  | cons v1 y =>
  cases y with
  | cons v2 y =>
  cases y
  obtain ⟨t2, us2, k2, rfl, f1, _, f3⟩ := R.tup_ h2 v1
  cases f3 with
  | cons w1 y =>
  cases y with
  | cons w2 y =>
  cases y
  obtain ⟨a1, r1⟩ := reads_list R h3 w2
  obtain ⟨a2, r2⟩ := reads_list R h4 v2
  obtain rfl := w1
  exact ⟨_, Reads.tuple e1 rfl rfl (by rw [tup_of]; exact .cons (Reads.tuple f1 rfl rfl (by rw [tup_of]; exact .cons (.bool _) (.cons r1 .nil))) (.cons r2 .nil))⟩
theorem CO_neR {i j : Nat} {x : RN} (hi : RR H i x) (hj : RR H j x) (q : QB false H) : CO G .NotEq (.ref i) (.ref j) QB H := by
  rintro cs xs cx n σ ok d A E s fz news u v hd ha R vu vv
  obtain ⟨a1, r1⟩ := reads_R R hi vu
  obtain ⟨a2, r2⟩ := reads_R R hj vv
  refine ne_dataH r1 r2 (shaped_R x) (shaped_R x) (by have := ha.un; rw [cLine_is]; omega) ?_
  rw [eqv_R]
  exact ⟨_, H, news, R, Gr.refl s news, rfl, q⟩

variable {cs : Scope} {xs : List Str} {cx : List (Str × Nat)} {Qn : List MV → List MO → Prop} {Qr : MV → List MO → Prop} {σ : List MV} {pos p tp : Pos}
theorem bindsX_ {d : Fd} {A : Around} {E : Value → Shared → Prop} (ok : FnOk cs xs) (hd : d.cs = cs) {ns : List Str} {vs : List MV} {σ σ' : List MV} {H H' : List MO} (hs : StoresX cs xs cx ns vs σ H σ' H') :
    ∀ {s : Shared} {fz news : List (Addr × Obj)} {us : List Value} {P : Unit → Shared → Prop}, Rl G xs cx d fz news σ H s.heap → All2 (VR G (ad news)) vs us →
      (∀ h' tk news', ad news' = ad news → Rl G xs cx d fz news' σ' H' h' → P () { s with heap := h', toks := tk }) → wpAny (model G.prog G.w) A (assignInOrder (ns.map fun n => bindName d.env n) us) P E s := by
  induction hs with
  | nil =>
    intro s fz news us P R hv h
    cases hv
    exact wpAny_pure (h s.heap s.toks news rfl R)
  | loc h1 _ ih =>
    intro s fz news us P R hv h
    cases hv with
    | cons v y =>
      refine wpAny_bind (wpAny_holding (wpAny_bindName (store_ ok hd R h1 v fun h' tk R' => ?_)))
      exact ih R' y fun h'' tk' n' e R'' => h h'' tk' n' e R''
  | cell hk hc hi _ ih =>
    intro s fz news us P R hv h
    cases hv with
    | cons v y =>
      refine wpAny_bind (wpAny_holding (wpAny_bindName (storeC_ ok hd R hc hi hk v fun h' n1 en R' => ?_)))
      exact ih R' (en.symm ▸ y) fun h'' tk' n' e R'' => h h'' tk' n' (e.trans en) R''
theorem WS_tupSwX {elts es : List Expr} {k k' : Nat} {vp : Pos} {names : List Str} (h : WEs G cs xs cx n es (fun vs H1 => vs.length ≤ 1000 ∧ names.length = vs.length ∧ ∃ σ' H', StoresX cs xs cx names.reverse vs.reverse σ H1 σ' H' ∧ Qn σ' H') σ H)
    (hw : ∀ env : Env, env.scope = cs → swappedStores [.Tuple elts k tp] (.Tuple es k' vp) env = pure (some names)) (hs : ∀ env, swapsWithSole [.Tuple elts k tp] (.Tuple es k' vp) pos.line env = pure false) :
    WS G cs xs cx n (.Assign [.Tuple elts k tp] (.Tuple es k' vp) pos) Qn Qr σ H := by
  intro ok d A E s fz news hd ha R
  refine Assign_Tuple_swapped (wpAny_Tuple (ep_mono (h vp ok d A E s fz news hd ha R) fun vs H1 n1 us s1 R1 g1 vvs h1 => ?_)) (hs _) (hw _ hd)
  obtain ⟨hz, hl, σ', H', hst, q⟩ := h1
  refine ⟨by rw [← vvs.length, sizeLine_eq]; omega, ?_⟩
  have R2 := R1.up (Up.push s1.heap { cls := .type "tuple", data := .seq us.toArray })
  have ht : Heap.IsTuple (s1.heap.push { cls := .type "tuple", data := .seq us.toArray }) s1.heap.objs.size us.toArray := ⟨_, Heap.get?_push_size _ rfl, rfl, _, rfl⟩
  have el : names.length = us.toArray.size := by rw [hl, vvs.length]; simp
  rw [el]
  refine wpAny_unpackItems_tuple (s := { s1 with heap := s1.heap.push { cls := .type "tuple", data := .seq us.toArray } }) ha.hh ht fun h' he => ?_
  have R3 := R2.up (Up.of_ext he)
  have e3' : All2 (VR G (ad n1)) vs.reverse us.toArray.toList.reverse := by simpa using vvs.reverse
  exact bindsX_ ok hd hst (s := { s1 with heap := h' }) R3 e3' fun h'' tk n'' en R'' => .inl ⟨rfl, σ', H', n'', R'', g1.trans ⟨rfl, rfl, rfl, by rw [en]; exact List.prefix_rfl⟩, q⟩
/-- x, y = e1, e2 where x is a local name and y a cell -/
theorem WS_tuple2C {x y : Str} {px py tp vp : Pos} {k k' : Nat} {e1 e2 : Expr} (hk : cs.names.lookup y = some .cell) (h : WE G cs xs cx n e1 (fun a H1 => WE G cs xs cx n e2 (fun b H2 => ∃ i w, (y, i) ∈ cx ∧ H2[i]? = some (.cell w) ∧ ∃ σ', SlotS xs σ x a σ' ∧ Qn σ' (H2.set i (.cell b))) σ H1) σ H)
    (hw : ∀ env : Env, env.scope = cs → swappedStores [.Tuple [.Name x px, .Name y py] k tp] (.Tuple [e1, e2] k' vp) env = pure (some [x, y])) (hs : ∀ env, swapsWithSole [.Tuple [.Name x px, .Name y py] k tp] (.Tuple [e1, e2] k' vp) pos.line env = pure false)
    (he : ∀ env, starEach [e1, e2] env = (false, eval e1 env) :: starEach [e2] env) (he' : ∀ env, starEach [e2] env = (false, eval e2 env) :: starEach [] env) :
    WS G cs xs cx n (.Assign [.Tuple [.Name x px, .Name y py] k tp] (.Tuple [e1, e2] k' vp) pos) Qn Qr σ H := by
  refine WS_tupSwX (WEs_cons ?_ he) hw hs
  intro ok d A E s fz news hd ha R
  refine ep_mono (h ok d A E s fz news hd ha R) fun a H1 n1 u s1 R1 g1 va h1 => ⟨a, H1, n1, R1, g1, va, WEs_cons ?_ he'⟩
  intro ok d A E s fz news hd ha R
  refine ep_mono (h1 ok d A E s fz news hd ha R) fun b H2 n2 u s2 R2 g2 vb h2 => ⟨b, H2, n2, R2, g2, vb, WEs_nil ?_⟩
  obtain ⟨i, w, hc, hi, σ', s2, q⟩ := h2
  exact ⟨by simp, rfl, σ', _, .cell hk hc hi (.loc s2 .nil), q⟩
end
/-- for x, y over a list of pairs, x and y cells -/
def WForC (G : Gx) (cs : Scope) (xs : List Str) (cx : List (Str × Nat)) (n : Nat) (x y : Str) (body : List Stmt) (Inv : List MO → Prop) (Qn : List MV → List MO → Prop) (Qr : MV → List MO → Prop) : List MV → List MV → List MO → Prop
  | [], σ, H => Inv H ∧ Qn σ H
  | v :: r, σ, H => Inv H ∧ ∃ t a b i1 i2 w1 w2, v = .ref t ∧ H[t]? = some (.tup [a, b]) ∧ (x, i1) ∈ cx ∧ H[i1]? = some (.cell w1) ∧ (y, i2) ∈ cx ∧ (H.set i1 (.cell a))[i2]? = some (.cell w2) ∧
      WSs G cs xs cx n body (fun σ' H' => WForC G cs xs cx n x y body Inv Qn Qr r σ' H') Qr σ ((H.set i1 (.cell a)).set i2 (.cell b))
theorem WForC.inv {G : Gx} {cs : Scope} {xs : List Str} {cx : List (Str × Nat)} {n : Nat} {x y : Str} {body : List Stmt} {Inv : List MO → Prop} {Qn : List MV → List MO → Prop} {Qr : MV → List MO → Prop} : ∀ {vs σ H}, WForC G cs xs cx n x y body Inv Qn Qr vs σ H → Inv H
  | [], _, _, h => h.1
  | _ :: _, _, _, h => h.1
section
variable {G : Gx} {cs : Scope} {xs : List Str} {cx : List (Str × Nat)} {n : Nat} {Qn : List MV → List MO → Prop} {Qr : MV → List MO → Prop} {σ : List MV} {H : List MO} {pos p tp : Pos}
theorem WS_forC {x y : Str} {px py : Pos} {k : Nat} {iter : Expr} {body : List Stmt} (hkx : cs.names.lookup x = some .cell) (hky : cs.names.lookup y = some .cell)
    (h : WE G cs xs cx n iter (fun v H1 => ∃ j l, v = .ref j ∧ H1[j]? = some (.list l) ∧ WForC G cs xs cx n x y body (fun H' => H'[j]? = some (.list l)) Qn Qr l σ H1) σ H)
    (hf : ∀ env v, foldedSetIterable iter env v = pure v := by intro _ _; rfl) : WS G cs xs cx n (.For (.Tuple [.Name x px, .Name y py] k tp) iter body [] pos) Qn Qr σ H := by
  intro ok d A E s fz news hd ha R
  refine wpAny_For (ep_mono (h ok d A E s fz news hd ha R) fun v H1 n1 u s1 R1 g1 vv h1 => ?_) (hf _)
  obtain ⟨j, l, rfl, hj, hW⟩ := h1
  obtain ⟨a, vs, c, rfl, e1, e2, e3, e4⟩ := R1.list_ hj vv
  refine wpAny_pyIter_list e3 ?_
  have fresh : s1.heap.get? s1.heap.objs.size = Option.none := by
    cases e : s1.heap.get? s1.heap.objs.size with
    | none => rfl
    | some o' => exact absurd (Heap.lt_size e) (Nat.lt_irrefl _)
  have hI : (s1.heap.push { cls := .type "list_iterator", data := .fields #[.ref a, .int 0 0] }).get? s1.heap.objs.size = some { cls := .type "list_iterator", data := .fields #[.ref a, .int 0 0] } := Heap.get?_push_size _ rfl
  have R2 := R1.freeze (Up.push _ _) fresh hI
  generalize s1.heap.objs.size = I at R2 hI ⊢
  refine codeAny_forLoop_any (fun m s' => ∃ i o σ' H' n', m = l.length + 1 - i ∧ i ≤ l.length ∧ s'.heap.IsListIter I a i ∧ Rl G xs cx d ((I, o) :: fz) n' σ' H' s'.heap ∧ Gr s1 n1 s' n' ∧ WForC G cs xs cx n x y body (fun H' => H'[j]? = some (.list l)) Qn Qr (l.drop i) σ' H')
    ?_ (l.length + 1 - 0) ⟨0, _, σ, H1, n1, rfl, Nat.zero_le _, ⟨_, hI, rfl, rfl⟩, R2, Gr.same s1 _ s1.toks n1, hW⟩
  intro m s' zq
  refine cps fun zP zh => ?_
  obtain ⟨i, o, σ', H', n', rfl, hi, hit, R', g', w⟩ := zq
  refine zh ?_
  clear zh zP
  have hj' : H'[j]? = some (.list l) := w.inv
  obtain ⟨a', vs', c', ea, f1, f2, f3, f4⟩ := R'.list_ hj' (vv.mono g'.pre)
  cases ea
  cases hd' : l.drop i with
  | nil =>
    have hli : l.length ≤ i := List.drop_eq_nil_iff.mp hd'
    rw [hd'] at w
    refine wpAny_pyNext_list_end ha.hh hit f3 (by rw [List.getElem?_toArray]; exact List.getElem?_eq_none (by rw [← f4.length]; exact hli)) fun h' he => wpAny_execs_nil ?_
    refine .inl ⟨rfl, σ', H', n', ?_, (g1.trans g').trans (Gr.same s' h' s'.toks n'), w.2⟩
    have Rt := R'.thaw
    obtain ⟨m, F, qf⟩ := Rt.fr
    have hIn := R'.nw (I, o) (.head _)
    refine Rt.same ⟨F.ns.extBut he (Ne.symm hIn.2.1), fun b x e => he b x (fun q => by have := hIn.2.2; rw [← q, e] at this; cases this) (F.keep b x e), F.above⟩ qf fun p hp => ?_
    have nd : (I :: ad (fz ++ n')).Nodup := R'.nd
    rw [List.nodup_cons] at nd
    exact ⟨he _ _ (fun q => nd.1 (q ▸ List.mem_map_of_mem hp)) (Rt.nw p hp).1, (Rt.nw p hp).2⟩
  | cons v r =>
    obtain ⟨hv, hr, hlt⟩ := drop_cons hd'
    rw [hd'] at w
    obtain ⟨_, t, va, vb, i1, i2, w1, w2, rfl, ht, hc1, hi1, hc2, hi2, hb1⟩ := w
    obtain ⟨b, hb, vb'⟩ := f4.get hv
    refine wpAny_pyNext_list_item hit f3 (by rw [List.getElem?_toArray]; exact hb) fun h' hit' hs => ?_
    obtain ⟨oI, hoI, rI⟩ := id hit'
    have R3 := R'.refreeze (o' := oI) (fun b x hb e => hs.extBut b x hb e) hoI
    obtain ⟨T, us, kk, rfl, q1, q2, q3⟩ := R3.tup_ ht vb'
    refine wpAny_letOwnedTupleGo_listiter (s := { s' with heap := h' }) hit' ?_
    cases q3 with
    | cons z1 q3 =>
    cases q3 with
    | cons z2 q3 =>
    cases q3
    rename_i u1 u2
    refine wpAny_assign_Tuple (s := { s' with heap := h' }) ha.hh (items := #[u1, u2]) q2 rfl rfl fun h2 he2 => ?_
    have R4 := R3.up (Up.of_ext he2)
    show wpAny _ A (do holding [u2] (assign (.Name x px) d.env u1); do holding [] (assign (.Name y py) d.env u2); pure ()) _ _ _
    refine wpAny_bind (wpAny_holding (PySem.wpAny_assign_Name (storeC_ (s := { s' with heap := h2 }) ok hd R4 hc1 hi1 hkx z1 fun h3 n3 en3 R5 => ?_)))
    refine wpAny_bind (wpAny_holding (PySem.wpAny_assign_Name (storeC_ (s := { s' with heap := h3 }) ok hd R5 hc2 hi2 hky (en3.symm ▸ z2) fun h4 n4 en4 R6 => ?_)))
    refine wpAny_pure ?_
    have g6 : Gr s1 n1 { s' with heap := h4 } n4 := g'.trans ⟨rfl, rfl, rfl, by rw [en4, en3]; exact List.prefix_rfl⟩
    refine wpAny_mono (hb1 ok d A _ { s' with heap := h4 } _ n4 hd ha R6) (fun f s3 hf => ?_) fun _ _ e => e
    rcases hf with ⟨rfl, σ2, H2, n2, R7, g7, q⟩ | ⟨v, mv, σ2, H2, n2, rfl, R7, g7, vv', q⟩
    · exact ⟨l.length + 1 - (i + 1), by omega, i + 1, oI, σ2, H2, n2, rfl, hlt, ⟨oI, R7.ice, rI⟩, R7, g6.trans g7, hr ▸ q⟩
    · exact .inr ⟨v, mv, σ2, H2, n2, rfl, R7.thaw, (g1.trans g6).trans g7, vv', q⟩
end
def common2 (h k : Nat) : List Nat := ((List.range (k + 1 - 2)).map fun i => 2 + i).filter fun d => decide (h % d = 0) && decide (k % d = 0)
theorem common2_mem {h k d : Nat} : d ∈ common2 h k ↔ 2 ≤ d ∧ d ≤ k ∧ h % d = 0 ∧ k % d = 0 := by
  simp only [common2, List.mem_filter, List.mem_map, List.mem_range, Bool.and_eq_true, decide_eq_true_eq]
  constructor
  · rintro ⟨⟨i, hi, rfl⟩, h1, h2⟩
    exact ⟨by omega, by omega, h1, h2⟩
  · rintro ⟨h1, h2, h3, h4⟩
    exact ⟨⟨d - 2, by omega, by omega⟩, h3, h4⟩
theorem common2_one {k : Nat} : common2 1 k = [] := by
  cases e : common2 1 k with
  | nil => rfl
  | cons d r =>
    have : d ∈ common2 1 k := by rw [e]; exact .head _
    obtain ⟨h1, h2, h3, h4⟩ := common2_mem.mp this
    rw [Nat.mod_eq_of_lt (by omega)] at h3
    omega
theorem common2_gcd {h k : Nat} (hh : 1 ≤ h) (hk : h ≤ k) (e : common2 h k = []) : Nat.gcd h k = 1 := by
  have h1 := Nat.gcd_pos_of_pos_left k hh
  have h2 := Nat.le_of_dvd hh (Nat.gcd_dvd_left h k)
  by_cases hg : Nat.gcd h k = 1
  · exact hg
  · have : Nat.gcd h k ∈ common2 h k := common2_mem.mpr ⟨by omega, by omega, Nat.mod_eq_zero_of_dvd (Nat.gcd_dvd_left h k), Nat.mod_eq_zero_of_dvd (Nat.gcd_dvd_right h k)⟩
    rw [e] at this
    cases this
def lawStep (w h k : Nat) (v : RN) : Option RN :=
  bnd (exch w h k v) fun v' => bnd (least w (teeth h k) (4 * k * k)) fun z => opt (decide (z = v')) <|
  bnd (limbsC w 60 (6 * k)) fun l => bnd (rmul w v' ((false, l), [1])) fun s => opt (decide (s.2 = [1])) (some v')
def loopV (w : Nat) : List (Nat × Nat) → RN → Bool
  | [], _ => true
  | (h, k) :: r, v => match lawStep w h k v with
    | none => false
    | some v' => loopV w r v'
def chain : Nat → Nat → Nat → List (Nat × Nat)
  | 0, _, _ => []
  | f + 1, a, b => if a = 0 then [(a, b)] else (a, b) :: chain f (b % a) a
def p2 (m k : Nat) : MV → Bool
  | .int j => decide (m % j.toNat = 0) && decide (k % j.toNat = 0)
  | _ => false
theorem p2_int (m k d : Nat) : p2 m k (.int (d : Int)) = (decide (m % d = 0) && decide (k % d = 0)) := rfl
abbrev lxs : List Str := [Str.ofString "blade", Str.ofString "w", Str.ofString "pairs", Str.ofString "value", Str.ofString "six"]
abbrev lcx (i j : Nat) : List (Str × Nat) := [(Str.ofString "k", i), (Str.ofString "h", j)]
/-- the pairs, as objects -/
inductive PRs (H : List MO) : List MV → List (Nat × Nat) → Prop where
  | nil : PRs H [] []
  | cons {t a b l ps} : H[t]? = some (.tup [.int ((a : Nat) : Int), .int ((b : Nat) : Int)]) → PRs H l ps → PRs H (.ref t :: l) ((a, b) :: ps)
namespace PRs
theorem mono {H H' : List MO} (k : ∀ (t : Nat) a, H[t]? = some (MO.tup a) → H'[t]? = some (MO.tup a)) : ∀ {l ps}, PRs H l ps → PRs H' l ps
  | _, _, .nil => .nil
  | _, _, .cons h r => .cons (k _ _ h) (r.mono k)
theorem length {H : List MO} : ∀ {l ps}, PRs H l ps → l.length = ps.length
  | _, _, .nil => rfl
  | _, _, .cons _ r => by simp [r.length]
theorem append {H : List MO} : ∀ {l ps l' ps'}, PRs H l ps → PRs H l' ps' → PRs H (l ++ l') (ps ++ ps')
  | _, _, _, _, .nil, y => y
  | _, _, _, _, .cons h r, y => .cons h (r.append y)
theorem reverse {H : List MO} : ∀ {l ps}, PRs H l ps → PRs H l.reverse ps.reverse
  | _, _, .nil => .nil
  | _, _, .cons h r => by
    rw [List.reverse_cons, List.reverse_cons]
    exact r.reverse.append (.cons h .nil)
theorem take {H : List MO} : ∀ {l ps}, PRs H l ps → ∀ n, PRs H (l.take n) (ps.take n)
  | _, _, .nil, _ => by simpa using PRs.nil
  | _, _, .cons h r, 0 => .nil
  | _, _, .cons h r, n + 1 => .cons h (r.take n)
end PRs
section
variable {G : Gx} {n : Nat} {H : List MO} {Qr : MV → List MO → Prop}
theorem while_h (ga : GAll G) {ik ih w k h : Nat} {v0 v2 v3 v4 : MV} {t : Expr} {b : List Stmt} {pos : Pos} {Qn : List MV → List MO → Prop} (hst : ((dr 40).body.drop 3).head? = some (.While t b [] pos)) (hk3 : 3 ≤ k) (hk16 : k ≤ 16) (hh1 : 1 ≤ h) (hhk : h < k) (hkh : ik ≠ ih)
    (hik : H[ik]? = some (.cell (.int (k : Int)))) (hih : H[ih]? = some (.cell (.int (h : Int)))) (hn : 1 ≤ n)
    (q : ∀ (h : Nat) H', 1 ≤ h → h < k → Nat.gcd h k = 1 → H'[ik]? = some (.cell (.int (k : Int))) → H'[ih]? = some (.cell (.int (h : Int))) → Qn [v0, .int (w : Int), v2, v3, v4] H') :
    WS G (dr 40).scope lxs (lcx ik ih) n (.While t b [] pos) Qn Qr [v0, .int (w : Int), v2, v3, v4] H := by
  have go := ga.go
  cases hst
  refine WS_while (WWh_inv (fun m σ' H' => ∃ h : Nat, m = h ∧ σ' = [v0, .int (w : Int), v2, v3, v4] ∧ 1 ≤ h ∧ h < k ∧ H'[ik]? = some (.cell (.int (k : Int))) ∧ H'[ih]? = some (.cell (.int (h : Int)))) (k := h) ⟨h, rfl, rfl, hh1, hhk, hik, hih⟩ ?_)
  clear hih hik hh1 hhk
  intro m σ' H' zq
  refine cps fun zP zh => ?_
  obtain ⟨h, rfl, rfl, h1, h2, hik, hih⟩ := zq
  refine zh ?_
  clear zh zP
  refine WT_cmp ?_ ?hb
  case hb => rfl
  refine WE_compR go (cp_hk (x := Str.ofString "one") (by decide) (by decide) rfl rfl rfl) rfl ?_ ?he ?hp ?hc ?hf
  case he => intro _; rfl
  case hp => intro _; rfl
  case hc => intro _; rfl
  case hf => intro _ _; rfl
  repeat walk_at "m_e"
  refine WE_cell (.head _) hik (by nofun) rfl (by decide) ?_
  repeat walk_at "m_e"
  refine ⟨2, k + 1, rfl, by decide, by omega, by omega, ?_⟩
  have hc1 : (relabel (hkScope (Str.ofString "one")) (env0 (dr 40).scope)).names.lookup (Str.ofString "h") = some .cell := cell_of rfl rfl rfl
  have hc2 : (relabel (hkScope (Str.ofString "one")) (env0 (dr 40).scope)).names.lookup (Str.ofString "k") = some .cell := cell_of rfl rfl rfl
  have hrange : rangeL ((2 : Nat) : Int) 1 (k + 1 - 2) = nL ((List.range (k + 1 - 2)).map fun i => 2 + i) := by
    simp only [rangeL, List.map_map]
    refine List.map_congr_left fun i _ => ?_
    show MV.int (((2 : Nat) : Int) + (i : Int) * 1) = MV.int ((2 + i : Nat) : Int)
    congr 1
    omega
  rw [hrange]
  refine WCp_filter (p2 m k) (by simp; omega) (fun v hv ys => ?_) (fun v hv ys => ?_) ?_
  · obtain ⟨d, hd, rfl⟩ := List.mem_map.mp hv
    obtain ⟨i, hi, e⟩ := List.mem_map.mp hd
    have e : 2 + i = d := e
    subst e
    rw [p2_int]
    have j1 := hget_old (J := [.list ys]) hik
    have j2 := hget_old (J := [.list ys]) hih
    refine WT_and ?_
    refine WT_cmp ?_ ?hb
    case hb => rfl
    refine WE_bin ?_
    refine WE_cell (.tail _ (.head _)) j2 (by nofun) hc1 (by decide) ?_
    repeat walk_at "m_e"
    rw [fmod_nat]
    repeat walk_at "m_e"
    refine ⟨fun h => ?_, fun h => ?_⟩
    · have h := eqT h
      refine WT_cmp ?_ ?hb
      case hb => rfl
      refine WE_bin ?_
      refine WE_cell (.head _) j1 (by nofun) hc2 (by decide) ?_
      repeat walk_at "m_e"
      rw [fmod_nat]
      repeat walk_at "m_e"
      refine ⟨?_, rfl⟩
      have h' : m % (2 + i) = 0 := by omega
      rw [h']
      generalize k % (2 + i) = z
      cases z with
      | zero => rfl
      | succ z =>
        have h3 : (((z + 1 : Nat) : Int) == 0) = false := by rw [beq_eq_false_iff_ne]; omega
        rw [h3]
        rfl
    · have h := eqF h
      refine ⟨?_, rfl⟩
      have h' : ¬ m % (2 + i) = 0 := by omega
      simp [h']
  · obtain ⟨d, hd, rfl⟩ := List.mem_map.mp hv
    repeat walk_at "m_e"
    exact ⟨rfl, rfl⟩
  · have hfil : ([] : List MV) ++ (nL ((List.range (k + 1 - 2)).map fun i => 2 + i)).filter (p2 m k) = nL (common2 m k) := by
      rw [List.nil_append, common2, List.filter_map]
      congr 1
    rw [hfil]
    refine WE_list (WEs_nil ⟨by simp, ?_⟩)
    refine CO_neL (l := (common2 m k).map fun (n : Nat) => (n : Int)) (r := []) (hget_old (by rw [← nL_iL]; exact hget_new)) hget_new ?_
    refine ⟨fun h => ?_, fun h => ?_⟩
    · have hm : m ≠ 1 := by
        rintro rfl
        rw [common2_one] at h
        exact absurd h (by decide)
      refine WSs_cons (WS_assignC rfl ?_ ?hs)
      case hs => intro _; rfl
      refine WE_bin ?_
      refine WE_cell (.tail _ (.head _)) (hget_old (hget_old hih)) (by nofun) rfl (by decide) ?_
      repeat walk_at "m_e"
      refine ⟨ih, _, .tail _ (.head _), hget_old (hget_old hih), ?_⟩
      refine WSs_nil ?_
      refine ⟨m - 1, by omega, m - 1, rfl, rfl, by omega, by omega, ?_, ?_⟩
      · exact hset_ne hkh (hget_old (hget_old hik))
      · rw [show (m : Int) - 1 = ((m - 1 : Nat) : Int) by omega]
        exact hset_get (hget_old (hget_old hih))
    · have e : common2 m k = [] := by
        cases e : common2 m k with
        | nil => rfl
        | cons x r => rw [e] at h; simp at h
      exact q m _ h1 h2 (common2_gcd h1 (by omega) e) (hget_old (hget_old hik)) (hget_old (hget_old hih))
end
theorem PRs.snoc_inv {H : List MO} : ∀ {l : List MV} {ps : List (Nat × Nat)} {a b : Nat}, PRs H l (ps ++ [(a, b)]) → ∃ l0 t, l = l0 ++ [.ref t] ∧ PRs H l0 ps ∧ H[t]? = some (.tup [.int (a : Int), .int (b : Int)])
  | _, [], a, b, .cons h .nil => ⟨[], _, rfl, .nil, h⟩
  | _, (x, y) :: ps, a, b, .cons h r => by
    obtain ⟨l0, t, rfl, h1, h2⟩ := r.snoc_inv
    exact ⟨_ :: l0, t, rfl, .cons h h1, h2⟩
theorem IX_lastR {Q : MV → List MO → Prop} {H : List MO} {j : Nat} {l0 : List MV} {x : MV} (hl : H[j]? = some (.list (l0 ++ [x]))) (hz : l0.length ≤ 1000) (q : Q x H) : IX Q H (.ref j) (.int (-1)) := by
  refine .neg hl (by decide) (by simp; omega) (x := x) ?_ (by decide) q
  have : (-1 + ((l0 ++ [x]).length : Int)).toNat = l0.length := by simp; omega
  rw [this]
  simp
theorem tup_set {H : List MO} {i t : Nat} {l a : List MV} {o : MO} (h : H[i]? = some (.list l)) (ht : H[t]? = some (.tup a)) : (H.set i o)[t]? = some (.tup a) := by
  refine hset_ne (fun e => ?_) ht
  subst e
  rw [h] at ht; cases ht
theorem cell_set {H : List MO} {i t : Nat} {l : List MV} {v : MV} {o : MO} (h : H[i]? = some (.list l)) (ht : H[t]? = some (.cell v)) : (H.set i o)[t]? = some (.cell v) := by
  refine hset_ne (fun e => ?_) ht
  subst e
  rw [h] at ht; cases ht
section
variable {G : Gx} {n : Nat} {H : List MO} {Qr : MV → List MO → Prop}
theorem while_p (ga : GAll G) {ik ih ip w h k : Nat} {v0 v3 v4 wk wh : MV} {l : List MV} {t : Expr} {b : List Stmt} {pos : Pos} {Qn : List MV → List MO → Prop} (hst : ((dr 40).body.drop 5).head? = some (.While t b [] pos))
    (hip : H[ip]? = some (.list l)) (hpr : PRs H l [(h, k)]) (hh : h < 17) (hik : H[ik]? = some (.cell wk)) (hih : H[ih]? = some (.cell wh)) (hn : 1 ≤ n)
    (q : ∀ H' l, PRs H' l (chain 17 h k) → l.length ≤ 50 → H'[ip]? = some (.list l) → H'[ik]? = some (.cell wk) → H'[ih]? = some (.cell wh) → Qn [v0, .int (w : Int), .ref ip, v3, v4] H') :
    WS G (dr 40).scope lxs (lcx ik ih) n (.While t b [] pos) Qn Qr [v0, .int (w : Int), .ref ip, v3, v4] H := by
  have go := ga.go
  cases hst
  refine WS_while (WWh_inv (fun m σ' H' => ∃ (l : List MV) (ps : List (Nat × Nat)) (a b : Nat), σ' = [v0, .int (w : Int), .ref ip, v3, v4] ∧ H'[ip]? = some (.list l) ∧ PRs H' l (ps ++ [(a, b)]) ∧ ps ++ chain m a b = chain 17 h k ∧ a < m ∧ ps.length + m ≤ 20 ∧ H'[ik]? = some (.cell wk) ∧ H'[ih]? = some (.cell wh))
    (k := 17) ⟨l, [], h, k, rfl, hip, hpr, rfl, hh, by simp, hik, hih⟩ ?_)
  clear hip hpr hik hih
  intro m σ' H' zq
  refine cps fun zP zh => ?_
  obtain ⟨l, ps, a, b, rfl, hip, hpr, hch, ham, hlen, hik, hih⟩ := zq
  refine zh ?_
  clear zh zP
  obtain ⟨m, rfl⟩ : ∃ j, m = j + 1 := ⟨m - 1, by omega⟩
  obtain ⟨l0, t, rfl, hp0, ht⟩ := hpr.snoc_inv
  have hz0 := hp0.length
  refine WT_cmp ?_ ?hb
  case hb => rfl
  repeat walk_at "m_e"
  refine IX_lastR hip (by omega) ?_
  repeat walk_at "m_e"
  refine ⟨fun h => ?_, fun h => ?_⟩
  · have h := ltT h
    rw [chain, if_neg (by omega)] at hch
    refine WSs_cons ?_
    walk_at "m_app"
    repeat walk_at "m_e"
    refine IX_lastR hip (by omega) ?_
    repeat walk_at "m_e"
    refine IX_lastR hip (by omega) ?_
    repeat walk_at "m_e"
    rw [fmod_nat]
    repeat walk_at "m_e"
    refine IX_lastR hip (by omega) ?_
    repeat walk_at "m_e"
    refine ⟨_, hget_old hip, by simp; omega, ?_⟩
    refine WSs_nil ?_
    have hip2 : (H' ++ [MO.tup [.int ((b % a : Nat) : Int), .int (a : Int)]])[ip]? = some (.list (l0 ++ [.ref t])) := hget_old hip
    refine ⟨m, by omega, _, ps ++ [(a, b)], b % a, a, rfl, hset_get hip2, ?_, by rw [← hch]; simp, ?_, by simp; omega, cell_set hip2 (hget_old hik), cell_set hip2 (hget_old hih)⟩
    · refine PRs.append (hpr.mono fun t a ht => tup_set hip2 (hget_old ht)) (.cons (tup_set hip2 hget_new) .nil)
    · have := Nat.mod_lt b (show a > 0 by omega)
      omega
  · have h := ltF h
    rw [chain, if_pos (by omega)] at hch
    exact q _ _ (by rw [← hch]; exact hpr) (by simp; omega) hip hik hih
theorem WForC_items {cs : Scope} {xs : List Str} {cx : List (Str × Nat)} {Qn : List MV → List MO → Prop} {σ : List MV} {x y : Str} {b : List Stmt} {Inv : List MO → Prop} (I : List MV → List MV → List MO → Prop) {l : List MV} (start : I l σ H)
    (step : ∀ v r σ H, I (v :: r) σ H → Inv H ∧ ∃ t a a' i1 i2 w1 w2, v = .ref t ∧ H[t]? = some (.tup [a, a']) ∧ (x, i1) ∈ cx ∧ H[i1]? = some (.cell w1) ∧ (y, i2) ∈ cx ∧ (H.set i1 (.cell a))[i2]? = some (.cell w2) ∧ WSs G cs xs cx n b (fun σ' H' => I r σ' H') Qr σ ((H.set i1 (.cell a)).set i2 (.cell a')))
    (fin : ∀ σ H, I [] σ H → Inv H ∧ Qn σ H) : WForC G cs xs cx n x y b Inv Qn Qr l σ H := by
  induction l generalizing σ H with
  | nil => exact fin _ _ start
  | cons v r ih =>
    obtain ⟨h0, t, a, a', i1, i2, w1, w2, e1, e2, e3, e4, e5, e6, e7⟩ := step v r σ H start
    exact ⟨h0, t, a, a', i1, i2, w1, w2, e1, e2, e3, e4, e5, e6, WSs_mono e7 fun σ' H' hI => ih hI⟩
end
def NC (H H' : List MO) : Prop := ∀ (t : Nat) o, (∀ v, o ≠ MO.cell v) → H[t]? = some o → H'[t]? = some o
theorem NC.set {H : List MO} {i : Nat} {v w : MV} (h : H[i]? = some (.cell v)) : NC H (H.set i (.cell w)) := by
  intro t o ho ht
  refine hset_ne (fun e => ?_) ht
  subst e
  rw [h] at ht; cases ht
  exact ho _ rfl
theorem NC.trans {a b c : List MO} (x : NC a b) (y : NC b c) : NC a c := fun t o ho ht => y t o ho (x t o ho ht)
theorem NC.pre {a b : List MO} (x : a <+: b) : NC a b := fun t o _ ht => hget_pre x ht
theorem NC.sr {a b : List MO} (x : NC a b) {i : Nat} {s : SN} (h : SR a i s) : SR b i s := by
  obtain ⟨u, h1, h2⟩ := h
  exact ⟨u, x _ _ (by nofun) h1, x _ _ (by nofun) h2⟩
theorem NC.rr {a b : List MO} (x : NC a b) {i : Nat} {s : RN} (h : RR a i s) : RR b i s := by
  obtain ⟨u, v, h1, h2, h3⟩ := h
  exact ⟨u, v, x _ _ (by nofun) h1, x.sr h2, x _ _ (by nofun) h3⟩
theorem NC.prs {a b : List MO} (x : NC a b) {l : List MV} {ps : List (Nat × Nat)} (h : PRs a l ps) : PRs b l ps := h.mono fun t _ ht => x t _ (by nofun) ht
section
variable {G : Gx} {n : Nat} {H : List MO} {Qr : MV → List MO → Prop}
theorem for_v (ga : GAll G) {ik ih ip iv w : Nat} {v0 v4 wk wh : MV} {l : List MV} {C : List (Nat × Nat)} {v : RN} {tgt iter : Expr} {b o : List Stmt} {pos : Pos} {Qn : List MV → List MO → Prop} (hst : ((dr 40).body.drop 7).head? = some (.For tgt iter b o pos)) (hkh : ik ≠ ih)
    (hw0 : 0 < w) (hw : w ≤ 8) (hip : H[ip]? = some (.list l)) (hpr : PRs H l C) (hz : l.length ≤ 50) (hb : ∀ p ∈ C.dropLast, p.1 < 2 ^ 10 ∧ 0 < p.2 ∧ p.2 < 2 ^ 10) (hv : RR H iv v) (hik : H[ik]? = some (.cell wk)) (hih : H[ih]? = some (.cell wh)) (hn : 9 ≤ n)
    (hloop : loopV w C.dropLast.reverse v = true) (q : ∀ v2 v3 v4 H', Qn [v0, .int (w : Int), v2, v3, v4] H') :
    WS G (dr 40).scope lxs (lcx ik ih) n (.For tgt iter b o pos) Qn Qr [v0, .int (w : Int), .ref ip, .ref iv, v4] H := by
  have go := ga.go
  cases hst
  refine WS_forC rfl rfl ?_ ?hf
  case hf => intro _ _; rfl
  repeat walk_at "m_e"
  refine ⟨_, _, _, rfl, hip, by omega, slice_init, ?_⟩
  repeat walk_at "m_e"
  refine ⟨_, _, _, rfl, hget_new, by simp; omega, .rev, ?_⟩
  refine ⟨_, _, rfl, hget_new, ?_⟩
  have p0 : H <+: H ++ [MO.list (l.take (l.length - 1))] ++ [MO.list (l.take (l.length - 1)).reverse] := by walk_at "m_pre"
  have hj : (H ++ [MO.list (l.take (l.length - 1))] ++ [MO.list (l.take (l.length - 1)).reverse])[(H ++ [MO.list (l.take (l.length - 1))]).length]? = some (.list (l.take (l.length - 1)).reverse) := hget_new
  generalize (H ++ [MO.list (l.take (l.length - 1))]).length = j at *
  have hpr2 : PRs H (l.take (l.length - 1)).reverse C.dropLast.reverse := by
    rw [List.dropLast_eq_take, ← hpr.length]
    exact (hpr.take _).reverse
  generalize (l.take (l.length - 1)).reverse = l2 at *
  have hb2 : ∀ p ∈ C.dropLast.reverse, p.1 < 2 ^ 10 ∧ 0 < p.2 ∧ p.2 < 2 ^ 10 := fun p hp => hb p (List.mem_reverse.mp hp)
  generalize C.dropLast.reverse = D at *
  refine WForC_items (fun r σ' H' => ∃ D iv v v4 wk wh, σ' = [v0, .int (w : Int), .ref ip, .ref iv, v4] ∧ PRs H' r D ∧ RR H' iv v ∧ (∀ p ∈ D, p.1 < 2 ^ 10 ∧ 0 < p.2 ∧ p.2 < 2 ^ 10) ∧ loopV w D v = true ∧ H'[ik]? = some (.cell wk) ∧ H'[ih]? = some (.cell wh) ∧ H'[j]? = some (.list l2))
    ⟨D, iv, v, v4, wk, wh, rfl, hpr2.mono fun _ _ h => hget_pre p0 h, hv.mono p0, hb2, hloop, hget_pre p0 hik, hget_pre p0 hih, hj⟩ ?_ ?_
  · clear hip hpr hz hb hv hik hih hloop p0 hj hpr2 hb2
    intro v1 r σ' H' zq
    refine cps fun zP zh => ?_
    obtain ⟨D, iv, v, v4, wk, wh, rfl, hpr, hv, hb, hloop, hik, hih, hj⟩ := zq
    refine zh ?_
    clear zh zP
    refine ⟨hj, ?_⟩
    cases hpr with
    | cons ht hpr =>
    rename_i t a b D
    have hb1 := hb (a, b) (.head _)
    simp only [] at hb1
    obtain ⟨b1, b2, b3⟩ := hb1
    rw [loopV] at hloop
    cases hls : lawStep w a b v with
    | none => rw [hls] at hloop; cases hloop
    | some v' =>
    rw [hls] at hloop
    obtain ⟨e, m1, hls⟩ := bnd_some hls
    obtain ⟨z, m2, hls⟩ := bnd_some hls
    obtain ⟨m3, hls⟩ := opt_some hls
    have m3 := of_decide_eq_true m3
    subst m3
    obtain ⟨l6, m4, hls⟩ := bnd_some hls
    obtain ⟨s, m5, hls⟩ := bnd_some hls
    obtain ⟨m6, hls⟩ := opt_some hls
    have m6 := of_decide_eq_true m6
    cases hls
    have k1 : (H'.set ih (.cell (.int (a : Int))))[ik]? = some (.cell wk) := hset_ne hkh hik
    refine ⟨t, _, _, ih, ik, _, _, rfl, ht, .tail _ (.head _), hih, .head _, k1, ?_⟩
    have nc : NC H' ((H'.set ih (.cell (.int (a : Int)))).set ik (.cell (.int (b : Int)))) := (NC.set hih).trans (NC.set k1)
    have hik2 : ((H'.set ih (.cell (.int (a : Int)))).set ik (.cell (.int (b : Int))))[ik]? = some (.cell (.int (b : Int))) := hset_get k1
    have hih2 : ((H'.set ih (.cell (.int (a : Int)))).set ik (.cell (.int (b : Int))))[ih]? = some (.cell (.int (a : Int))) := hset_ne (Ne.symm hkh) (hset_get hih)
    have hj2 := nc _ _ (by nofun) hj
    have hpr2 := nc.prs hpr
    have hv2 := nc.rr hv
    generalize (H'.set ih (.cell (.int (a : Int)))).set ik (.cell (.int (b : Int))) = H2 at *
    clear nc k1 hik hih hj hpr hv ht
    refine WSs_cons ?_
    repeat walk_at "m_e"
    refine WE_cell (.tail _ (.head _)) hih2 (by nofun) rfl (by decide) ?_
    repeat walk_at "m_e"
    refine WE_cell (.head _) hik2 (by nofun) rfl (by decide) ?_
    repeat walk_at "m_e"
    refine WC_le (by omega) (exch_spec (n := 8) ga hv2 hw0 hw (by omega) m1 (by omega) fun H3 r1 p1 e1 => ?_)
    repeat walk_at "m_s"
    refine WE_fn ⟨dr 38, ga.fn 38 (by decide) (by decide) (by decide), rfl⟩ rfl (by decide) ?_
    repeat walk_at "m_e"
    refine WE_cell (.tail _ (.head _)) (hget_pre p1 hih2) (by nofun) rfl (by decide) ?_
    repeat walk_at "m_e"
    refine WE_cell (.head _) (hget_pre p1 hik2) (by nofun) rfl (by decide) ?_
    repeat walk_at "m_e"
    refine WC_le (by omega) (teeth_spec (n := 1) ga (by omega) b2 b3 (by omega) fun H4 p2 => ?_)
    repeat walk_at "m_e"
    refine WE_cell (.head _) (hget_pre p2 (hget_pre p1 hik2)) (by nofun) rfl (by decide) ?_
    repeat walk_at "m_e"
    refine WE_cell (.head _) (hget_pre p2 (hget_pre p1 hik2)) (by nofun) rfl (by decide) ?_
    repeat walk_at "m_e"
    rw [show (4 : Int) * (b : Int) * (b : Int) = ((4 * b * b : Nat) : Int) by simp [Int.natCast_mul]]
    refine WC_le (by omega) (least_spec (n := 2) ga hw m2 (by omega) fun H5 r2 p3 e2 => ?_)
    refine CO_neR (e1.mono (p2.trans p3)) e2 ?_
    refine ⟨fun h => (nomatch h), fun _ => ?_⟩
    repeat walk_at "m_s"
    have p13 := p1.trans (p2.trans p3)
    refine WE_cell (.head _) (hget_pre p13 hik2) (by nofun) rfl (by decide) ?_
    repeat walk_at "m_e"
    rw [show (6 : Int) * (b : Int) = ((6 * b : Nat) : Int) by simp [Int.natCast_mul]]
    refine WC_le (by omega) (limbs_spec (n := 1) ga hw m4 (by omega) fun H6 r3 p4 e3 => ?_)
    repeat walk_at "m_s"
    refine WC_le (by omega) (r_mul_spec (n := 6) ga (e1.mono (p2.trans (p3.trans (by walk_at "m_pre")))) ⟨_, _, hget_new, ⟨r3, hget_old (hget_old hget_new), by walk_at "m_hget"⟩, hget_old hget_new⟩ hw0 hw m5 (by omega) fun H7 r4 p5 e5 => ?_)
    obtain ⟨f1, f2, f3, f4, f5⟩ := e5
    repeat walk_at "m_s"
    refine CO_neL (l := [1]) (r := [1]) (hget_old (by rw [m6] at f5; exact f5)) hget_new ?_
    refine ⟨fun h => absurd h (by decide), fun _ => ?_⟩
    repeat walk_at "m_s"
    have p17 : H2 <+: H7 ++ [MO.list [.int 1]] := p13.trans (p4.trans (by walk_at "m_pre"))
    have p37 : H3 <+: H7 ++ [MO.list [.int 1]] := p2.trans (p3.trans (p4.trans (by walk_at "m_pre")))
    exact ⟨D, r1, v', _, _, _, rfl, (NC.pre p17).prs hpr2, e1.mono p37, fun p hp => hb p (.tail _ hp), hloop, hget_pre p17 hik2, hget_pre p17 hih2, hget_pre p17 hj2⟩
  · intro σ' H' zq
    refine cps fun zP zh => ?_
    obtain ⟨D, iv, v, v4, wk, wh, rfl, hpr, hv, hb, hloop, hik, hih, hj⟩ := zq
    refine zh ?_
    clear zh zP
    exact ⟨hj, q _ _ _ _⟩
end
section
variable {G : Gx} {cs : Scope} {xs : List Str} {cx : List (Str × Nat)} {n : Nat} {Qn : List MV → List MO → Prop} {Qr : MV → List MO → Prop} {σ : List MV} {H : List MO} {pos p tp : Pos}
theorem WS_assignTC {x y : Str} {px py : Pos} {k : Nat} {value : Expr} (hk : cs.names.lookup y = some .cell) (h : WE G cs xs cx n value (fun v H1 => ∃ j a b σ1 i w, v = .ref j ∧ H1[j]? = some (.tup [a, b]) ∧ SlotS xs σ x a σ1 ∧ (y, i) ∈ cx ∧ H1[i]? = some (.cell w) ∧ Qn σ1 (H1.set i (.cell b))) σ H)
    (hw : ∀ env : Env, env.scope = cs → swappedStores [.Tuple [.Name x px, .Name y py] k tp] value env = pure Option.none) (hs : ∀ env, swapsWithSole [.Tuple [.Name x px, .Name y py] k tp] value pos.line env = pure false := by intro _; rfl) :
    WS G cs xs cx n (.Assign [.Tuple [.Name x px, .Name y py] k tp] value pos) Qn Qr σ H := by
  intro ok d A E s fz news hd ha R
  refine PyProof.Rows.Assign_Tuple (ep_mono (h ok d A E s fz news hd ha R) fun v H1 n1 u s1 R1 g1 vv h1 => ?_) (hs _) (hw _ hd)
  obtain ⟨j, a, b, σ1, i, w, rfl, hj, s1', hc, hi, q⟩ := h1
  obtain ⟨t, us, c, rfl, e1, e2, e3⟩ := R1.tup_ hj vv
  cases e3 with
  | cons v1 y1 =>
    cases y1 with
    | cons v2 y2 =>
      cases y2
      rename_i u1 u2
      refine wpAny_assign_Tuple ha.hh (items := #[u1, u2]) e2 rfl rfl fun h' he => ?_
      have R2 := R1.up (Up.of_ext he)
      show wpAny _ A (do holding [u2] (assign (.Name x px) d.env u1); do holding [] (assign (.Name y py) d.env u2); pure ()) _ _ _
      refine wpAny_bind (wpAny_holding (PySem.wpAny_assign_Name (store_ (s := { s1 with heap := h' }) ok hd R2 s1' v1 fun h3 tk R3 => ?_)))
      refine wpAny_bind (wpAny_holding (PySem.wpAny_assign_Name (storeC_ (s := { s1 with heap := h3, toks := tk }) ok hd R3 hc hi hk v2 fun h4 n4 en R4 => ?_)))
      exact wpAny_pure (.inl ⟨rfl, σ1, _, n4, R4, g1.trans ⟨rfl, rfl, rfl, by rw [en]; exact List.prefix_rfl⟩, q⟩)
end
theorem chain_ok : ∀ {f a b : Nat}, a < f → a < b → b ≤ 16 → ∀ p ∈ chain f a b, p.1 < 2 ^ 10 ∧ 0 < p.2 ∧ p.2 < 2 ^ 10
  | 0, _, _, h, _, _ => absurd h (Nat.not_lt_zero _)
  | f + 1, a, b, h, hab, hb => by
    intro p hp
    rw [chain] at hp
    by_cases ha : a = 0
    · rw [if_pos ha] at hp
      rw [List.mem_singleton.mp hp]
      simp only []
      omega
    · rw [if_neg ha] at hp
      have hlt := Nat.mod_lt b (show a > 0 by omega)
      rcases List.mem_cons.mp hp with rfl | hp
      · simp only []
        omega
      · exact chain_ok (f := f) (by omega) hlt (by omega) p hp
section
variable {G : Gx} {n : Nat} {H : List MO} {Qr : MV → List MO → Prop}
theorem law_rest (ga : GAll G) {ib u ik ih : Nat} {L : List Int} (hb : H[ib]? = some (.list [.int 0, .ref u])) (hu : H[u]? = some (.list (iL L))) (hne : u ≠ ib) (hz : L.length ≤ 1000) (hkh : ik ≠ ih) (hik : H[ik]? = some (.cell .unb)) (hih : H[ih]? = some (.cell .unb)) (hn : 9 ≤ n)
    (plain : ∀ w k h, 3 ≤ w → w ≤ 8 → 3 ≤ k → k ≤ 16 → 1 ≤ h → h < k → Nat.gcd h k = 1 → loopV w (chain 17 h k).dropLast.reverse ((false, []), [1]) = true) (q : ∀ H', Qr (.bool true) H') :
    WSs G (dr 40).scope lxs (lcx ik ih) n ((dr 40).body.drop 1) (fun _ _ => False) Qr [.ref ib, .unb, .unb, .unb, .unb] H := by
  have go := ga.go
  have kb : ik ≠ ib := by rintro rfl; rw [hb] at hik; cases hik
  have hbb : ih ≠ ib := by rintro rfl; rw [hb] at hih; cases hih
  refine WSs_cons ?_
  refine WS_assignTC rfl ?_ ?hw ?hs
  case hs => intro _; rfl
  case hw => intro env he; cases env; cases he; rfl
  repeat walk_at "m_e"
  refine WC_le (by omega) (sawn_spec (n := 1) (many := 6) ga hb hu hne (by decide) (by decide) hz (by decide) (by decide) (by omega) fun a ha => ?_)
  have hb1 : (H.set ib (.list [.int (0 + 1), .ref u]))[ib]? = some (.list [.int (0 + 1), .ref u]) := hset_get hb
  have hu1 : (H.set ib (.list [.int (0 + 1), .ref u]))[u]? = some (.list (iL L)) := hset_ne hne hu
  have hik1 : (H.set ib (.list [.int (0 + 1), .ref u]))[ik]? = some (.cell .unb) := hset_ne kb hik
  have hih1 : (H.set ib (.list [.int (0 + 1), .ref u]))[ih]? = some (.cell .unb) := hset_ne hbb hih
  generalize H.set ib (.list [.int (0 + 1), .ref u]) = H at *
  repeat walk_at "m_e"
  refine WC_le (by omega) (sawn_spec (n := 1) (many := 14) ga hb1 hu1 hne (by decide) (by decide) hz (by decide) (by decide) (by omega) fun c hc => ?_)
  have hb2 : (H.set ib (.list [.int (0 + 1 + 1), .ref u]))[ib]? = some (.list [.int (0 + 1 + 1), .ref u]) := hset_get hb1
  have hu2 : (H.set ib (.list [.int (0 + 1 + 1), .ref u]))[u]? = some (.list (iL L)) := hset_ne hne hu1
  have hik2 : (H.set ib (.list [.int (0 + 1 + 1), .ref u]))[ik]? = some (.cell .unb) := hset_ne kb hik1
  have hih2 : (H.set ib (.list [.int (0 + 1 + 1), .ref u]))[ih]? = some (.cell .unb) := hset_ne hbb hih1
  generalize H.set ib (.list [.int (0 + 1 + 1), .ref u]) = H at *
  repeat walk_at "m_e"
  rw [show (3 : Int) + (a : Int) = ((3 + a : Nat) : Int) by omega, show (3 : Int) + (c : Int) = ((3 + c : Nat) : Int) by omega]
  refine ⟨_, _, _, _, ik, _, rfl, hget_new, by walk_at "m_slot", .head _, hget_old hik2, ?_⟩
  have hw3 : 3 ≤ 3 + a := by omega
  have hw8 : 3 + a ≤ 8 := by omega
  have hk3 : 3 ≤ 3 + c := by omega
  have hk16 : 3 + c ≤ 16 := by omega
  generalize 3 + a = w at *
  generalize 3 + c = k at *
  replace hb2 := hget_old (J := [MO.tup [.int (w : Int), .int (k : Int)]]) hb2
  replace hu2 := hget_old (J := [MO.tup [.int (w : Int), .int (k : Int)]]) hu2
  replace hik2 := hget_old (J := [MO.tup [.int (w : Int), .int (k : Int)]]) hik2
  replace hih2 := hget_old (J := [MO.tup [.int (w : Int), .int (k : Int)]]) hih2
  generalize H ++ [MO.tup [.int (w : Int), .int (k : Int)]] = H at *
  have hb3 : (H.set ik (.cell (.int (k : Int))))[ib]? = some (.list [.int (0 + 1 + 1), .ref u]) := hset_ne (Ne.symm kb) hb2
  have hu3 : (H.set ik (.cell (.int (k : Int))))[u]? = some (.list (iL L)) := NC.set hik2 _ _ (by nofun) hu2
  have hik3 : (H.set ik (.cell (.int (k : Int))))[ik]? = some (.cell (.int (k : Int))) := hset_get hik2
  have hih3 : (H.set ik (.cell (.int (k : Int))))[ih]? = some (.cell .unb) := hset_ne (Ne.symm hkh) hih2
  generalize H.set ik (.cell (.int (k : Int))) = H at *
  -- h
  refine WSs_cons (WS_assignC rfl ?_ ?hs)
  case hs => intro _; rfl
  repeat walk_at "m_e"
  refine WE_cell (.head _) hik3 (by nofun) rfl (by decide) ?_
  repeat walk_at "m_e"
  rw [show (k : Int) - 1 = ((k - 1 : Nat) : Int) by omega]
  refine WC_le (by omega) (sawn_spec (n := 1) ga hb3 hu3 hne (by decide) (by decide) hz (by omega) (by omega) (by omega) fun h hh => ?_)
  repeat walk_at "m_e"
  have hik4 : (H.set ib (.list [.int (0 + 1 + 1 + 1), .ref u]))[ik]? = some (.cell (.int (k : Int))) := hset_ne kb hik3
  have hih4 : (H.set ib (.list [.int (0 + 1 + 1 + 1), .ref u]))[ih]? = some (.cell .unb) := hset_ne hbb hih3
  generalize H.set ib (.list [.int (0 + 1 + 1 + 1), .ref u]) = H at *
  refine ⟨ih, _, .tail _ (.head _), hih4, ?_⟩
  rw [show (1 : Int) + (h : Int) = ((1 + h : Nat) : Int) by omega]
  have hh1 : 1 ≤ 1 + h := by omega
  have hhk : 1 + h < k := by omega
  generalize 1 + h = h at *
  have hik5 : (H.set ih (.cell (.int (h : Int))))[ik]? = some (.cell (.int (k : Int))) := hset_ne hkh hik4
  have hih5 : (H.set ih (.cell (.int (h : Int))))[ih]? = some (.cell (.int (h : Int))) := hset_get hih4
  generalize H.set ih (.cell (.int (h : Int))) = H at *
  clear hb hu hb1 hu1 hb2 hu2 hb3 hu3 hik hik1 hik2 hik3 hik4 hih hih1 hih2 hih3 hih4
  -- the loop to a coprime h
  refine WSs_cons (while_h ga rfl hk3 hk16 hh1 hhk hkh hik5 hih5 (by omega) fun h H hh1 hhk hg hik hih => ?_)
  -- pairs
  refine WSs_cons ?_
  repeat walk_at "m_e"
  refine WE_cell (.tail _ (.head _)) hih (by nofun) rfl (by decide) ?_
  repeat walk_at "m_e"
  refine WE_cell (.head _) hik (by nofun) rfl (by decide) ?_
  repeat walk_at "m_e"
  refine WSs_cons (while_p ga rfl hget_new (.cons (hget_old hget_new) .nil) (by omega) (hget_old (hget_old hik)) (hget_old (hget_old hih)) (by omega) fun H l hpr hl hip hik hih => ?_)
  -- value
  refine WSs_cons ?_
  repeat walk_at "m_e"
  have p0 : H <+: H ++ [MO.list []] ++ [MO.tup [.bool false, .ref H.length]] ++ [MO.list [.int 1]] ++ [MO.tup [.ref (H ++ [MO.list []]).length, .ref (H ++ [MO.list []] ++ [MO.tup [.bool false, .ref H.length]]).length]] := by walk_at "m_pre"
  refine WSs_cons (for_v (v := ((false, []), [1])) ga rfl hkh (by omega) hw8 (hget_pre p0 hip) (hpr.mono fun _ _ h => hget_pre p0 h) hl (fun p hp => chain_ok (by omega) hhk hk16 p ((List.dropLast_sublist _).subset hp)) ⟨_, _, hget_new, ⟨H.length, hget_old (hget_old hget_new), hget_old (hget_old (hget_old hget_new))⟩, hget_old hget_new⟩
    (hget_pre p0 hik) (hget_pre p0 hih) hn (plain w k h hw3 hw8 hk3 hk16 hh1 hhk hg) fun v2 v3 v4 H' => ?_)
  refine WSs_cons ?_
  repeat walk_at "m_e"
  exact q _
end
/-! the plain law -/
def canonO (w h k : Nat) : Option RN := if h = 0 then some ((false, []), [1]) else least w (teeth h k) (4 * k * k)
def stepOK (w h k : Nat) : Bool := match canonO w (k % h) h with
  | none => false
  | some v => match lawStep w h k v with
    | none => false
    | some v' => decide (canonO w h k = some v')
def tabK (w k : Nat) : Bool := (List.range k).all fun h => if h ≠ 0 ∧ Nat.gcd h k = 1 then stepOK w h k else true
def tableOK (w : Nat) : Bool := (List.range 17).all fun k => (List.range k).all fun h => if h ≠ 0 ∧ Nat.gcd h k = 1 then stepOK w h k else true
theorem tab {w : Nat} (h1 : (List.range 11).all (tabK w) = true) (h2 : tabK w 11 = true) (h3 : tabK w 12 = true) (h4 : tabK w 13 = true) (h5 : tabK w 14 = true) (h6 : tabK w 15 = true) (h7 : tabK w 16 = true) : tableOK w = true := by
  show (List.range 17).all (tabK w) = true
  rw [show List.range 17 = List.range 11 ++ [11, 12, 13, 14, 15, 16] by decide, List.all_append, h1]
  simp only [List.all_cons, List.all_nil, h2, h3, h4, h5, h6, h7, Bool.and_true]
set_option maxRecDepth 1000000
theorem table3 : tableOK 3 = true := tab (by decide +kernel) (by decide +kernel) (by decide +kernel) (by decide +kernel) (by decide +kernel) (by decide +kernel) (by decide +kernel)
theorem table4 : tableOK 4 = true := tab (by decide +kernel) (by decide +kernel) (by decide +kernel) (by decide +kernel) (by decide +kernel) (by decide +kernel) (by decide +kernel)
theorem table5 : tableOK 5 = true := tab (by decide +kernel) (by decide +kernel) (by decide +kernel) (by decide +kernel) (by decide +kernel) (by decide +kernel) (by decide +kernel)
theorem table6 : tableOK 6 = true := tab (by decide +kernel) (by decide +kernel) (by decide +kernel) (by decide +kernel) (by decide +kernel) (by decide +kernel) (by decide +kernel)
theorem table7 : tableOK 7 = true := tab (by decide +kernel) (by decide +kernel) (by decide +kernel) (by decide +kernel) (by decide +kernel) (by decide +kernel) (by decide +kernel)
theorem table8 : tableOK 8 = true := tab (by decide +kernel) (by decide +kernel) (by decide +kernel) (by decide +kernel) (by decide +kernel) (by decide +kernel) (by decide +kernel)
theorem table {w : Nat} (h3 : 3 ≤ w) (h8 : w ≤ 8) : tableOK w = true := by
  match w, h3, h8 with
  | 3, _, _ => exact table3
  | 4, _, _ => exact table4
  | 5, _, _ => exact table5
  | 6, _, _ => exact table6
  | 7, _, _ => exact table7
  | 8, _, _ => exact table8
  | (n + 9), _, h => omega
theorem step_ok {w h k : Nat} (h3 : 3 ≤ w) (h8 : w ≤ 8) (hh : h ≠ 0) (hk : h < k) (hk16 : k ≤ 16) (hg : Nat.gcd h k = 1) : stepOK w h k = true := by
  have ht := table h3 h8
  simp only [tableOK, List.all_eq_true, List.mem_range] at ht
  have := ht k (by omega) h hk
  rwa [if_pos ⟨hh, hg⟩] at this
def runV (w : Nat) : List (Nat × Nat) → RN → Option RN
  | [], v => some v
  | (h, k) :: r, v => bnd (lawStep w h k v) (runV w r)
theorem runV_append {w : Nat} : ∀ {l1 l2 : List (Nat × Nat)} {v : RN}, runV w (l1 ++ l2) v = bnd (runV w l1 v) (runV w l2)
  | [], l2, v => rfl
  | (h, k) :: l1, l2, v => by
    show bnd (lawStep w h k v) (runV w (l1 ++ l2)) = bnd (bnd (lawStep w h k v) (runV w l1)) (runV w l2)
    cases lawStep w h k v with
    | none => rfl
    | some v' => exact runV_append
theorem loop_run {w : Nat} : ∀ {l : List (Nat × Nat)} {v r : RN}, runV w l v = some r → loopV w l v = true
  | [], v, r, _ => rfl
  | (h, k) :: l, v, r, e => by
    rw [loopV]
    have e' : bnd (lawStep w h k v) (runV w l) = some r := e
    obtain ⟨v', e1, e2⟩ := bnd_some e'
    rw [e1]
    exact loop_run e2
theorem chain_run {w : Nat} (h3 : 3 ≤ w) (h8 : w ≤ 8) : ∀ {f a b : Nat}, a < f → a < b → b ≤ 16 → Nat.gcd a b = 1 → ∃ r, canonO w a b = some r ∧ runV w (chain f a b).dropLast.reverse ((false, []), [1]) = some r
  | 0, _, _, h, _, _, _ => absurd h (Nat.not_lt_zero _)
  | f + 1, a, b, h, hab, hb, hg => by
    rw [chain]
    by_cases ha : a = 0
    · rw [if_pos ha]
      exact ⟨_, by rw [canonO, if_pos ha], rfl⟩
    · rw [if_neg ha]
      have hlt := Nat.mod_lt b (show a > 0 by omega)
      have hg' : Nat.gcd (b % a) a = 1 := by rw [← Nat.gcd_rec]; exact hg
      obtain ⟨r, e1, e2⟩ := chain_run h3 h8 (f := f) (by omega) hlt (by omega) hg'
      have hs := step_ok h3 h8 ha hab hb hg
      rw [stepOK, e1] at hs
      simp only [] at hs
      cases e3 : lawStep w a b r with
      | none => rw [e3] at hs; cases hs
      | some v' =>
        rw [e3] at hs
        refine ⟨v', of_decide_eq_true hs, ?_⟩
        have hne : chain f (b % a) a ≠ [] := by
          obtain ⟨f, rfl⟩ : ∃ g, f = g + 1 := ⟨f - 1, by omega⟩
          rw [chain]
          split <;> simp
        rw [List.dropLast_cons_of_ne_nil hne, List.reverse_cons, runV_append, e2]
        show bnd (lawStep w a b r) (runV w []) = _
        rw [e3]
        rfl
theorem plain_law : ∀ w k h, 3 ≤ w → w ≤ 8 → 3 ≤ k → k ≤ 16 → 1 ≤ h → h < k → Nat.gcd h k = 1 → loopV w (chain 17 h k).dropLast.reverse ((false, []), [1]) = true := by
  intro w k h h3 h8 _ hk _ hhk hg
  obtain ⟨r, _, e⟩ := chain_run h3 h8 (f := 17) (by omega) hhk hk hg
  exact loop_run e
section
variable {G : Gx} {cs : Scope} {xs : List Str} {cx : List (Str × Nat)} {n : Nat} {Q : MV → List MO → Prop} {σ : List MV} {H : List MO} {pos p tp : Pos}
theorem compL_at {cs' : Scope} {x : Str} {px : Pos} {cx' : List (Str × Nat)} {iter elt : Expr} {ifs : List Expr} {scope : Scope} (co : CpOk cs scope cs' x cx cx') {d : Fd} {A : Around} {E : Value → Shared → Prop} {s : Shared} {fz news : List (Addr × Obj)} (ok : FnOk cs xs) (hd : d.cs = cs) (ha : AOk n d A) (R : Rl G xs cx d fz news σ H s.heap)
    (h : wpAny (model G.prog G.w) A (eval iter d.env) (EP G xs cx d fz s news σ VR (fun v H1 => ∃ j l, v = .ref j ∧ H1[j]? = some (.list l) ∧ WCp G cs' x cx' ifs elt H1 (fun ys => Q (.ref H1.length) (H1 ++ [.list ys])) l [])) E s)
    (hf : ∀ env v, foldedSetIterable iter env v = pure v := by intro _ _; rfl) :
    wpAny (model G.prog G.w) A (eval (.ListComp elt [⟨.Name x px, iter, ifs, 0⟩] scope pos) d.env) (EP G xs cx d fz s news σ VR Q) E s := by
  obtain ⟨cl', hcl1, hcl2⟩ := co.clos d.env hd fun y i hy => by
    obtain ⟨c, e1, _⟩ := R.cells y i hy
    exact ⟨c, e1⟩
  rw [eval_ListComp]
  refine wpAny_comprehension_free (use := none) rfl (hf _) hcl1 co.kind co.names ?_
  refine ep_mono h fun v H1 n1 u s1 R1 g1 vv h1 => ?_
  obtain ⟨j, l, rfl, hj, hW⟩ := h1
  obtain ⟨a, vs, c, rfl, e1, e2, e3, e4⟩ := R1.list_ hj vv
  refine wpAny_pyIter_list e3 ?_
  have fresh : s1.heap.get? s1.heap.objs.size = Option.none := by
    cases e : s1.heap.get? s1.heap.objs.size with
    | none => rfl
    | some o' => exact absurd (Heap.lt_size e) (Nat.lt_irrefl _)
  have hI : (s1.heap.push { cls := .type "list_iterator", data := .fields #[.ref a, .int 0 0] }).get? s1.heap.objs.size = some { cls := .type "list_iterator", data := .fields #[.ref a, .int 0 0] } := Heap.get?_push_size _ rfl
  have R2 := R1.freeze (Up.push _ _) fresh hI
  have hne : a ≠ s1.heap.objs.size := Nat.ne_of_lt (Heap.lt_size e2)
  generalize s1.heap.objs.size = I at R2 hI hne ⊢
  refine comp_block (s0 := s) (news0 := news) (s := { s1 with heap := _ }) co hd ok ha (St := fun i h => h.IsListIter I a i) hcl2 (fun i h h' q e => ?_)
      (fun d' fz i v s' n' o σ' ys P E hv hst R' pre hP => ?_) (fun d' fz s' n' o σ' ys P E hst R' pre hP => ?_) (fun d' fz s' n' o σ' ys P E hst R' pre hP => ?_) ⟨_, hI, rfl, rfl⟩ R2 ⟨g1.gens, g1.drawn, g1.os, g1.pre⟩ hW
  · obtain ⟨o, q1, q2⟩ := q
    exact ⟨o, e ▸ q1, q2⟩
  · obtain ⟨a', vs', c', ea, f1, f2, f3, f4⟩ := R'.list_ (hget_old hj) (vv.mono pre)
    cases ea
    obtain ⟨b, hb, vb⟩ := f4.get hv
    refine wpAny_pyNext_list_item hst f3 (by rw [List.getElem?_toArray]; exact hb) fun h' hit' hs => ?_
    obtain ⟨oI, hoI, _⟩ := id hit'
    exact hP b h' s'.toks oI vb hit' hoI fun b y hb e => hs.extBut b y hb e
  · obtain ⟨a', vs', c', ea, f1, f2, f3, f4⟩ := R'.list_ (hget_old hj) (vv.mono pre)
    cases ea
    exact wpAny_pyNext_list_end ha.hh hst f3 (by rw [List.getElem?_toArray]; exact List.getElem?_eq_none (by rw [← f4.length]; exact Nat.le_refl _)) fun h' he => hP h' s'.toks fun b y hb e => he b y hb e
  · obtain ⟨a', vs', c', ea, f1, f2, f3, f4⟩ := R'.list_ (hget_old hj) (vv.mono pre)
    cases ea
    exact (Walks.list (prog := G.prog) (w := G.w) ha.hh I a hne vs'.toArray).self 0 s' P E ⟨hst, f3⟩ hP
end
def toothScope : Scope := { kind := .function, names := [(Str.ofString ".0", .local), (Str.ofString "tooth", .local), (Str.ofString "abs", .globalImplicit), (Str.ofString "int", .globalImplicit)], isGenerator := false, isCoroutine := false, more := [] }
theorem cp_tooth {cx : List (Str × Nat)} : CpOk (dr 40).scope toothScope (relabel toothScope (env0 (dr 40).scope)) (Str.ofString "tooth") cx [] where
  cell := by decide +kernel
  kind := rfl
  names := by decide +kernel
  lab := fun env he => relabel_env he
  ok := ⟨rfl, by simp, fun y hy => by rw [List.mem_singleton.mp hy]; exact ⟨rfl, by decide⟩⟩
  sub := fun y i hy => by cases hy
  clos := fun env he hc => ⟨[], closureFor_none (by decide +kernel), fun y i hy => by cases hy⟩
theorem law_top {G : Gx} (ga : GAll G) {A : Around} {E : Value → Shared → Prop} {h0 : Heap} {s : Shared} {L a : Addr} {fu : Addr} {cd : Value} {m : Str → Option Value} {o1 o2 : Obj} {vs : List Value} {ns : List Int}
    (B : Below callerA h0 [] h0) (T : Top G.p G.loose G.mean G.mg G.mb h0) (F : Fr h0 L s.heap m) (N : News h0 L s.heap [(L + 2, o2), (L + 1, o1)]) (d1 : o1.data = .cell none) (d2 : o2.data = .cell none) (hA : A = callerA.deeper (envOfC (dr 40).name (dr 40).scope L fu cd))
    (hm : m (Str.ofString "script") = some (.ref a)) (hl : h0.IsList a vs.toArray) (hI : IntsAre vs ns) (hz : ns.length ≤ 63) :
    wpAny (model G.prog G.w) A (execs (dr 40).body (envOfC (dr 40).name (dr 40).scope L fu cd)) (fun f s' => f = .ret (.bool true) ∧ (∃ m', Fr h0 L s'.heap m') ∧ s'.gens = s.gens ∧ s'.drawn = s.drawn ∧ s'.os = s.os) E s := by
  have go := ga.go
  let d : Fd := { A₀ := callerA, base := h0, outer := [], h₀ := h0, L := L, cs := (dr 40).scope, ccd := cd, cl := [(Str.ofString "h", L + 2), (Str.ofString "k", L + 1)], qu := (dr 40).name ++ ".<locals>.", fu := some fu, fm := some L }
  have ok : FnOk (dr 40).scope lxs := ⟨rfl, by decide +kernel, by decide +kernel⟩
  have ha : AOk 20 d A := by
    subst hA
    exact ⟨rfl, fun _ => ⟨rfl, rfl⟩, by show callerA.depth + 1 + 20 ≤ 900; decide, by show callerA.units + 3 + 10 * 20 ≤ 9800; decide⟩
  have R : Rl G lxs (lcx 1 0) d [] [(L + 2, o2), (L + 1, o1)] [.unb, .unb, .unb, .unb, .unb] [.cell .unb, .cell .unb] s.heap := by
    refine ⟨B, T, ⟨m, F, fun x v sv hv => ?_⟩, N, .cons ⟨_, d2, .inl rfl⟩ (.cons ⟨_, d1, .inl rfl⟩ .nil), ?_, fun x i hx => ?_⟩
    · exfalso
      rcases sv with _ | ⟨_ | ⟨_ | ⟨_ | ⟨_ | sv⟩⟩⟩⟩ <;> first | exact hv rfl | cases sv
    · show [L + 2, L + 1].Nodup
      simp
    · rcases List.mem_cons.mp hx with e | hx
      · cases e; exact ⟨L + 1, rfl, rfl⟩
      · rcases List.mem_cons.mp hx with e | hx
        · cases e; exact ⟨L + 2, rfl, rfl⟩
        · cases hx
  show wpAny (model G.prog G.w) A (execs (dr 40).body d.env) _ E s
  refine wpAny_execs_cons (wpAny_Assign_Name (wpAny_List (args_cons (wpAny_Constant_int ?_) ?he)) ?hs)
  case he => rfl
  case hs => rfl
  have R0 : Rl G lxs (lcx 1 0) d [] [(L + 2, o2), (L + 1, o1)] [.unb, .unb, .unb, .unb, .unb] [.cell .unb, .cell .unb] ({ s with toks := s.toks + 1 } : Shared).heap := R
  refine args_cons (ep_mono (compL_at (G := G) (n := 20) (s := { s with toks := s.toks + 1 }) (Q := fun v H1 => ∃ (L1 : List Int) (u : Nat), v = .ref u ∧ H1[u]? = some (.list (iL L1)) ∧ L1.length ≤ 1000 ∧ H1[1]? = some (.cell .unb) ∧ H1[0]? = some (.cell .unb)) cp_tooth ok rfl ha R0 ?iter) fun v2 H2 n2 u2 s2 R2 g2 vv2 h2 => args_nil ?_) ?he2
  case he2 => rfl
  case iter =>
    refine Subscript_ (wpAny_Name (wpAny_loadName_local (env := d.env) rfl rfl F.ns hm ?_) rfl)
    refine wpAny_Slice ?_
    refine wpAny_pure ?_
    show wpAny (model G.prog G.w) A (eval (.Constant (.int 3) 0 ⟨206, 54, 206, 55⟩) d.env) _ _ _
    refine wpAny_Constant_int ?_
    refine wpAny_pure ?_
    have e3 : s.heap.IsList a vs.toArray := by
      obtain ⟨o, q1, q2⟩ := hl
      exact ⟨o, F.keep _ _ q1, q2⟩
    have hp : Pick (iL ns) none (some 3) none ((iL ns).take 3) := slice_upto 3 rfl
    obtain ⟨us, e5, e6, e7⟩ := hp.ok (G := G) (ρ := ad [(L + 2, o2), (L + 1, o1)]) (are_ints hI)
    have R5 := R.up (Up.push s.heap { cls := .type "slice", data := .fields #[.none, .int 3 (s.toks + 1), .none] })
    have e3' := e3.push { cls := .type "slice", data := .fields #[.none, .int 3 (s.toks + 1), .none] }
    have hvl := hI.length
    refine tail_any (s := { s with heap := s.heap.push { cls := .type "slice", data := .fields #[.none, .int 3 (s.toks + 1), .none] }, toks := s.toks + 1 + 1 })
      (Heap.IsList.typeIs (s := { s with heap := s.heap.push { cls := .type "slice", data := .fields #[.none, .int 3 (s.toks + 1), .none] }, toks := s.toks + 1 + 1 }) e3') slot_list_getitem.lookup
      (wpAny_getItem_list_slice e3' (Heap.IsSliceOf.new ..) .none (.int 3 _) .none e7 ?_ ?_) rfl
    · rw [e5]
      have R6 := R5.push (mo := .list ((iL ns).take 3)) (o := { cls := .type "list", data := .seq us.toArray }) ⟨us, 0, rfl, VRs.mono (by simp [ad]) e6⟩
      refine ⟨_, _, _, R6, Gr.more _ _ _ _ _, vr_new R5 _ _, 2, _, rfl, rfl, ?_⟩
      refine WCp_map (fun v => match v with | .int j => .int (if j < 0 then -j else j) | _ => .none) (by simp; omega) (fun v hv ys => ?_) ?_
      · obtain ⟨j, hj, rfl⟩ := List.mem_map.mp (List.mem_of_mem_take hv)
        repeat walk_at "m_e"
        refine BC_int ?_
        repeat walk_at "m_e"
        exact BC_abs ⟨rfl, rfl⟩
      · have e : ([] : List MV) ++ ((iL ns).take 3).map (fun v => match v with | .int j => .int (if j < 0 then -j else j) | _ => .none) = iL ((ns.take 3).map fun j => if j < 0 then -j else j) := by
          simp [iL, ← List.map_take, List.map_map, Function.comp_def]
        rw [e]
        exact ⟨_, _, rfl, hget_new, by simp; omega, rfl, rfl⟩
    · rw [List.size_toArray, sizeLine_eq]; omega
  obtain ⟨L1, u, rfl, hu, hL1, hk1, hh1⟩ := h2
  refine ⟨by rw [sizeLine_eq]; simp, ?_⟩
  have R3 := R2.push (mo := .list [.int 0, .ref u]) (o := { cls := .type "list", data := .seq [Value.int 0 s.toks, u2].toArray }) ⟨[.int 0 s.toks, u2], 0, rfl, .cons (vr_int _ _) (.cons (vv2.mono (by simp [ad])) .nil)⟩
  refine store_ (s := { s2 with heap := _ }) ok rfl R3 .here (vr_new R2 _ _) fun h' tk R' => ?_
  have hul : u ≠ H2.length := fun e => by
    rw [e] at hu
    have := (List.getElem?_eq_some_iff.mp hu).1
    exact absurd this (Nat.lt_irrefl _)
  refine wpAny_mono (law_rest (Qr := fun v _ => v = .bool true) ga (L := L1) hget_new (hget_old hu) hul hL1 (by decide) (hget_old hk1) (hget_old hh1) (by decide) plain_law (fun _ => rfl) ok d A E { s2 with heap := h', toks := tk } [] _ rfl ha R') (fun f s' hf => ?_) fun _ _ e => e
  rcases hf with ⟨_, _, _, _, _, _, q⟩ | ⟨v, mv, σ', H', n', rfl, R4, g4, vv, rfl⟩
  · exact q.elim
  · obtain rfl := vv
    obtain ⟨m', F', _⟩ := R4.fr
    exact ⟨rfl, ⟨m', F'⟩, g4.gens.trans g2.gens, g4.drawn.trans g2.drawn, g4.os.trans g2.os⟩
end Mine
namespace Mine
abbrev PP : Program := PySem.Challenge.rw_xm0404_01.row.toRowW.prog
abbrev q0 : Pos := Pos.mk 0 0 0 0
def vw : Program := PySem.W.view PP [1,2,3,4,5,6,7,8,9,10,11,13,14,15,16,18,19,20,21,22,23,24,25,27,28,29,30,31,32,33,35,36,37,38,39,40]
def envT : Env := { scope := PP.main.scope, locals := mainNs, globals := mainNs, cells := [], code := Value.ref 13, frame := some 14 }
abbrev cd0 : Code := Code.body (behindTheImports PP) envT
noncomputable def o_43 : Params → Obj := fun _ => Obj.mk (Value.type "tuple") none (Data.seq #[]) #[]
noncomputable def o_44 : Params → Obj := fun _ => Obj.mk Value.none none (Data.fields #[]) #[]
noncomputable def o_45 : Params → Obj := fun _ => Obj.mk (Value.type "code") none (Data.fields #[Value.str (Str.ofString "<module>") 182, Value.str (Str.ofString "<module>") 183, Value.str (Str.ofString "/claim/cut.py") 184, Value.int 1 0, Value.int 0 0, Value.int 0 0, Value.int 0 0, Value.int 0 0, Value.ref 11, Value.bool false, Value.int 181 0, Value.ref 12, Value.none, Value.none, Value.none, Value.none, Value.int 185 0, Value.int 1 0, Value.str (Str.ofString "/claim/cut.py") 186]) #[]
noncomputable def o_46 : Params → Obj := fun _ => Obj.mk (Value.type "frame") none Data.plain #[some (Value.ref 13), some (Value.ref 3), some (Value.ref 3), none, some (Value.str (Str.ofString "__main__") 164), none, some (Value.ref 0)]
noncomputable def o_49 : Params → Obj := fun P => Obj.mk Value.none none (Data.dict #[DictEntry.mk (PyData.keyHash P (Str.ofString "type.__subclasses__.Exception.0")) (Value.str (Str.ofString "type.__subclasses__.Exception.0") 205) (Value.int 24 0), DictEntry.mk (PyData.keyHash P (Str.ofString "type.__subclasses__.Exception.n")) (Value.str (Str.ofString "type.__subclasses__.Exception.n") 206) (Value.int 1 0)] 2) #[]
noncomputable def o_52 : Params → Obj := fun _ => Obj.mk (Value.type "tuple") none (Data.seq #[Value.type "Exception"]) #[]
noncomputable def o_53 : Params → Obj := fun _ => Obj.mk (Value.type "builtin_function_or_method") none (Data.fields #[Value.builtin "type.__prepare__", Value.type "type"]) #[]
noncomputable def o_54 : Params → Obj := fun P => Obj.mk (Value.type "dict") none (Data.dict #[DictEntry.mk (PyData.keyHash P (Str.ofString "__module__")) (Value.str (Str.ofString "__module__") 196) (Value.str (Str.ofString "gmp.limbs") 187), DictEntry.mk (PyData.keyHash P (Str.ofString "__qualname__")) (Value.str (Str.ofString "__qualname__") 198) (Value.str (Str.ofString "GmpError") 197), DictEntry.mk (PyData.keyHash P (Str.ofString "__firstlineno__")) (Value.str (Str.ofString "__firstlineno__") 200) (Value.int 2 199), DictEntry.mk (PyData.keyHash P (Str.ofString "__static_attributes__")) (Value.str (Str.ofString "__static_attributes__") 201) (Value.ref 22)] 4) #[]
noncomputable def o_55 : Params → Obj := fun _ => Obj.mk (Value.type "tuple") none (Data.seq #[]) #[]
noncomputable def o_56 : Params → Obj := fun _ => Obj.mk Value.none none (Data.fields #[]) #[]
noncomputable def o_57 : Params → Obj := fun _ => Obj.mk (Value.type "code") none (Data.fields #[Value.str (Str.ofString "GmpError") 191, Value.str (Str.ofString "GmpError") 192, Value.str (Str.ofString "/claim/cut.py") 193, Value.int 2 0, Value.int 0 0, Value.int 0 0, Value.int 0 0, Value.int 0 0, Value.ref 18, Value.bool false, Value.int 181 0, Value.ref 19, Value.none, Value.none, Value.none, Value.none, Value.int 194 0, Value.int 2 0, Value.str (Str.ofString "/claim/cut.py") 195]) #[]
noncomputable def o_58 : Params → Obj := fun _ => Obj.mk (Value.type "frame") none Data.plain #[some (Value.ref 20), some (Value.ref 3), some (Value.ref 17), none, some (Value.str (Str.ofString "gmp.limbs") 187), none, some (Value.ref 0)]
noncomputable def o_59 : Params → Obj := fun _ => Obj.mk (Value.type "tuple") none (Data.seq #[]) #[]
noncomputable def o_60 : Params → Obj := fun P => Obj.mk (Value.type "dict") none (Data.dict #[DictEntry.mk (PyData.keyHash P (Str.ofString "__module__")) (Value.str (Str.ofString "__module__") 196) (Value.str (Str.ofString "gmp.limbs") 187), DictEntry.mk (PyData.keyHash P (Str.ofString "__firstlineno__")) (Value.str (Str.ofString "__firstlineno__") 200) (Value.int 2 199), DictEntry.mk (PyData.keyHash P (Str.ofString "__static_attributes__")) (Value.str (Str.ofString "__static_attributes__") 201) (Value.ref 22), DictEntry.mk (PyData.keyHash P (Str.ofString "__weakref__")) (Value.str (Str.ofString "__weakref__") 203) (Value.ref 25), DictEntry.mk (PyData.keyHash P (Str.ofString "__doc__")) (Value.str (Str.ofString "__doc__") 204) Value.none] 3) #[]
noncomputable def o_62 : Params → Obj := fun _ => Obj.mk (Value.type "getset_descriptor") none (Data.fields #[Value.str (Str.ofString "__weakref__") 202, Value.ref 24, Value.builtin "ExceptionGroup.__weakref__", Value.none]) #[]
noncomputable def o_63 : Params → Obj := fun _ => Obj.mk (Value.type "super") none (Data.fields #[Value.ref 24, Value.ref 24, Value.ref 24]) #[]
noncomputable def o_64 : Params → Obj := fun _ => Obj.mk (Value.type "builtin_function_or_method") none (Data.fields #[Value.builtin "object.__init_subclass__", Value.ref 24]) #[]
noncomputable def o_68 : Params → Obj := fun _ => Obj.mk (Value.type "tuple") none (Data.seq #[Value.ref 24]) #[]
noncomputable def o_69 : Params → Obj := fun _ => Obj.mk (Value.type "builtin_function_or_method") none (Data.fields #[Value.builtin "type.__prepare__", Value.type "type"]) #[]
noncomputable def o_70 : Params → Obj := fun P => Obj.mk (Value.type "dict") none (Data.dict #[DictEntry.mk (PyData.keyHash P (Str.ofString "__module__")) (Value.str (Str.ofString "__module__") 216) (Value.str (Str.ofString "gmp.limbs") 187), DictEntry.mk (PyData.keyHash P (Str.ofString "__qualname__")) (Value.str (Str.ofString "__qualname__") 218) (Value.str (Str.ofString "DivisionByZero") 217), DictEntry.mk (PyData.keyHash P (Str.ofString "__firstlineno__")) (Value.str (Str.ofString "__firstlineno__") 220) (Value.int 4 219), DictEntry.mk (PyData.keyHash P (Str.ofString "__static_attributes__")) (Value.str (Str.ofString "__static_attributes__") 221) (Value.ref 35)] 4) #[]
noncomputable def o_71 : Params → Obj := fun _ => Obj.mk (Value.type "tuple") none (Data.seq #[]) #[]
noncomputable def o_72 : Params → Obj := fun _ => Obj.mk Value.none none (Data.fields #[]) #[]
noncomputable def o_73 : Params → Obj := fun _ => Obj.mk (Value.type "code") none (Data.fields #[Value.str (Str.ofString "DivisionByZero") 211, Value.str (Str.ofString "DivisionByZero") 212, Value.str (Str.ofString "/claim/cut.py") 213, Value.int 4 0, Value.int 0 0, Value.int 0 0, Value.int 0 0, Value.int 0 0, Value.ref 31, Value.bool false, Value.int 181 0, Value.ref 32, Value.none, Value.none, Value.none, Value.none, Value.int 214 0, Value.int 4 0, Value.str (Str.ofString "/claim/cut.py") 215]) #[]
noncomputable def o_74 : Params → Obj := fun _ => Obj.mk (Value.type "frame") none Data.plain #[some (Value.ref 33), some (Value.ref 3), some (Value.ref 30), none, some (Value.str (Str.ofString "gmp.limbs") 187), none, some (Value.ref 0)]
noncomputable def o_75 : Params → Obj := fun _ => Obj.mk (Value.type "tuple") none (Data.seq #[]) #[]
noncomputable def o_76 : Params → Obj := fun P => Obj.mk (Value.type "dict") none (Data.dict #[DictEntry.mk (PyData.keyHash P (Str.ofString "__module__")) (Value.str (Str.ofString "__module__") 216) (Value.str (Str.ofString "gmp.limbs") 187), DictEntry.mk (PyData.keyHash P (Str.ofString "__firstlineno__")) (Value.str (Str.ofString "__firstlineno__") 220) (Value.int 4 219), DictEntry.mk (PyData.keyHash P (Str.ofString "__static_attributes__")) (Value.str (Str.ofString "__static_attributes__") 221) (Value.ref 35), DictEntry.mk (PyData.keyHash P (Str.ofString "__doc__")) (Value.str (Str.ofString "__doc__") 222) Value.none] 2) #[]
noncomputable def o_77 : Params → Obj := fun _ => Obj.mk (Value.type "type") none (Data.cls (ClassData.mk (Str.ofString "DivisionByZero") [Value.ref 24] [Value.ref 37, Value.ref 24, Value.type "Exception", Value.type "BaseException", Value.type "object"] 36 (Str.ofString "DivisionByZero") true [] [] false none false)) #[some (Value.ref 28), none, some (Value.str (Str.ofString "DivisionByZero") 209), some (Value.str (Str.ofString "DivisionByZero") 217), some (Value.builtin "Exception.__new__"), some (Value.bool true)]
noncomputable def o_78 : Params → Obj := fun _ => Obj.mk (Value.type "super") none (Data.fields #[Value.ref 37, Value.ref 37, Value.ref 37]) #[]
noncomputable def o_79 : Params → Obj := fun _ => Obj.mk (Value.type "builtin_function_or_method") none (Data.fields #[Value.builtin "object.__init_subclass__", Value.ref 37]) #[]
noncomputable def o_80 : Params → Obj := fun P => Obj.mk (Value.type "dict") none (Data.dict #[DictEntry.mk (PyData.keyHash P (Str.ofString "__name__")) (Value.str (Str.ofString "__name__") 165) (Value.str (Str.ofString "gmp.limbs") 187), DictEntry.mk (PyData.keyHash P (Str.ofString "__doc__")) (Value.str (Str.ofString "__doc__") 166) Value.none, DictEntry.mk (PyData.keyHash P (Str.ofString "__package__")) (Value.str (Str.ofString "__package__") 167) Value.none, DictEntry.mk (PyData.keyHash P (Str.ofString "__loader__")) (Value.str (Str.ofString "__loader__") 168) (Value.builtin "__main__.__loader__#opaque"), DictEntry.mk (PyData.keyHash P (Str.ofString "__spec__")) (Value.str (Str.ofString "__spec__") 169) Value.none, DictEntry.mk (PyData.keyHash P (Str.ofString "__annotations__")) (Value.str (Str.ofString "__annotations__") 170) (Value.ref 6), DictEntry.mk (PyData.keyHash P (Str.ofString "__builtins__")) (Value.str (Str.ofString "__builtins__") 171) (Value.ref 4), DictEntry.mk (PyData.keyHash P (Str.ofString "__file__")) (Value.str (Str.ofString "__file__") 173) (Value.str (Str.ofString "/claim/cut.py") 172), DictEntry.mk (PyData.keyHash P (Str.ofString "__cached__")) (Value.str (Str.ofString "__cached__") 174) Value.none, DictEntry.mk (PyData.keyHash P (Str.ofString "GmpError")) (Value.str (Str.ofString "GmpError") 208) (Value.ref 24), DictEntry.mk (PyData.keyHash P (Str.ofString "DivisionByZero")) (Value.str (Str.ofString "DivisionByZero") 224) (Value.ref 37), DictEntry.mk (PyData.keyHash P (Str.ofString "OutOfRange")) (Value.str (Str.ofString "OutOfRange") 240) (Value.ref 49), DictEntry.mk (PyData.keyHash P (Str.ofString "normal")) (Value.str (Str.ofString "normal") 248) (Value.ref 58), DictEntry.mk (PyData.keyHash P (Str.ofString "compare")) (Value.str (Str.ofString "compare") 257) (Value.ref 65), DictEntry.mk (PyData.keyHash P (Str.ofString "add")) (Value.str (Str.ofString "add") 270) (Value.ref 72), DictEntry.mk (PyData.keyHash P (Str.ofString "sub")) (Value.str (Str.ofString "sub") 284) (Value.ref 79), DictEntry.mk (PyData.keyHash P (Str.ofString "divrem_limb")) (Value.str (Str.ofString "divrem_limb") 296) (Value.ref 86)] 17) #[]
noncomputable def o_81 : Params → Obj := fun _ => Obj.mk Value.none none (Data.fields #[Value.int 2 0, Value.int 0 0, Value.ref 20, Value.int 4 0, Value.int 0 0, Value.ref 33, Value.int 6 0, Value.int 0 0, Value.ref 45, Value.int 8 0, Value.int 0 0, Value.ref 57, Value.int 13 0, Value.int 0 0, Value.ref 64, Value.int 20 0, Value.int 0 0, Value.ref 71, Value.int 35 0, Value.int 0 0, Value.ref 78, Value.int 44 0, Value.int 0 0, Value.ref 85]) #[]
noncomputable def o_82 : Params → Obj := fun _ => Obj.mk (Value.type "type") none (Data.cls (ClassData.mk (Str.ofString "GmpError") [Value.type "Exception"] [Value.ref 24, Value.type "Exception", Value.type "BaseException", Value.type "object"] 23 (Str.ofString "GmpError") true [] [Value.ref 37, Value.ref 49] false none false)) #[some (Value.ref 15), none, some (Value.str (Str.ofString "GmpError") 189), some (Value.str (Str.ofString "GmpError") 197), some (Value.builtin "Exception.__new__"), some (Value.bool true)]
noncomputable def o_83 : Params → Obj := fun _ => Obj.mk (Value.type "tuple") none (Data.seq #[Value.ref 24]) #[]
noncomputable def o_84 : Params → Obj := fun _ => Obj.mk (Value.type "builtin_function_or_method") none (Data.fields #[Value.builtin "type.__prepare__", Value.type "type"]) #[]
noncomputable def o_85 : Params → Obj := fun P => Obj.mk (Value.type "dict") none (Data.dict #[DictEntry.mk (PyData.keyHash P (Str.ofString "__module__")) (Value.str (Str.ofString "__module__") 232) (Value.str (Str.ofString "gmp.limbs") 187), DictEntry.mk (PyData.keyHash P (Str.ofString "__qualname__")) (Value.str (Str.ofString "__qualname__") 234) (Value.str (Str.ofString "OutOfRange") 233), DictEntry.mk (PyData.keyHash P (Str.ofString "__firstlineno__")) (Value.str (Str.ofString "__firstlineno__") 236) (Value.int 6 235), DictEntry.mk (PyData.keyHash P (Str.ofString "__static_attributes__")) (Value.str (Str.ofString "__static_attributes__") 237) (Value.ref 47)] 4) #[]
noncomputable def o_86 : Params → Obj := fun _ => Obj.mk (Value.type "tuple") none (Data.seq #[]) #[]
noncomputable def o_87 : Params → Obj := fun _ => Obj.mk Value.none none (Data.fields #[]) #[]
noncomputable def o_88 : Params → Obj := fun _ => Obj.mk (Value.type "code") none (Data.fields #[Value.str (Str.ofString "OutOfRange") 227, Value.str (Str.ofString "OutOfRange") 228, Value.str (Str.ofString "/claim/cut.py") 229, Value.int 6 0, Value.int 0 0, Value.int 0 0, Value.int 0 0, Value.int 0 0, Value.ref 43, Value.bool false, Value.int 181 0, Value.ref 44, Value.none, Value.none, Value.none, Value.none, Value.int 230 0, Value.int 6 0, Value.str (Str.ofString "/claim/cut.py") 231]) #[]
noncomputable def o_89 : Params → Obj := fun _ => Obj.mk (Value.type "frame") none Data.plain #[some (Value.ref 45), some (Value.ref 3), some (Value.ref 42), none, some (Value.str (Str.ofString "gmp.limbs") 187), none, some (Value.ref 0)]
noncomputable def o_90 : Params → Obj := fun _ => Obj.mk (Value.type "tuple") none (Data.seq #[]) #[]
noncomputable def o_91 : Params → Obj := fun P => Obj.mk (Value.type "dict") none (Data.dict #[DictEntry.mk (PyData.keyHash P (Str.ofString "__module__")) (Value.str (Str.ofString "__module__") 232) (Value.str (Str.ofString "gmp.limbs") 187), DictEntry.mk (PyData.keyHash P (Str.ofString "__firstlineno__")) (Value.str (Str.ofString "__firstlineno__") 236) (Value.int 6 235), DictEntry.mk (PyData.keyHash P (Str.ofString "__static_attributes__")) (Value.str (Str.ofString "__static_attributes__") 237) (Value.ref 47), DictEntry.mk (PyData.keyHash P (Str.ofString "__doc__")) (Value.str (Str.ofString "__doc__") 238) Value.none] 2) #[]
noncomputable def o_92 : Params → Obj := fun _ => Obj.mk (Value.type "type") none (Data.cls (ClassData.mk (Str.ofString "OutOfRange") [Value.ref 24] [Value.ref 49, Value.ref 24, Value.type "Exception", Value.type "BaseException", Value.type "object"] 48 (Str.ofString "OutOfRange") true [] [] false none false)) #[some (Value.ref 40), none, some (Value.str (Str.ofString "OutOfRange") 225), some (Value.str (Str.ofString "OutOfRange") 233), some (Value.builtin "Exception.__new__"), some (Value.bool true)]
noncomputable def o_93 : Params → Obj := fun _ => Obj.mk (Value.type "super") none (Data.fields #[Value.ref 49, Value.ref 49, Value.ref 49]) #[]
noncomputable def o_94 : Params → Obj := fun _ => Obj.mk (Value.type "builtin_function_or_method") none (Data.fields #[Value.builtin "object.__init_subclass__", Value.ref 49]) #[]
noncomputable def o_95 : Params → Obj := fun _ => Obj.mk (Value.type "tuple") none (Data.seq #[]) #[]
noncomputable def o_96 : Params → Obj := fun _ => Obj.mk Value.none none (Data.fields #[]) #[]
noncomputable def o_97 : Params → Obj := fun _ => Obj.mk (Value.type "tuple") none (Data.seq #[Value.str (Str.ofString "a") 244, Value.str (Str.ofString "end") 245]) #[]
noncomputable def o_98 : Params → Obj := fun _ => Obj.mk (Value.type "tuple") none (Data.seq #[]) #[]
noncomputable def o_99 : Params → Obj := fun _ => Obj.mk Value.none none (Data.func (FuncData.mk (Str.ofString "normal") (Str.ofString "normal") (dr 4).params (FuncBody.stmts (dr 4).body) (dr 4).scope 0 [] Value.none Value.none Value.none Value.none none Value.none Value.none 0)) #[]
noncomputable def o_100 : Params → Obj := fun _ => Obj.mk (Value.type "code") none (Data.fields #[Value.str (Str.ofString "normal") 241, Value.str (Str.ofString "normal") 242, Value.str (Str.ofString "/claim/cut.py") 243, Value.int 8 0, Value.int 1 0, Value.int 0 0, Value.int 0 0, Value.int 3 0, Value.ref 52, Value.bool true, Value.int 181 0, Value.ref 53, Value.none, Value.ref 54, Value.ref 55, Value.ref 56, Value.int 246 0, Value.int 8 0, Value.str (Str.ofString "/claim/cut.py") 247]) #[]
noncomputable def o_101 : Params → Obj := fun _ => Obj.mk (Value.type "function") none (Data.func (FuncData.mk (Str.ofString "normal") (Str.ofString "normal") (dr 4).params (FuncBody.stmts (dr 4).body) (dr 4).scope 3 [] Value.none Value.none Value.none (Value.str (Str.ofString "gmp.limbs") 187) none (Value.ref 57) Value.none 0)) #[]
noncomputable def o_102 : Params → Obj := fun _ => Obj.mk (Value.type "tuple") none (Data.seq #[]) #[]
noncomputable def o_103 : Params → Obj := fun _ => Obj.mk Value.none none (Data.fields #[]) #[]
noncomputable def o_104 : Params → Obj := fun _ => Obj.mk (Value.type "tuple") none (Data.seq #[Value.str (Str.ofString "a") 252, Value.str (Str.ofString "b") 253, Value.str (Str.ofString "at") 254]) #[]
noncomputable def o_105 : Params → Obj := fun _ => Obj.mk (Value.type "tuple") none (Data.seq #[]) #[]
noncomputable def o_106 : Params → Obj := fun _ => Obj.mk Value.none none (Data.func (FuncData.mk (Str.ofString "compare") (Str.ofString "compare") (dr 5).params (FuncBody.stmts (dr 5).body) (dr 5).scope 0 [] Value.none Value.none Value.none Value.none none Value.none Value.none 0)) #[]
noncomputable def o_107 : Params → Obj := fun _ => Obj.mk (Value.type "code") none (Data.fields #[Value.str (Str.ofString "compare") 249, Value.str (Str.ofString "compare") 250, Value.str (Str.ofString "/claim/cut.py") 251, Value.int 13 0, Value.int 2 0, Value.int 0 0, Value.int 0 0, Value.int 3 0, Value.ref 59, Value.bool true, Value.int 181 0, Value.ref 60, Value.none, Value.ref 61, Value.ref 62, Value.ref 63, Value.int 255 0, Value.int 13 0, Value.str (Str.ofString "/claim/cut.py") 256]) #[]
noncomputable def o_108 : Params → Obj := fun _ => Obj.mk (Value.type "function") none (Data.func (FuncData.mk (Str.ofString "compare") (Str.ofString "compare") (dr 5).params (FuncBody.stmts (dr 5).body) (dr 5).scope 3 [] Value.none Value.none Value.none (Value.str (Str.ofString "gmp.limbs") 187) none (Value.ref 64) Value.none 0)) #[]
noncomputable def o_109 : Params → Obj := fun _ => Obj.mk (Value.type "tuple") none (Data.seq #[]) #[]
noncomputable def o_110 : Params → Obj := fun _ => Obj.mk Value.none none (Data.fields #[]) #[]
noncomputable def o_111 : Params → Obj := fun _ => Obj.mk (Value.type "tuple") none (Data.seq #[Value.str (Str.ofString "a") 261, Value.str (Str.ofString "b") 262, Value.str (Str.ofString "w") 263, Value.str (Str.ofString "found") 264, Value.str (Str.ofString "carry") 265, Value.str (Str.ofString "mask") 266, Value.str (Str.ofString "at") 267]) #[]
noncomputable def o_112 : Params → Obj := fun _ => Obj.mk (Value.type "tuple") none (Data.seq #[]) #[]
noncomputable def o_113 : Params → Obj := fun _ => Obj.mk Value.none none (Data.func (FuncData.mk (Str.ofString "add") (Str.ofString "add") (dr 6).params (FuncBody.stmts (dr 6).body) (dr 6).scope 0 [] Value.none Value.none Value.none Value.none none Value.none Value.none 0)) #[]
noncomputable def o_114 : Params → Obj := fun _ => Obj.mk (Value.type "code") none (Data.fields #[Value.str (Str.ofString "add") 258, Value.str (Str.ofString "add") 259, Value.str (Str.ofString "/claim/cut.py") 260, Value.int 20 0, Value.int 3 0, Value.int 0 0, Value.int 0 0, Value.int 3 0, Value.ref 66, Value.bool true, Value.int 181 0, Value.ref 67, Value.none, Value.ref 68, Value.ref 69, Value.ref 70, Value.int 268 0, Value.int 20 0, Value.str (Str.ofString "/claim/cut.py") 269]) #[]
noncomputable def o_115 : Params → Obj := fun _ => Obj.mk (Value.type "function") none (Data.func (FuncData.mk (Str.ofString "add") (Str.ofString "add") (dr 6).params (FuncBody.stmts (dr 6).body) (dr 6).scope 3 [] Value.none Value.none Value.none (Value.str (Str.ofString "gmp.limbs") 187) none (Value.ref 71) Value.none 0)) #[]
noncomputable def o_116 : Params → Obj := fun _ => Obj.mk (Value.type "tuple") none (Data.seq #[]) #[]
noncomputable def o_117 : Params → Obj := fun _ => Obj.mk Value.none none (Data.fields #[]) #[]
noncomputable def o_118 : Params → Obj := fun _ => Obj.mk (Value.type "tuple") none (Data.seq #[Value.str (Str.ofString "a") 274, Value.str (Str.ofString "b") 275, Value.str (Str.ofString "w") 276, Value.str (Str.ofString "found") 277, Value.str (Str.ofString "borrow") 278, Value.str (Str.ofString "base") 279, Value.str (Str.ofString "at") 280, Value.str (Str.ofString "limb") 281]) #[]
noncomputable def o_119 : Params → Obj := fun _ => Obj.mk (Value.type "tuple") none (Data.seq #[]) #[]
noncomputable def o_120 : Params → Obj := fun _ => Obj.mk Value.none none (Data.func (FuncData.mk (Str.ofString "sub") (Str.ofString "sub") (dr 7).params (FuncBody.stmts (dr 7).body) (dr 7).scope 0 [] Value.none Value.none Value.none Value.none none Value.none Value.none 0)) #[]
noncomputable def o_121 : Params → Obj := fun _ => Obj.mk (Value.type "code") none (Data.fields #[Value.str (Str.ofString "sub") 271, Value.str (Str.ofString "sub") 272, Value.str (Str.ofString "/claim/cut.py") 273, Value.int 35 0, Value.int 3 0, Value.int 0 0, Value.int 0 0, Value.int 3 0, Value.ref 73, Value.bool true, Value.int 181 0, Value.ref 74, Value.none, Value.ref 75, Value.ref 76, Value.ref 77, Value.int 282 0, Value.int 35 0, Value.str (Str.ofString "/claim/cut.py") 283]) #[]
noncomputable def o_122 : Params → Obj := fun _ => Obj.mk (Value.type "function") none (Data.func (FuncData.mk (Str.ofString "sub") (Str.ofString "sub") (dr 7).params (FuncBody.stmts (dr 7).body) (dr 7).scope 3 [] Value.none Value.none Value.none (Value.str (Str.ofString "gmp.limbs") 187) none (Value.ref 78) Value.none 0)) #[]
noncomputable def o_123 : Params → Obj := fun _ => Obj.mk (Value.type "tuple") none (Data.seq #[]) #[]
noncomputable def o_124 : Params → Obj := fun _ => Obj.mk Value.none none (Data.fields #[]) #[]
noncomputable def o_125 : Params → Obj := fun _ => Obj.mk (Value.type "tuple") none (Data.seq #[Value.str (Str.ofString "a") 288, Value.str (Str.ofString "limb") 289, Value.str (Str.ofString "w") 290, Value.str (Str.ofString "found") 291, Value.str (Str.ofString "rest") 292, Value.str (Str.ofString "at") 293]) #[]
noncomputable def o_126 : Params → Obj := fun _ => Obj.mk (Value.type "tuple") none (Data.seq #[]) #[]
noncomputable def o_127 : Params → Obj := fun _ => Obj.mk Value.none none (Data.func (FuncData.mk (Str.ofString "divrem_limb") (Str.ofString "divrem_limb") (dr 8).params (FuncBody.stmts (dr 8).body) (dr 8).scope 0 [] Value.none Value.none Value.none Value.none none Value.none Value.none 0)) #[]
noncomputable def o_128 : Params → Obj := fun _ => Obj.mk (Value.type "code") none (Data.fields #[Value.str (Str.ofString "divrem_limb") 285, Value.str (Str.ofString "divrem_limb") 286, Value.str (Str.ofString "/claim/cut.py") 287, Value.int 44 0, Value.int 3 0, Value.int 0 0, Value.int 0 0, Value.int 3 0, Value.ref 80, Value.bool true, Value.int 181 0, Value.ref 81, Value.none, Value.ref 82, Value.ref 83, Value.ref 84, Value.int 294 0, Value.int 44 0, Value.str (Str.ofString "/claim/cut.py") 295]) #[]
noncomputable def o_129 : Params → Obj := fun _ => Obj.mk (Value.type "function") none (Data.func (FuncData.mk (Str.ofString "divrem_limb") (Str.ofString "divrem_limb") (dr 8).params (FuncBody.stmts (dr 8).body) (dr 8).scope 3 [] Value.none Value.none Value.none (Value.str (Str.ofString "gmp.limbs") 187) none (Value.ref 85) Value.none 0)) #[]
noncomputable def o_132 : Params → Obj := fun _ => Obj.mk (Value.type "tuple") none (Data.seq #[]) #[]
noncomputable def o_133 : Params → Obj := fun _ => Obj.mk Value.none none (Data.fields #[]) #[]
noncomputable def o_134 : Params → Obj := fun _ => Obj.mk (Value.type "tuple") none (Data.seq #[Value.str (Str.ofString "a") 300, Value.str (Str.ofString "n") 301, Value.str (Str.ofString "w") 302, Value.str (Str.ofString "spots") 303, Value.str (Str.ofString "few") 304, Value.str (Str.ofString "found") 305, Value.str (Str.ofString "carry") 306, Value.str (Str.ofString "mask") 307, Value.str (Str.ofString "one") 308]) #[]
noncomputable def o_135 : Params → Obj := fun _ => Obj.mk (Value.type "tuple") none (Data.seq #[]) #[]
noncomputable def o_136 : Params → Obj := fun _ => Obj.mk Value.none none (Data.func (FuncData.mk (Str.ofString "shift_left") (Str.ofString "shift_left") (dr 9).params (FuncBody.stmts (dr 9).body) (dr 9).scope 0 [] Value.none Value.none Value.none Value.none none Value.none Value.none 0)) #[]
noncomputable def o_137 : Params → Obj := fun _ => Obj.mk (Value.type "code") none (Data.fields #[Value.str (Str.ofString "shift_left") 297, Value.str (Str.ofString "shift_left") 298, Value.str (Str.ofString "/claim/cut.py") 299, Value.int 53 0, Value.int 3 0, Value.int 0 0, Value.int 0 0, Value.int 3 0, Value.ref 87, Value.bool true, Value.int 181 0, Value.ref 88, Value.none, Value.ref 89, Value.ref 90, Value.ref 91, Value.int 309 0, Value.int 53 0, Value.str (Str.ofString "/claim/cut.py") 310]) #[]
noncomputable def o_138 : Params → Obj := fun _ => Obj.mk (Value.type "function") none (Data.func (FuncData.mk (Str.ofString "shift_left") (Str.ofString "shift_left") (dr 9).params (FuncBody.stmts (dr 9).body) (dr 9).scope 3 [] Value.none Value.none Value.none (Value.str (Str.ofString "gmp.limbs") 187) none (Value.ref 92) Value.none 0)) #[]
noncomputable def o_139 : Params → Obj := fun _ => Obj.mk (Value.type "tuple") none (Data.seq #[]) #[]
noncomputable def o_140 : Params → Obj := fun _ => Obj.mk Value.none none (Data.fields #[]) #[]
noncomputable def o_141 : Params → Obj := fun _ => Obj.mk (Value.type "tuple") none (Data.seq #[Value.str (Str.ofString "a") 315, Value.str (Str.ofString "n") 316, Value.str (Str.ofString "w") 317, Value.str (Str.ofString "spots") 318, Value.str (Str.ofString "few") 319, Value.str (Str.ofString "found") 320, Value.str (Str.ofString "mask") 321, Value.str (Str.ofString "at") 322, Value.str (Str.ofString "above") 323]) #[]
noncomputable def o_142 : Params → Obj := fun _ => Obj.mk (Value.type "tuple") none (Data.seq #[]) #[]
noncomputable def o_143 : Params → Obj := fun _ => Obj.mk Value.none none (Data.func (FuncData.mk (Str.ofString "shift_right") (Str.ofString "shift_right") (dr 10).params (FuncBody.stmts (dr 10).body) (dr 10).scope 0 [] Value.none Value.none Value.none Value.none none Value.none Value.none 0)) #[]
noncomputable def o_144 : Params → Obj := fun _ => Obj.mk (Value.type "code") none (Data.fields #[Value.str (Str.ofString "shift_right") 312, Value.str (Str.ofString "shift_right") 313, Value.str (Str.ofString "/claim/cut.py") 314, Value.int 65 0, Value.int 3 0, Value.int 0 0, Value.int 0 0, Value.int 3 0, Value.ref 94, Value.bool true, Value.int 181 0, Value.ref 95, Value.none, Value.ref 96, Value.ref 97, Value.ref 98, Value.int 324 0, Value.int 65 0, Value.str (Str.ofString "/claim/cut.py") 325]) #[]
noncomputable def o_145 : Params → Obj := fun _ => Obj.mk (Value.type "function") none (Data.func (FuncData.mk (Str.ofString "shift_right") (Str.ofString "shift_right") (dr 10).params (FuncBody.stmts (dr 10).body) (dr 10).scope 3 [] Value.none Value.none Value.none (Value.str (Str.ofString "gmp.limbs") 187) none (Value.ref 99) Value.none 0)) #[]
noncomputable def o_146 : Params → Obj := fun _ => Obj.mk (Value.type "tuple") none (Data.seq #[]) #[]
noncomputable def o_147 : Params → Obj := fun _ => Obj.mk Value.none none (Data.fields #[]) #[]
noncomputable def o_148 : Params → Obj := fun _ => Obj.mk (Value.type "tuple") none (Data.seq #[Value.str (Str.ofString "a") 330, Value.str (Str.ofString "w") 331]) #[]
noncomputable def o_149 : Params → Obj := fun _ => Obj.mk (Value.type "tuple") none (Data.seq #[]) #[]
noncomputable def o_150 : Params → Obj := fun _ => Obj.mk Value.none none (Data.func (FuncData.mk (Str.ofString "bits") (Str.ofString "bits") (dr 11).params (FuncBody.stmts (dr 11).body) (dr 11).scope 0 [] Value.none Value.none Value.none Value.none none Value.none Value.none 0)) #[]
noncomputable def o_151 : Params → Obj := fun _ => Obj.mk (Value.type "code") none (Data.fields #[Value.str (Str.ofString "bits") 327, Value.str (Str.ofString "bits") 328, Value.str (Str.ofString "/claim/cut.py") 329, Value.int 72 0, Value.int 2 0, Value.int 0 0, Value.int 0 0, Value.int 3 0, Value.ref 101, Value.bool true, Value.int 181 0, Value.ref 102, Value.none, Value.ref 103, Value.ref 104, Value.ref 105, Value.int 332 0, Value.int 72 0, Value.str (Str.ofString "/claim/cut.py") 333]) #[]
noncomputable def o_152 : Params → Obj := fun _ => Obj.mk (Value.type "function") none (Data.func (FuncData.mk (Str.ofString "bits") (Str.ofString "bits") (dr 11).params (FuncBody.stmts (dr 11).body) (dr 11).scope 3 [] Value.none Value.none Value.none (Value.str (Str.ofString "gmp.limbs") 187) none (Value.ref 106) Value.none 0)) #[]
noncomputable def o_153 : Params → Obj := fun _ => Obj.mk (Value.type "tuple") none (Data.seq #[]) #[]
noncomputable def o_154 : Params → Obj := fun _ => Obj.mk Value.none none (Data.fields #[]) #[]
noncomputable def o_155 : Params → Obj := fun _ => Obj.mk (Value.type "tuple") none (Data.seq #[Value.str (Str.ofString "is_below") 340, Value.str (Str.ofString "nat") 341]) #[]
noncomputable def o_156 : Params → Obj := fun _ => Obj.mk (Value.type "tuple") none (Data.seq #[]) #[]
noncomputable def o_157 : Params → Obj := fun _ => Obj.mk Value.none none (Data.func (FuncData.mk (Str.ofString "signed") (Str.ofString "signed") (dr 13).params (FuncBody.stmts (dr 13).body) (dr 13).scope 0 [] Value.none Value.none Value.none Value.none none Value.none Value.none 0)) #[]
noncomputable def o_158 : Params → Obj := fun _ => Obj.mk (Value.type "code") none (Data.fields #[Value.str (Str.ofString "signed") 337, Value.str (Str.ofString "signed") 338, Value.str (Str.ofString "/claim/cut.py") 339, Value.int 75 0, Value.int 2 0, Value.int 0 0, Value.int 0 0, Value.int 3 0, Value.ref 108, Value.bool true, Value.int 181 0, Value.ref 109, Value.none, Value.ref 110, Value.ref 111, Value.ref 112, Value.int 342 0, Value.int 75 0, Value.str (Str.ofString "/claim/cut.py") 343]) #[]
noncomputable def o_159 : Params → Obj := fun _ => Obj.mk (Value.type "function") none (Data.func (FuncData.mk (Str.ofString "signed") (Str.ofString "signed") (dr 13).params (FuncBody.stmts (dr 13).body) (dr 13).scope 3 [] Value.none Value.none Value.none (Value.str (Str.ofString "gmp.signed") 335) none (Value.ref 113) Value.none 0)) #[]
noncomputable def o_160 : Params → Obj := fun _ => Obj.mk (Value.type "tuple") none (Data.seq #[]) #[]
noncomputable def o_161 : Params → Obj := fun _ => Obj.mk Value.none none (Data.fields #[]) #[]
noncomputable def o_162 : Params → Obj := fun _ => Obj.mk (Value.type "tuple") none (Data.seq #[Value.str (Str.ofString "x") 348]) #[]
noncomputable def o_163 : Params → Obj := fun _ => Obj.mk (Value.type "tuple") none (Data.seq #[]) #[]
noncomputable def o_164 : Params → Obj := fun _ => Obj.mk Value.none none (Data.func (FuncData.mk (Str.ofString "s_neg") (Str.ofString "s_neg") (dr 14).params (FuncBody.stmts (dr 14).body) (dr 14).scope 0 [] Value.none Value.none Value.none Value.none none Value.none Value.none 0)) #[]
noncomputable def o_165 : Params → Obj := fun _ => Obj.mk (Value.type "code") none (Data.fields #[Value.str (Str.ofString "s_neg") 345, Value.str (Str.ofString "s_neg") 346, Value.str (Str.ofString "/claim/cut.py") 347, Value.int 77 0, Value.int 1 0, Value.int 0 0, Value.int 0 0, Value.int 3 0, Value.ref 115, Value.bool true, Value.int 181 0, Value.ref 116, Value.none, Value.ref 117, Value.ref 118, Value.ref 119, Value.int 349 0, Value.int 77 0, Value.str (Str.ofString "/claim/cut.py") 350]) #[]
noncomputable def o_166 : Params → Obj := fun _ => Obj.mk (Value.type "function") none (Data.func (FuncData.mk (Str.ofString "s_neg") (Str.ofString "s_neg") (dr 14).params (FuncBody.stmts (dr 14).body) (dr 14).scope 3 [] Value.none Value.none Value.none (Value.str (Str.ofString "gmp.signed") 335) none (Value.ref 120) Value.none 0)) #[]
noncomputable def o_167 : Params → Obj := fun _ => Obj.mk (Value.type "tuple") none (Data.seq #[]) #[]
noncomputable def o_168 : Params → Obj := fun _ => Obj.mk Value.none none (Data.fields #[]) #[]
noncomputable def o_169 : Params → Obj := fun _ => Obj.mk (Value.type "tuple") none (Data.seq #[Value.str (Str.ofString "x") 355, Value.str (Str.ofString "y") 356, Value.str (Str.ofString "w") 357]) #[]
noncomputable def o_170 : Params → Obj := fun _ => Obj.mk (Value.type "tuple") none (Data.seq #[]) #[]
noncomputable def o_171 : Params → Obj := fun _ => Obj.mk Value.none none (Data.func (FuncData.mk (Str.ofString "s_add") (Str.ofString "s_add") (dr 15).params (FuncBody.stmts (dr 15).body) (dr 15).scope 0 [] Value.none Value.none Value.none Value.none none Value.none Value.none 0)) #[]
noncomputable def o_172 : Params → Obj := fun _ => Obj.mk (Value.type "code") none (Data.fields #[Value.str (Str.ofString "s_add") 352, Value.str (Str.ofString "s_add") 353, Value.str (Str.ofString "/claim/cut.py") 354, Value.int 79 0, Value.int 3 0, Value.int 0 0, Value.int 0 0, Value.int 3 0, Value.ref 122, Value.bool true, Value.int 181 0, Value.ref 123, Value.none, Value.ref 124, Value.ref 125, Value.ref 126, Value.int 358 0, Value.int 79 0, Value.str (Str.ofString "/claim/cut.py") 359]) #[]
noncomputable def o_173 : Params → Obj := fun _ => Obj.mk (Value.type "function") none (Data.func (FuncData.mk (Str.ofString "s_add") (Str.ofString "s_add") (dr 15).params (FuncBody.stmts (dr 15).body) (dr 15).scope 3 [] Value.none Value.none Value.none (Value.str (Str.ofString "gmp.signed") 335) none (Value.ref 127) Value.none 0)) #[]
noncomputable def o_174 : Params → Obj := fun _ => Obj.mk (Value.type "tuple") none (Data.seq #[]) #[]
noncomputable def o_175 : Params → Obj := fun _ => Obj.mk Value.none none (Data.fields #[]) #[]
noncomputable def o_176 : Params → Obj := fun _ => Obj.mk (Value.type "tuple") none (Data.seq #[Value.str (Str.ofString "x") 364, Value.str (Str.ofString "y") 365, Value.str (Str.ofString "w") 366, Value.str (Str.ofString "mul") 367]) #[]
noncomputable def o_177 : Params → Obj := fun _ => Obj.mk (Value.type "tuple") none (Data.seq #[]) #[]
noncomputable def o_178 : Params → Obj := fun _ => Obj.mk Value.none none (Data.func (FuncData.mk (Str.ofString "s_mul") (Str.ofString "s_mul") (dr 16).params (FuncBody.stmts (dr 16).body) (dr 16).scope 0 [] Value.none Value.none Value.none Value.none none Value.none Value.none 0)) #[]
noncomputable def o_179 : Params → Obj := fun _ => Obj.mk (Value.type "code") none (Data.fields #[Value.str (Str.ofString "s_mul") 361, Value.str (Str.ofString "s_mul") 362, Value.str (Str.ofString "/claim/cut.py") 363, Value.int 85 0, Value.int 4 0, Value.int 0 0, Value.int 0 0, Value.int 3 0, Value.ref 129, Value.bool true, Value.int 181 0, Value.ref 130, Value.none, Value.ref 131, Value.ref 132, Value.ref 133, Value.int 368 0, Value.int 85 0, Value.str (Str.ofString "/claim/cut.py") 369]) #[]
noncomputable def o_180 : Params → Obj := fun _ => Obj.mk (Value.type "function") none (Data.func (FuncData.mk (Str.ofString "s_mul") (Str.ofString "s_mul") (dr 16).params (FuncBody.stmts (dr 16).body) (dr 16).scope 3 [] Value.none Value.none Value.none (Value.str (Str.ofString "gmp.signed") 335) none (Value.ref 134) Value.none 0)) #[]
noncomputable def o_181 : Params → Obj := fun _ => Obj.mk (Value.type "tuple") none (Data.seq #[]) #[]
noncomputable def o_182 : Params → Obj := fun _ => Obj.mk Value.none none (Data.fields #[]) #[]
noncomputable def o_183 : Params → Obj := fun _ => Obj.mk (Value.type "tuple") none (Data.seq #[Value.str (Str.ofString "a") 376, Value.str (Str.ofString "b") 377, Value.str (Str.ofString "w") 378, Value.str (Str.ofString "divrem") 379]) #[]
noncomputable def o_184 : Params → Obj := fun _ => Obj.mk (Value.type "tuple") none (Data.seq #[]) #[]
noncomputable def o_185 : Params → Obj := fun _ => Obj.mk Value.none none (Data.func (FuncData.mk (Str.ofString "common") (Str.ofString "common") (dr 18).params (FuncBody.stmts (dr 18).body) (dr 18).scope 0 [] Value.none Value.none Value.none Value.none none Value.none Value.none 0)) #[]
noncomputable def o_186 : Params → Obj := fun _ => Obj.mk (Value.type "code") none (Data.fields #[Value.str (Str.ofString "common") 373, Value.str (Str.ofString "common") 374, Value.str (Str.ofString "/claim/cut.py") 375, Value.int 88 0, Value.int 4 0, Value.int 0 0, Value.int 0 0, Value.int 3 0, Value.ref 136, Value.bool true, Value.int 181 0, Value.ref 137, Value.none, Value.ref 138, Value.ref 139, Value.ref 140, Value.int 380 0, Value.int 88 0, Value.str (Str.ofString "/claim/cut.py") 381]) #[]
noncomputable def o_187 : Params → Obj := fun _ => Obj.mk (Value.type "function") none (Data.func (FuncData.mk (Str.ofString "common") (Str.ofString "common") (dr 18).params (FuncBody.stmts (dr 18).body) (dr 18).scope 3 [] Value.none Value.none Value.none (Value.str (Str.ofString "gmp.rationals") 371) none (Value.ref 141) Value.none 0)) #[]
noncomputable def o_188 : Params → Obj := fun _ => Obj.mk (Value.type "tuple") none (Data.seq #[]) #[]
noncomputable def o_189 : Params → Obj := fun _ => Obj.mk Value.none none (Data.fields #[]) #[]
noncomputable def o_190 : Params → Obj := fun _ => Obj.mk (Value.type "tuple") none (Data.seq #[Value.str (Str.ofString "x") 386, Value.str (Str.ofString "d") 387, Value.str (Str.ofString "w") 388, Value.str (Str.ofString "divrem") 389]) #[]
noncomputable def o_191 : Params → Obj := fun _ => Obj.mk (Value.type "tuple") none (Data.seq #[]) #[]
noncomputable def o_192 : Params → Obj := fun _ => Obj.mk Value.none none (Data.func (FuncData.mk (Str.ofString "cut_signed") (Str.ofString "cut_signed") (dr 19).params (FuncBody.stmts (dr 19).body) (dr 19).scope 0 [] Value.none Value.none Value.none Value.none none Value.none Value.none 0)) #[]
noncomputable def o_193 : Params → Obj := fun _ => Obj.mk (Value.type "code") none (Data.fields #[Value.str (Str.ofString "cut_signed") 383, Value.str (Str.ofString "cut_signed") 384, Value.str (Str.ofString "/claim/cut.py") 385, Value.int 92 0, Value.int 4 0, Value.int 0 0, Value.int 0 0, Value.int 3 0, Value.ref 143, Value.bool true, Value.int 181 0, Value.ref 144, Value.none, Value.ref 145, Value.ref 146, Value.ref 147, Value.int 390 0, Value.int 92 0, Value.str (Str.ofString "/claim/cut.py") 391]) #[]
noncomputable def o_194 : Params → Obj := fun _ => Obj.mk (Value.type "function") none (Data.func (FuncData.mk (Str.ofString "cut_signed") (Str.ofString "cut_signed") (dr 19).params (FuncBody.stmts (dr 19).body) (dr 19).scope 3 [] Value.none Value.none Value.none (Value.str (Str.ofString "gmp.rationals") 371) none (Value.ref 148) Value.none 0)) #[]
noncomputable def o_195 : Params → Obj := fun _ => Obj.mk (Value.type "tuple") none (Data.seq #[]) #[]
noncomputable def o_196 : Params → Obj := fun _ => Obj.mk Value.none none (Data.fields #[]) #[]
noncomputable def o_197 : Params → Obj := fun _ => Obj.mk (Value.type "tuple") none (Data.seq #[Value.str (Str.ofString "nat") 396]) #[]
noncomputable def o_198 : Params → Obj := fun _ => Obj.mk (Value.type "tuple") none (Data.seq #[]) #[]
noncomputable def o_199 : Params → Obj := fun _ => Obj.mk Value.none none (Data.func (FuncData.mk (Str.ofString "signed_of") (Str.ofString "signed_of") (dr 20).params (FuncBody.stmts (dr 20).body) (dr 20).scope 0 [] Value.none Value.none Value.none Value.none none Value.none Value.none 0)) #[]
noncomputable def o_200 : Params → Obj := fun _ => Obj.mk (Value.type "code") none (Data.fields #[Value.str (Str.ofString "signed_of") 393, Value.str (Str.ofString "signed_of") 394, Value.str (Str.ofString "/claim/cut.py") 395, Value.int 94 0, Value.int 1 0, Value.int 0 0, Value.int 0 0, Value.int 3 0, Value.ref 150, Value.bool true, Value.int 181 0, Value.ref 151, Value.none, Value.ref 152, Value.ref 153, Value.ref 154, Value.int 397 0, Value.int 94 0, Value.str (Str.ofString "/claim/cut.py") 398]) #[]
noncomputable def o_201 : Params → Obj := fun _ => Obj.mk (Value.type "function") none (Data.func (FuncData.mk (Str.ofString "signed_of") (Str.ofString "signed_of") (dr 20).params (FuncBody.stmts (dr 20).body) (dr 20).scope 3 [] Value.none Value.none Value.none (Value.str (Str.ofString "gmp.rationals") 371) none (Value.ref 155) Value.none 0)) #[]
noncomputable def o_202 : Params → Obj := fun _ => Obj.mk (Value.type "tuple") none (Data.seq #[]) #[]
noncomputable def o_203 : Params → Obj := fun _ => Obj.mk Value.none none (Data.fields #[]) #[]
noncomputable def o_204 : Params → Obj := fun _ => Obj.mk (Value.type "tuple") none (Data.seq #[Value.str (Str.ofString "x") 403]) #[]
noncomputable def o_205 : Params → Obj := fun _ => Obj.mk (Value.type "tuple") none (Data.seq #[]) #[]
noncomputable def o_206 : Params → Obj := fun _ => Obj.mk Value.none none (Data.func (FuncData.mk (Str.ofString "r_neg") (Str.ofString "r_neg") (dr 21).params (FuncBody.stmts (dr 21).body) (dr 21).scope 0 [] Value.none Value.none Value.none Value.none none Value.none Value.none 0)) #[]
noncomputable def o_207 : Params → Obj := fun _ => Obj.mk (Value.type "code") none (Data.fields #[Value.str (Str.ofString "r_neg") 400, Value.str (Str.ofString "r_neg") 401, Value.str (Str.ofString "/claim/cut.py") 402, Value.int 96 0, Value.int 1 0, Value.int 0 0, Value.int 0 0, Value.int 3 0, Value.ref 157, Value.bool true, Value.int 181 0, Value.ref 158, Value.none, Value.ref 159, Value.ref 160, Value.ref 161, Value.int 404 0, Value.int 96 0, Value.str (Str.ofString "/claim/cut.py") 405]) #[]
noncomputable def o_208 : Params → Obj := fun _ => Obj.mk (Value.type "function") none (Data.func (FuncData.mk (Str.ofString "r_neg") (Str.ofString "r_neg") (dr 21).params (FuncBody.stmts (dr 21).body) (dr 21).scope 3 [] Value.none Value.none Value.none (Value.str (Str.ofString "gmp.rationals") 371) none (Value.ref 162) Value.none 0)) #[]
noncomputable def o_211 : Params → Obj := fun _ => Obj.mk (Value.type "tuple") none (Data.seq #[]) #[]
noncomputable def o_212 : Params → Obj := fun _ => Obj.mk Value.none none (Data.fields #[]) #[]
noncomputable def o_213 : Params → Obj := fun _ => Obj.mk (Value.type "tuple") none (Data.seq #[Value.str (Str.ofString "x") 410, Value.str (Str.ofString "y") 411, Value.str (Str.ofString "w") 412, Value.str (Str.ofString "mul") 413, Value.str (Str.ofString "divrem") 414, Value.str (Str.ofString "told") 415, Value.str (Str.ofString "here") 416, Value.str (Str.ofString "there") 417, Value.str (Str.ofString "top") 418, Value.str (Str.ofString "out") 419]) #[]
noncomputable def o_214 : Params → Obj := fun _ => Obj.mk (Value.type "tuple") none (Data.seq #[]) #[]
noncomputable def o_215 : Params → Obj := fun _ => Obj.mk Value.none none (Data.func (FuncData.mk (Str.ofString "r_add") (Str.ofString "r_add") (dr 22).params (FuncBody.stmts (dr 22).body) (dr 22).scope 0 [] Value.none Value.none Value.none Value.none none Value.none Value.none 0)) #[]
noncomputable def o_216 : Params → Obj := fun _ => Obj.mk (Value.type "code") none (Data.fields #[Value.str (Str.ofString "r_add") 407, Value.str (Str.ofString "r_add") 408, Value.str (Str.ofString "/claim/cut.py") 409, Value.int 98 0, Value.int 5 0, Value.int 0 0, Value.int 0 0, Value.int 3 0, Value.ref 164, Value.bool true, Value.int 181 0, Value.ref 165, Value.none, Value.ref 166, Value.ref 167, Value.ref 168, Value.int 420 0, Value.int 98 0, Value.str (Str.ofString "/claim/cut.py") 421]) #[]
noncomputable def o_217 : Params → Obj := fun _ => Obj.mk (Value.type "function") none (Data.func (FuncData.mk (Str.ofString "r_add") (Str.ofString "r_add") (dr 22).params (FuncBody.stmts (dr 22).body) (dr 22).scope 3 [] Value.none Value.none Value.none (Value.str (Str.ofString "gmp.rationals") 371) none (Value.ref 169) Value.none 0)) #[]
noncomputable def o_218 : Params → Obj := fun _ => Obj.mk (Value.type "tuple") none (Data.seq #[]) #[]
noncomputable def o_219 : Params → Obj := fun _ => Obj.mk Value.none none (Data.fields #[]) #[]
noncomputable def o_220 : Params → Obj := fun _ => Obj.mk (Value.type "tuple") none (Data.seq #[Value.str (Str.ofString "x") 426, Value.str (Str.ofString "y") 427, Value.str (Str.ofString "w") 428, Value.str (Str.ofString "mul") 429, Value.str (Str.ofString "divrem") 430]) #[]
noncomputable def o_221 : Params → Obj := fun _ => Obj.mk (Value.type "tuple") none (Data.seq #[]) #[]
noncomputable def o_222 : Params → Obj := fun _ => Obj.mk Value.none none (Data.func (FuncData.mk (Str.ofString "r_sub") (Str.ofString "r_sub") (dr 23).params (FuncBody.stmts (dr 23).body) (dr 23).scope 0 [] Value.none Value.none Value.none Value.none none Value.none Value.none 0)) #[]
noncomputable def o_223 : Params → Obj := fun _ => Obj.mk (Value.type "code") none (Data.fields #[Value.str (Str.ofString "r_sub") 423, Value.str (Str.ofString "r_sub") 424, Value.str (Str.ofString "/claim/cut.py") 425, Value.int 106 0, Value.int 5 0, Value.int 0 0, Value.int 0 0, Value.int 3 0, Value.ref 171, Value.bool true, Value.int 181 0, Value.ref 172, Value.none, Value.ref 173, Value.ref 174, Value.ref 175, Value.int 431 0, Value.int 106 0, Value.str (Str.ofString "/claim/cut.py") 432]) #[]
noncomputable def o_224 : Params → Obj := fun _ => Obj.mk (Value.type "function") none (Data.func (FuncData.mk (Str.ofString "r_sub") (Str.ofString "r_sub") (dr 23).params (FuncBody.stmts (dr 23).body) (dr 23).scope 3 [] Value.none Value.none Value.none (Value.str (Str.ofString "gmp.rationals") 371) none (Value.ref 176) Value.none 0)) #[]
noncomputable def o_225 : Params → Obj := fun _ => Obj.mk (Value.type "tuple") none (Data.seq #[]) #[]
noncomputable def o_226 : Params → Obj := fun _ => Obj.mk Value.none none (Data.fields #[]) #[]
noncomputable def o_227 : Params → Obj := fun _ => Obj.mk (Value.type "tuple") none (Data.seq #[Value.str (Str.ofString "x") 437, Value.str (Str.ofString "y") 438, Value.str (Str.ofString "w") 439, Value.str (Str.ofString "mul") 440, Value.str (Str.ofString "divrem") 441, Value.str (Str.ofString "one") 442, Value.str (Str.ofString "other") 443, Value.str (Str.ofString "top") 444]) #[]
noncomputable def o_228 : Params → Obj := fun _ => Obj.mk (Value.type "tuple") none (Data.seq #[]) #[]
noncomputable def o_229 : Params → Obj := fun _ => Obj.mk Value.none none (Data.func (FuncData.mk (Str.ofString "r_mul") (Str.ofString "r_mul") (dr 24).params (FuncBody.stmts (dr 24).body) (dr 24).scope 0 [] Value.none Value.none Value.none Value.none none Value.none Value.none 0)) #[]
noncomputable def o_230 : Params → Obj := fun _ => Obj.mk (Value.type "code") none (Data.fields #[Value.str (Str.ofString "r_mul") 434, Value.str (Str.ofString "r_mul") 435, Value.str (Str.ofString "/claim/cut.py") 436, Value.int 108 0, Value.int 5 0, Value.int 0 0, Value.int 0 0, Value.int 3 0, Value.ref 178, Value.bool true, Value.int 181 0, Value.ref 179, Value.none, Value.ref 180, Value.ref 181, Value.ref 182, Value.int 445 0, Value.int 108 0, Value.str (Str.ofString "/claim/cut.py") 446]) #[]
noncomputable def o_231 : Params → Obj := fun _ => Obj.mk (Value.type "function") none (Data.func (FuncData.mk (Str.ofString "r_mul") (Str.ofString "r_mul") (dr 24).params (FuncBody.stmts (dr 24).body) (dr 24).scope 3 [] Value.none Value.none Value.none (Value.str (Str.ofString "gmp.rationals") 371) none (Value.ref 183) Value.none 0)) #[]
noncomputable def o_232 : Params → Obj := fun _ => Obj.mk (Value.type "tuple") none (Data.seq #[]) #[]
noncomputable def o_233 : Params → Obj := fun _ => Obj.mk Value.none none (Data.fields #[]) #[]
noncomputable def o_234 : Params → Obj := fun _ => Obj.mk (Value.type "tuple") none (Data.seq #[Value.str (Str.ofString "x") 451]) #[]
noncomputable def o_235 : Params → Obj := fun _ => Obj.mk (Value.type "tuple") none (Data.seq #[]) #[]
noncomputable def o_236 : Params → Obj := fun _ => Obj.mk Value.none none (Data.func (FuncData.mk (Str.ofString "r_inverse") (Str.ofString "r_inverse") (dr 25).params (FuncBody.stmts (dr 25).body) (dr 25).scope 0 [] Value.none Value.none Value.none Value.none none Value.none Value.none 0)) #[]
noncomputable def o_237 : Params → Obj := fun _ => Obj.mk (Value.type "code") none (Data.fields #[Value.str (Str.ofString "r_inverse") 448, Value.str (Str.ofString "r_inverse") 449, Value.str (Str.ofString "/claim/cut.py") 450, Value.int 114 0, Value.int 1 0, Value.int 0 0, Value.int 0 0, Value.int 3 0, Value.ref 185, Value.bool true, Value.int 181 0, Value.ref 186, Value.none, Value.ref 187, Value.ref 188, Value.ref 189, Value.int 452 0, Value.int 114 0, Value.str (Str.ofString "/claim/cut.py") 453]) #[]
noncomputable def o_238 : Params → Obj := fun _ => Obj.mk (Value.type "function") none (Data.func (FuncData.mk (Str.ofString "r_inverse") (Str.ofString "r_inverse") (dr 25).params (FuncBody.stmts (dr 25).body) (dr 25).scope 3 [] Value.none Value.none Value.none (Value.str (Str.ofString "gmp.rationals") 371) none (Value.ref 190) Value.none 0)) #[]
noncomputable def o_239 : Params → Obj := fun _ => Obj.mk (Value.type "tuple") none (Data.seq #[]) #[]
noncomputable def o_240 : Params → Obj := fun _ => Obj.mk Value.none none (Data.fields #[]) #[]
noncomputable def o_241 : Params → Obj := fun _ => Obj.mk (Value.type "tuple") none (Data.seq #[Value.str (Str.ofString "a") 460, Value.str (Str.ofString "b") 461, Value.str (Str.ofString "w") 462, Value.str (Str.ofString "found") 463, Value.str (Str.ofString "mask") 464, Value.str (Str.ofString "at") 465, Value.str (Str.ofString "limb") 466, Value.str (Str.ofString "carry") 467, Value.str (Str.ofString "spot") 468, Value.str (Str.ofString "other") 469]) #[]
noncomputable def o_242 : Params → Obj := fun _ => Obj.mk (Value.type "tuple") none (Data.seq #[]) #[]
noncomputable def o_243 : Params → Obj := fun _ => Obj.mk Value.none none (Data.func (FuncData.mk (Str.ofString "mul_school") (Str.ofString "mul_school") (dr 27).params (FuncBody.stmts (dr 27).body) (dr 27).scope 0 [] Value.none Value.none Value.none Value.none none Value.none Value.none 0)) #[]
noncomputable def o_244 : Params → Obj := fun _ => Obj.mk (Value.type "code") none (Data.fields #[Value.str (Str.ofString "mul_school") 457, Value.str (Str.ofString "mul_school") 458, Value.str (Str.ofString "/claim/cut.py") 459, Value.int 119 0, Value.int 3 0, Value.int 0 0, Value.int 0 0, Value.int 3 0, Value.ref 192, Value.bool true, Value.int 181 0, Value.ref 193, Value.none, Value.ref 194, Value.ref 195, Value.ref 196, Value.int 470 0, Value.int 119 0, Value.str (Str.ofString "/claim/cut.py") 471]) #[]
noncomputable def o_245 : Params → Obj := fun _ => Obj.mk (Value.type "function") none (Data.func (FuncData.mk (Str.ofString "mul_school") (Str.ofString "mul_school") (dr 27).params (FuncBody.stmts (dr 27).body) (dr 27).scope 3 [] Value.none Value.none Value.none (Value.str (Str.ofString "gmp.school") 455) none (Value.ref 197) Value.none 0)) #[]
noncomputable def o_246 : Params → Obj := fun _ => Obj.mk (Value.type "tuple") none (Data.seq #[]) #[]
noncomputable def o_247 : Params → Obj := fun _ => Obj.mk Value.none none (Data.fields #[]) #[]
noncomputable def o_248 : Params → Obj := fun _ => Obj.mk (Value.type "tuple") none (Data.seq #[Value.str (Str.ofString "a") 476, Value.str (Str.ofString "b") 477, Value.str (Str.ofString "w") 478, Value.str (Str.ofString "quotient") 479, Value.str (Str.ofString "rest") 480]) #[]
noncomputable def o_249 : Params → Obj := fun _ => Obj.mk (Value.type "tuple") none (Data.seq #[]) #[]
noncomputable def o_250 : Params → Obj := fun _ => Obj.mk Value.none none (Data.func (FuncData.mk (Str.ofString "divrem_small") (Str.ofString "divrem_small") (dr 28).params (FuncBody.stmts (dr 28).body) (dr 28).scope 0 [] Value.none Value.none Value.none Value.none none Value.none Value.none 0)) #[]
noncomputable def o_251 : Params → Obj := fun _ => Obj.mk (Value.type "code") none (Data.fields #[Value.str (Str.ofString "divrem_small") 473, Value.str (Str.ofString "divrem_small") 474, Value.str (Str.ofString "/claim/cut.py") 475, Value.int 129 0, Value.int 3 0, Value.int 0 0, Value.int 0 0, Value.int 3 0, Value.ref 199, Value.bool true, Value.int 181 0, Value.ref 200, Value.none, Value.ref 201, Value.ref 202, Value.ref 203, Value.int 481 0, Value.int 129 0, Value.str (Str.ofString "/claim/cut.py") 482]) #[]
noncomputable def o_252 : Params → Obj := fun _ => Obj.mk (Value.type "function") none (Data.func (FuncData.mk (Str.ofString "divrem_small") (Str.ofString "divrem_small") (dr 28).params (FuncBody.stmts (dr 28).body) (dr 28).scope 3 [] Value.none Value.none Value.none (Value.str (Str.ofString "gmp.school") 455) none (Value.ref 204) Value.none 0)) #[]
noncomputable def o_253 : Params → Obj := fun _ => Obj.mk (Value.type "tuple") none (Data.seq #[]) #[]
noncomputable def o_254 : Params → Obj := fun _ => Obj.mk Value.none none (Data.fields #[]) #[]
noncomputable def o_255 : Params → Obj := fun _ => Obj.mk (Value.type "tuple") none (Data.seq #[Value.str (Str.ofString "top") 487, Value.str (Str.ofString "first") 488, Value.str (Str.ofString "second") 489, Value.str (Str.ofString "w") 490, Value.str (Str.ofString "high") 491, Value.str (Str.ofString "base") 492, Value.str (Str.ofString "limb") 493, Value.str (Str.ofString "rest") 494]) #[]
noncomputable def o_256 : Params → Obj := fun _ => Obj.mk (Value.type "tuple") none (Data.seq #[]) #[]
noncomputable def o_257 : Params → Obj := fun _ => Obj.mk Value.none none (Data.func (FuncData.mk (Str.ofString "guessed_limb") (Str.ofString "guessed_limb") (dr 29).params (FuncBody.stmts (dr 29).body) (dr 29).scope 0 [] Value.none Value.none Value.none Value.none none Value.none Value.none 0)) #[]
noncomputable def o_258 : Params → Obj := fun _ => Obj.mk (Value.type "code") none (Data.fields #[Value.str (Str.ofString "guessed_limb") 484, Value.str (Str.ofString "guessed_limb") 485, Value.str (Str.ofString "/claim/cut.py") 486, Value.int 132 0, Value.int 4 0, Value.int 0 0, Value.int 0 0, Value.int 3 0, Value.ref 206, Value.bool true, Value.int 181 0, Value.ref 207, Value.none, Value.ref 208, Value.ref 209, Value.ref 210, Value.int 495 0, Value.int 132 0, Value.str (Str.ofString "/claim/cut.py") 496]) #[]
noncomputable def o_259 : Params → Obj := fun _ => Obj.mk (Value.type "function") none (Data.func (FuncData.mk (Str.ofString "guessed_limb") (Str.ofString "guessed_limb") (dr 29).params (FuncBody.stmts (dr 29).body) (dr 29).scope 3 [] Value.none Value.none Value.none (Value.str (Str.ofString "gmp.school") 455) none (Value.ref 211) Value.none 0)) #[]
noncomputable def o_260 : Params → Obj := fun _ => Obj.mk (Value.type "tuple") none (Data.seq #[]) #[]
noncomputable def o_261 : Params → Obj := fun _ => Obj.mk Value.none none (Data.fields #[]) #[]
noncomputable def o_262 : Params → Obj := fun _ => Obj.mk (Value.type "tuple") none (Data.seq #[Value.str (Str.ofString "rest") 501, Value.str (Str.ofString "b") 502, Value.str (Str.ofString "limb") 503, Value.str (Str.ofString "at") 504, Value.str (Str.ofString "w") 505, Value.str (Str.ofString "carry") 506, Value.str (Str.ofString "base") 507, Value.str (Str.ofString "spot") 508, Value.str (Str.ofString "other") 509, Value.str (Str.ofString "here") 510]) #[]
noncomputable def o_263 : Params → Obj := fun _ => Obj.mk (Value.type "tuple") none (Data.seq #[]) #[]
noncomputable def o_264 : Params → Obj := fun _ => Obj.mk Value.none none (Data.func (FuncData.mk (Str.ofString "take_away") (Str.ofString "take_away") (dr 30).params (FuncBody.stmts (dr 30).body) (dr 30).scope 0 [] Value.none Value.none Value.none Value.none none Value.none Value.none 0)) #[]
noncomputable def o_265 : Params → Obj := fun _ => Obj.mk (Value.type "code") none (Data.fields #[Value.str (Str.ofString "take_away") 498, Value.str (Str.ofString "take_away") 499, Value.str (Str.ofString "/claim/cut.py") 500, Value.int 140 0, Value.int 5 0, Value.int 0 0, Value.int 0 0, Value.int 3 0, Value.ref 213, Value.bool true, Value.int 181 0, Value.ref 214, Value.none, Value.ref 215, Value.ref 216, Value.ref 217, Value.int 511 0, Value.int 140 0, Value.str (Str.ofString "/claim/cut.py") 512]) #[]
noncomputable def o_266 : Params → Obj := fun _ => Obj.mk (Value.type "function") none (Data.func (FuncData.mk (Str.ofString "take_away") (Str.ofString "take_away") (dr 30).params (FuncBody.stmts (dr 30).body) (dr 30).scope 3 [] Value.none Value.none Value.none (Value.str (Str.ofString "gmp.school") 455) none (Value.ref 218) Value.none 0)) #[]
noncomputable def o_267 : Params → Obj := fun _ => Obj.mk (Value.type "tuple") none (Data.seq #[]) #[]
noncomputable def o_268 : Params → Obj := fun _ => Obj.mk Value.none none (Data.fields #[]) #[]
noncomputable def o_269 : Params → Obj := fun _ => Obj.mk (Value.type "tuple") none (Data.seq #[Value.str (Str.ofString "rest") 517, Value.str (Str.ofString "b") 518, Value.str (Str.ofString "at") 519, Value.str (Str.ofString "w") 520, Value.str (Str.ofString "carry") 521, Value.str (Str.ofString "mask") 522, Value.str (Str.ofString "spot") 523, Value.str (Str.ofString "other") 524]) #[]
noncomputable def o_270 : Params → Obj := fun _ => Obj.mk (Value.type "tuple") none (Data.seq #[]) #[]
noncomputable def o_271 : Params → Obj := fun _ => Obj.mk Value.none none (Data.func (FuncData.mk (Str.ofString "put_back") (Str.ofString "put_back") (dr 31).params (FuncBody.stmts (dr 31).body) (dr 31).scope 0 [] Value.none Value.none Value.none Value.none none Value.none Value.none 0)) #[]
noncomputable def o_272 : Params → Obj := fun _ => Obj.mk (Value.type "code") none (Data.fields #[Value.str (Str.ofString "put_back") 514, Value.str (Str.ofString "put_back") 515, Value.str (Str.ofString "/claim/cut.py") 516, Value.int 149 0, Value.int 4 0, Value.int 0 0, Value.int 0 0, Value.int 3 0, Value.ref 220, Value.bool true, Value.int 181 0, Value.ref 221, Value.none, Value.ref 222, Value.ref 223, Value.ref 224, Value.int 525 0, Value.int 149 0, Value.str (Str.ofString "/claim/cut.py") 526]) #[]
noncomputable def o_273 : Params → Obj := fun _ => Obj.mk (Value.type "function") none (Data.func (FuncData.mk (Str.ofString "put_back") (Str.ofString "put_back") (dr 31).params (FuncBody.stmts (dr 31).body) (dr 31).scope 3 [] Value.none Value.none Value.none (Value.str (Str.ofString "gmp.school") 455) none (Value.ref 225) Value.none 0)) #[]
noncomputable def o_274 : Params → Obj := fun _ => Obj.mk (Value.type "tuple") none (Data.seq #[]) #[]
noncomputable def o_275 : Params → Obj := fun _ => Obj.mk Value.none none (Data.fields #[]) #[]
noncomputable def o_276 : Params → Obj := fun _ => Obj.mk (Value.type "tuple") none (Data.seq #[Value.str (Str.ofString "rest") 531, Value.str (Str.ofString "b") 532, Value.str (Str.ofString "w") 533, Value.str (Str.ofString "size") 534, Value.str (Str.ofString "quotient") 535, Value.str (Str.ofString "at") 536, Value.str (Str.ofString "limb") 537]) #[]
noncomputable def o_277 : Params → Obj := fun _ => Obj.mk (Value.type "tuple") none (Data.seq #[]) #[]
noncomputable def o_278 : Params → Obj := fun _ => Obj.mk Value.none none (Data.func (FuncData.mk (Str.ofString "divide_rows") (Str.ofString "divide_rows") (dr 32).params (FuncBody.stmts (dr 32).body) (dr 32).scope 0 [] Value.none Value.none Value.none Value.none none Value.none Value.none 0)) #[]
noncomputable def o_279 : Params → Obj := fun _ => Obj.mk (Value.type "code") none (Data.fields #[Value.str (Str.ofString "divide_rows") 528, Value.str (Str.ofString "divide_rows") 529, Value.str (Str.ofString "/claim/cut.py") 530, Value.int 156 0, Value.int 3 0, Value.int 0 0, Value.int 0 0, Value.int 3 0, Value.ref 227, Value.bool true, Value.int 181 0, Value.ref 228, Value.none, Value.ref 229, Value.ref 230, Value.ref 231, Value.int 538 0, Value.int 156 0, Value.str (Str.ofString "/claim/cut.py") 539]) #[]
noncomputable def o_280 : Params → Obj := fun _ => Obj.mk (Value.type "function") none (Data.func (FuncData.mk (Str.ofString "divide_rows") (Str.ofString "divide_rows") (dr 32).params (FuncBody.stmts (dr 32).body) (dr 32).scope 3 [] Value.none Value.none Value.none (Value.str (Str.ofString "gmp.school") 455) none (Value.ref 232) Value.none 0)) #[]
noncomputable def o_281 : Params → Obj := fun _ => Obj.mk (Value.type "tuple") none (Data.seq #[]) #[]
noncomputable def o_282 : Params → Obj := fun _ => Obj.mk Value.none none (Data.fields #[]) #[]
noncomputable def o_283 : Params → Obj := fun _ => Obj.mk (Value.type "tuple") none (Data.seq #[Value.str (Str.ofString "a") 544, Value.str (Str.ofString "b") 545, Value.str (Str.ofString "w") 546, Value.str (Str.ofString "shift") 547, Value.str (Str.ofString "divisor") 548, Value.str (Str.ofString "rest") 549, Value.str (Str.ofString "quotient") 550]) #[]
noncomputable def o_284 : Params → Obj := fun _ => Obj.mk (Value.type "tuple") none (Data.seq #[]) #[]
noncomputable def o_285 : Params → Obj := fun _ => Obj.mk Value.none none (Data.func (FuncData.mk (Str.ofString "divrem_school") (Str.ofString "divrem_school") (dr 33).params (FuncBody.stmts (dr 33).body) (dr 33).scope 0 [] Value.none Value.none Value.none Value.none none Value.none Value.none 0)) #[]
noncomputable def o_286 : Params → Obj := fun _ => Obj.mk (Value.type "code") none (Data.fields #[Value.str (Str.ofString "divrem_school") 541, Value.str (Str.ofString "divrem_school") 542, Value.str (Str.ofString "/claim/cut.py") 543, Value.int 166 0, Value.int 3 0, Value.int 0 0, Value.int 0 0, Value.int 3 0, Value.ref 234, Value.bool true, Value.int 181 0, Value.ref 235, Value.none, Value.ref 236, Value.ref 237, Value.ref 238, Value.int 551 0, Value.int 166 0, Value.str (Str.ofString "/claim/cut.py") 552]) #[]
noncomputable def o_287 : Params → Obj := fun _ => Obj.mk (Value.type "function") none (Data.func (FuncData.mk (Str.ofString "divrem_school") (Str.ofString "divrem_school") (dr 33).params (FuncBody.stmts (dr 33).body) (dr 33).scope 3 [] Value.none Value.none Value.none (Value.str (Str.ofString "gmp.school") 455) none (Value.ref 239) Value.none 0)) #[]
noncomputable def o_288 : Params → Obj := fun P => Obj.mk (Value.type "dict") none (Data.dict #[DictEntry.mk (PyData.keyHash P (Str.ofString "__name__")) (Value.str (Str.ofString "__name__") 165) (Value.str (Str.ofString "law_xm0404_01") 554), DictEntry.mk (PyData.keyHash P (Str.ofString "__doc__")) (Value.str (Str.ofString "__doc__") 166) Value.none, DictEntry.mk (PyData.keyHash P (Str.ofString "__package__")) (Value.str (Str.ofString "__package__") 167) Value.none, DictEntry.mk (PyData.keyHash P (Str.ofString "__loader__")) (Value.str (Str.ofString "__loader__") 168) (Value.builtin "__main__.__loader__#opaque"), DictEntry.mk (PyData.keyHash P (Str.ofString "__spec__")) (Value.str (Str.ofString "__spec__") 169) Value.none, DictEntry.mk (PyData.keyHash P (Str.ofString "__annotations__")) (Value.str (Str.ofString "__annotations__") 170) (Value.ref 6), DictEntry.mk (PyData.keyHash P (Str.ofString "__builtins__")) (Value.str (Str.ofString "__builtins__") 171) (Value.ref 4), DictEntry.mk (PyData.keyHash P (Str.ofString "__file__")) (Value.str (Str.ofString "__file__") 173) (Value.str (Str.ofString "/claim/cut.py") 172), DictEntry.mk (PyData.keyHash P (Str.ofString "__cached__")) (Value.str (Str.ofString "__cached__") 174) Value.none, DictEntry.mk (PyData.keyHash P (Str.ofString "GmpError")) (Value.str (Str.ofString "GmpError") 208) (Value.ref 24), DictEntry.mk (PyData.keyHash P (Str.ofString "DivisionByZero")) (Value.str (Str.ofString "DivisionByZero") 224) (Value.ref 37), DictEntry.mk (PyData.keyHash P (Str.ofString "OutOfRange")) (Value.str (Str.ofString "OutOfRange") 240) (Value.ref 49), DictEntry.mk (PyData.keyHash P (Str.ofString "normal")) (Value.str (Str.ofString "normal") 248) (Value.ref 58), DictEntry.mk (PyData.keyHash P (Str.ofString "compare")) (Value.str (Str.ofString "compare") 257) (Value.ref 65), DictEntry.mk (PyData.keyHash P (Str.ofString "add")) (Value.str (Str.ofString "add") 270) (Value.ref 72), DictEntry.mk (PyData.keyHash P (Str.ofString "sub")) (Value.str (Str.ofString "sub") 284) (Value.ref 79), DictEntry.mk (PyData.keyHash P (Str.ofString "divrem_limb")) (Value.str (Str.ofString "divrem_limb") 296) (Value.ref 86), DictEntry.mk (PyData.keyHash P (Str.ofString "shift_left")) (Value.str (Str.ofString "shift_left") 311) (Value.ref 93), DictEntry.mk (PyData.keyHash P (Str.ofString "shift_right")) (Value.str (Str.ofString "shift_right") 326) (Value.ref 100), DictEntry.mk (PyData.keyHash P (Str.ofString "bits")) (Value.str (Str.ofString "bits") 334) (Value.ref 107), DictEntry.mk (PyData.keyHash P (Str.ofString "signed")) (Value.str (Str.ofString "signed") 344) (Value.ref 114), DictEntry.mk (PyData.keyHash P (Str.ofString "s_neg")) (Value.str (Str.ofString "s_neg") 351) (Value.ref 121), DictEntry.mk (PyData.keyHash P (Str.ofString "s_add")) (Value.str (Str.ofString "s_add") 360) (Value.ref 128), DictEntry.mk (PyData.keyHash P (Str.ofString "s_mul")) (Value.str (Str.ofString "s_mul") 370) (Value.ref 135), DictEntry.mk (PyData.keyHash P (Str.ofString "common")) (Value.str (Str.ofString "common") 382) (Value.ref 142), DictEntry.mk (PyData.keyHash P (Str.ofString "cut_signed")) (Value.str (Str.ofString "cut_signed") 392) (Value.ref 149), DictEntry.mk (PyData.keyHash P (Str.ofString "signed_of")) (Value.str (Str.ofString "signed_of") 399) (Value.ref 156), DictEntry.mk (PyData.keyHash P (Str.ofString "r_neg")) (Value.str (Str.ofString "r_neg") 406) (Value.ref 163), DictEntry.mk (PyData.keyHash P (Str.ofString "r_add")) (Value.str (Str.ofString "r_add") 422) (Value.ref 170), DictEntry.mk (PyData.keyHash P (Str.ofString "r_sub")) (Value.str (Str.ofString "r_sub") 433) (Value.ref 177), DictEntry.mk (PyData.keyHash P (Str.ofString "r_mul")) (Value.str (Str.ofString "r_mul") 447) (Value.ref 184), DictEntry.mk (PyData.keyHash P (Str.ofString "r_inverse")) (Value.str (Str.ofString "r_inverse") 454) (Value.ref 191), DictEntry.mk (PyData.keyHash P (Str.ofString "mul_school")) (Value.str (Str.ofString "mul_school") 472) (Value.ref 198), DictEntry.mk (PyData.keyHash P (Str.ofString "divrem_small")) (Value.str (Str.ofString "divrem_small") 483) (Value.ref 205), DictEntry.mk (PyData.keyHash P (Str.ofString "guessed_limb")) (Value.str (Str.ofString "guessed_limb") 497) (Value.ref 212), DictEntry.mk (PyData.keyHash P (Str.ofString "take_away")) (Value.str (Str.ofString "take_away") 513) (Value.ref 219), DictEntry.mk (PyData.keyHash P (Str.ofString "put_back")) (Value.str (Str.ofString "put_back") 527) (Value.ref 226), DictEntry.mk (PyData.keyHash P (Str.ofString "divide_rows")) (Value.str (Str.ofString "divide_rows") 540) (Value.ref 233), DictEntry.mk (PyData.keyHash P (Str.ofString "divrem_school")) (Value.str (Str.ofString "divrem_school") 553) (Value.ref 240), DictEntry.mk (PyData.keyHash P (Str.ofString "_law_sawn")) (Value.str (Str.ofString "_law_sawn") 563) (Value.ref 247), DictEntry.mk (PyData.keyHash P (Str.ofString "_law_limbs")) (Value.str (Str.ofString "_law_limbs") 572) (Value.ref 254), DictEntry.mk (PyData.keyHash P (Str.ofString "_law_least")) (Value.str (Str.ofString "_law_least") 583) (Value.ref 261), DictEntry.mk (PyData.keyHash P (Str.ofString "_law_teeth")) (Value.str (Str.ofString "_law_teeth") 589) (Value.ref 266), DictEntry.mk (PyData.keyHash P (Str.ofString "_law_exchanged")) (Value.str (Str.ofString "_law_exchanged") 603) (Value.ref 273), DictEntry.mk (PyData.keyHash P (Str.ofString "law")) (Value.str (Str.ofString "law") 609) (Value.ref 278)] 45) #[]
noncomputable def o_289 : Params → Obj := fun _ => Obj.mk Value.none none (Data.fields #[Value.int 2 0, Value.int 0 0, Value.ref 20, Value.int 4 0, Value.int 0 0, Value.ref 33, Value.int 6 0, Value.int 0 0, Value.ref 45, Value.int 8 0, Value.int 0 0, Value.ref 57, Value.int 13 0, Value.int 0 0, Value.ref 64, Value.int 20 0, Value.int 0 0, Value.ref 71, Value.int 35 0, Value.int 0 0, Value.ref 78, Value.int 44 0, Value.int 0 0, Value.ref 85, Value.int 53 0, Value.int 0 0, Value.ref 92, Value.int 65 0, Value.int 0 0, Value.ref 99, Value.int 72 0, Value.int 0 0, Value.ref 106, Value.int 75 0, Value.int 0 0, Value.ref 113, Value.int 77 0, Value.int 0 0, Value.ref 120, Value.int 79 0, Value.int 0 0, Value.ref 127, Value.int 85 0, Value.int 0 0, Value.ref 134, Value.int 88 0, Value.int 0 0, Value.ref 141, Value.int 92 0, Value.int 0 0, Value.ref 148, Value.int 94 0, Value.int 0 0, Value.ref 155, Value.int 96 0, Value.int 0 0, Value.ref 162, Value.int 98 0, Value.int 0 0, Value.ref 169, Value.int 106 0, Value.int 0 0, Value.ref 176, Value.int 108 0, Value.int 0 0, Value.ref 183, Value.int 114 0, Value.int 0 0, Value.ref 190, Value.int 119 0, Value.int 0 0, Value.ref 197, Value.int 129 0, Value.int 0 0, Value.ref 204, Value.int 132 0, Value.int 0 0, Value.ref 211, Value.int 140 0, Value.int 0 0, Value.ref 218, Value.int 149 0, Value.int 0 0, Value.ref 225, Value.int 156 0, Value.int 0 0, Value.ref 232, Value.int 166 0, Value.int 0 0, Value.ref 239, Value.int 180 0, Value.int 0 0, Value.ref 246, Value.int 185 0, Value.int 0 0, Value.ref 253, Value.int 191 0, Value.int 0 0, Value.ref 260, Value.int 196 0, Value.int 0 0, Value.ref 265, Value.int 198 0, Value.int 0 0, Value.ref 272, Value.int 205 0, Value.int 0 0, Value.ref 277]) #[]
noncomputable def o_290 : Params → Obj := fun _ => Obj.mk (Value.type "tuple") none (Data.seq #[]) #[]
noncomputable def o_291 : Params → Obj := fun _ => Obj.mk Value.none none (Data.fields #[]) #[]
noncomputable def o_292 : Params → Obj := fun _ => Obj.mk (Value.type "tuple") none (Data.seq #[Value.str (Str.ofString "blade") 559, Value.str (Str.ofString "many") 560]) #[]
noncomputable def o_293 : Params → Obj := fun _ => Obj.mk (Value.type "tuple") none (Data.seq #[]) #[]
noncomputable def o_294 : Params → Obj := fun _ => Obj.mk Value.none none (Data.func (FuncData.mk (Str.ofString "_law_sawn") (Str.ofString "_law_sawn") (dr 35).params (FuncBody.stmts (dr 35).body) (dr 35).scope 0 [] Value.none Value.none Value.none Value.none none Value.none Value.none 0)) #[]
noncomputable def o_295 : Params → Obj := fun _ => Obj.mk (Value.type "code") none (Data.fields #[Value.str (Str.ofString "_law_sawn") 556, Value.str (Str.ofString "_law_sawn") 557, Value.str (Str.ofString "/claim/cut.py") 558, Value.int 180 0, Value.int 2 0, Value.int 0 0, Value.int 0 0, Value.int 3 0, Value.ref 241, Value.bool true, Value.int 181 0, Value.ref 242, Value.none, Value.ref 243, Value.ref 244, Value.ref 245, Value.int 561 0, Value.int 180 0, Value.str (Str.ofString "/claim/cut.py") 562]) #[]
noncomputable def o_296 : Params → Obj := fun _ => Obj.mk (Value.type "function") none (Data.func (FuncData.mk (Str.ofString "_law_sawn") (Str.ofString "_law_sawn") (dr 35).params (FuncBody.stmts (dr 35).body) (dr 35).scope 3 [] Value.none Value.none Value.none (Value.str (Str.ofString "law_xm0404_01") 554) none (Value.ref 246) Value.none 0)) #[]
noncomputable def o_297 : Params → Obj := fun _ => Obj.mk (Value.type "tuple") none (Data.seq #[]) #[]
noncomputable def o_298 : Params → Obj := fun _ => Obj.mk Value.none none (Data.fields #[]) #[]
noncomputable def o_299 : Params → Obj := fun _ => Obj.mk (Value.type "tuple") none (Data.seq #[Value.str (Str.ofString "number") 567, Value.str (Str.ofString "w") 568, Value.str (Str.ofString "found") 569]) #[]
noncomputable def o_300 : Params → Obj := fun _ => Obj.mk (Value.type "tuple") none (Data.seq #[]) #[]
noncomputable def o_301 : Params → Obj := fun _ => Obj.mk Value.none none (Data.func (FuncData.mk (Str.ofString "_law_limbs") (Str.ofString "_law_limbs") (dr 36).params (FuncBody.stmts (dr 36).body) (dr 36).scope 0 [] Value.none Value.none Value.none Value.none none Value.none Value.none 0)) #[]
noncomputable def o_302 : Params → Obj := fun _ => Obj.mk (Value.type "code") none (Data.fields #[Value.str (Str.ofString "_law_limbs") 564, Value.str (Str.ofString "_law_limbs") 565, Value.str (Str.ofString "/claim/cut.py") 566, Value.int 185 0, Value.int 2 0, Value.int 0 0, Value.int 0 0, Value.int 3 0, Value.ref 248, Value.bool true, Value.int 181 0, Value.ref 249, Value.none, Value.ref 250, Value.ref 251, Value.ref 252, Value.int 570 0, Value.int 185 0, Value.str (Str.ofString "/claim/cut.py") 571]) #[]
noncomputable def o_303 : Params → Obj := fun _ => Obj.mk (Value.type "function") none (Data.func (FuncData.mk (Str.ofString "_law_limbs") (Str.ofString "_law_limbs") (dr 36).params (FuncBody.stmts (dr 36).body) (dr 36).scope 3 [] Value.none Value.none Value.none (Value.str (Str.ofString "law_xm0404_01") 554) none (Value.ref 253) Value.none 0)) #[]
noncomputable def o_304 : Params → Obj := fun _ => Obj.mk (Value.type "tuple") none (Data.seq #[]) #[]
noncomputable def o_305 : Params → Obj := fun _ => Obj.mk Value.none none (Data.fields #[]) #[]
noncomputable def o_306 : Params → Obj := fun _ => Obj.mk (Value.type "tuple") none (Data.seq #[Value.str (Str.ofString "top") 576, Value.str (Str.ofString "bottom") 577, Value.str (Str.ofString "w") 578, Value.str (Str.ofString "here") 579, Value.str (Str.ofString "there") 580]) #[]
noncomputable def o_307 : Params → Obj := fun _ => Obj.mk (Value.type "tuple") none (Data.seq #[]) #[]
noncomputable def o_308 : Params → Obj := fun _ => Obj.mk Value.none none (Data.func (FuncData.mk (Str.ofString "_law_least") (Str.ofString "_law_least") (dr 37).params (FuncBody.stmts (dr 37).body) (dr 37).scope 0 [] Value.none Value.none Value.none Value.none none Value.none Value.none 0)) #[]
noncomputable def o_309 : Params → Obj := fun _ => Obj.mk (Value.type "code") none (Data.fields #[Value.str (Str.ofString "_law_least") 573, Value.str (Str.ofString "_law_least") 574, Value.str (Str.ofString "/claim/cut.py") 575, Value.int 191 0, Value.int 3 0, Value.int 0 0, Value.int 0 0, Value.int 3 0, Value.ref 255, Value.bool true, Value.int 181 0, Value.ref 256, Value.none, Value.ref 257, Value.ref 258, Value.ref 259, Value.int 581 0, Value.int 191 0, Value.str (Str.ofString "/claim/cut.py") 582]) #[]
noncomputable def o_310 : Params → Obj := fun _ => Obj.mk (Value.type "function") none (Data.func (FuncData.mk (Str.ofString "_law_least") (Str.ofString "_law_least") (dr 37).params (FuncBody.stmts (dr 37).body) (dr 37).scope 3 [] Value.none Value.none Value.none (Value.str (Str.ofString "law_xm0404_01") 554) none (Value.ref 260) Value.none 0)) #[]
noncomputable def o_311 : Params → Obj := fun _ => Obj.mk (Value.type "tuple") none (Data.seq #[]) #[]
noncomputable def o_312 : Params → Obj := fun _ => Obj.mk Value.none none (Data.fields #[]) #[]
noncomputable def o_313 : Params → Obj := fun _ => Obj.mk Value.none none (Data.func (FuncData.mk (Str.ofString "_law_teeth") (Str.ofString "_law_teeth") (dr 38).params (FuncBody.stmts (dr 38).body) (dr 38).scope 0 [] Value.none Value.none Value.none Value.none none Value.none Value.none 0)) #[]
noncomputable def o_314 : Params → Obj := fun _ => Obj.mk (Value.type "code") none (Data.fields #[Value.str (Str.ofString "_law_teeth") 584, Value.str (Str.ofString "_law_teeth") 585, Value.str (Str.ofString "/claim/cut.py") 586, Value.int 196 0, Value.int 2 0, Value.int 0 0, Value.int 0 0, Value.int 3 0, Value.ref 262, Value.bool true, Value.int 181 0, Value.ref 263, Value.none, Value.none, Value.none, Value.ref 264, Value.int 587 0, Value.int 196 0, Value.str (Str.ofString "/claim/cut.py") 588]) #[]
noncomputable def o_315 : Params → Obj := fun _ => Obj.mk (Value.type "function") none (Data.func (FuncData.mk (Str.ofString "_law_teeth") (Str.ofString "_law_teeth") (dr 38).params (FuncBody.stmts (dr 38).body) (dr 38).scope 3 [] Value.none Value.none Value.none (Value.str (Str.ofString "law_xm0404_01") 554) none (Value.ref 265) Value.none 0)) #[]
noncomputable def o_316 : Params → Obj := fun _ => Obj.mk (Value.type "tuple") none (Data.seq #[]) #[]
noncomputable def o_317 : Params → Obj := fun _ => Obj.mk Value.none none (Data.fields #[]) #[]
noncomputable def o_318 : Params → Obj := fun _ => Obj.mk (Value.type "tuple") none (Data.seq #[Value.str (Str.ofString "h") 593, Value.str (Str.ofString "k") 594, Value.str (Str.ofString "later") 595, Value.str (Str.ofString "w") 596, Value.str (Str.ofString "quotient") 597, Value.str (Str.ofString "three") 598, Value.str (Str.ofString "twelfth") 599, Value.str (Str.ofString "less") 600]) #[]
noncomputable def o_319 : Params → Obj := fun _ => Obj.mk (Value.type "tuple") none (Data.seq #[]) #[]
noncomputable def o_320 : Params → Obj := fun _ => Obj.mk Value.none none (Data.func (FuncData.mk (Str.ofString "_law_exchanged") (Str.ofString "_law_exchanged") (dr 39).params (FuncBody.stmts (dr 39).body) (dr 39).scope 0 [] Value.none Value.none Value.none Value.none none Value.none Value.none 0)) #[]
noncomputable def o_321 : Params → Obj := fun _ => Obj.mk (Value.type "code") none (Data.fields #[Value.str (Str.ofString "_law_exchanged") 590, Value.str (Str.ofString "_law_exchanged") 591, Value.str (Str.ofString "/claim/cut.py") 592, Value.int 198 0, Value.int 4 0, Value.int 0 0, Value.int 0 0, Value.int 3 0, Value.ref 267, Value.bool true, Value.int 181 0, Value.ref 268, Value.none, Value.ref 269, Value.ref 270, Value.ref 271, Value.int 601 0, Value.int 198 0, Value.str (Str.ofString "/claim/cut.py") 602]) #[]
noncomputable def o_322 : Params → Obj := fun _ => Obj.mk (Value.type "function") none (Data.func (FuncData.mk (Str.ofString "_law_exchanged") (Str.ofString "_law_exchanged") (dr 39).params (FuncBody.stmts (dr 39).body) (dr 39).scope 3 [] Value.none Value.none Value.none (Value.str (Str.ofString "law_xm0404_01") 554) none (Value.ref 272) Value.none 0)) #[]
noncomputable def o_323 : Params → Obj := fun _ => Obj.mk (Value.type "tuple") none (Data.seq #[]) #[]
noncomputable def o_324 : Params → Obj := fun _ => Obj.mk Value.none none (Data.fields #[]) #[]
noncomputable def o_325 : Params → Obj := fun _ => Obj.mk Value.none none (Data.func (FuncData.mk (Str.ofString "law") (Str.ofString "law") (dr 40).params (FuncBody.stmts (dr 40).body) (dr 40).scope 0 [] Value.none Value.none Value.none Value.none none Value.none Value.none 0)) #[]
noncomputable def o_326 : Params → Obj := fun _ => Obj.mk (Value.type "code") none (Data.fields #[Value.str (Str.ofString "law") 604, Value.str (Str.ofString "law") 605, Value.str (Str.ofString "/claim/cut.py") 606, Value.int 205 0, Value.int 1 0, Value.int 0 0, Value.int 0 0, Value.int 3 0, Value.ref 274, Value.bool true, Value.int 181 0, Value.ref 275, Value.none, Value.none, Value.none, Value.ref 276, Value.int 607 0, Value.int 205 0, Value.str (Str.ofString "/claim/cut.py") 608]) #[]
noncomputable def o_327 : Params → Obj := fun _ => Obj.mk (Value.type "function") none (Data.func (FuncData.mk (Str.ofString "law") (Str.ofString "law") (dr 40).params (FuncBody.stmts (dr 40).body) (dr 40).scope 3 [] Value.none Value.none Value.none (Value.str (Str.ofString "law_xm0404_01") 554) none (Value.ref 277) Value.none 0)) #[]
noncomputable def tree_129 : Params → BT := fun P => BT.node (boot_o_0 P) (BT.node (boot_o_1 P) (BT.node (o_80 P) (BT.node (boot_o_7 P) (BT.node (o_52 P) (BT.node (o_71 P) (BT.node (o_106 P) BT.nil BT.nil) BT.nil) (BT.node (o_90 P) (BT.node (o_122 P) BT.nil BT.nil) BT.nil)) (BT.node (o_60 P) (BT.node (o_79 P) (BT.node (o_114 P) BT.nil BT.nil) BT.nil) (BT.node (o_98 P) BT.nil BT.nil))) (BT.node (o_43 P) (BT.node (o_56 P) (BT.node (o_75 P) (BT.node (o_110 P) BT.nil BT.nil) BT.nil) (BT.node (o_94 P) (BT.node (o_126 P) BT.nil BT.nil) BT.nil)) (BT.node (o_64 P) (BT.node (o_86 P) (BT.node (o_118 P) BT.nil BT.nil) BT.nil) (BT.node (o_102 P) BT.nil BT.nil)))) (BT.node (boot_o_5 P) (BT.node (boot_o_9 P) (BT.node (o_54 P) (BT.node (o_73 P) (BT.node (o_108 P) BT.nil BT.nil) BT.nil) (BT.node (o_92 P) (BT.node (o_124 P) BT.nil BT.nil) BT.nil)) (BT.node (o_62 P) (BT.node (o_84 P) (BT.node (o_116 P) BT.nil BT.nil) BT.nil) (BT.node (o_100 P) BT.nil BT.nil))) (BT.node (o_45 P) (BT.node (o_58 P) (BT.node (o_77 P) (BT.node (o_112 P) BT.nil BT.nil) BT.nil) (BT.node (o_96 P) (BT.node (o_128 P) BT.nil BT.nil) BT.nil)) (BT.node (o_69 P) (BT.node (o_88 P) (BT.node (o_120 P) BT.nil BT.nil) BT.nil) (BT.node (o_104 P) BT.nil BT.nil))))) (BT.node (o_49 P) (BT.node (boot_o_4 P) (BT.node (boot_o_8 P) (BT.node (o_53 P) (BT.node (o_72 P) (BT.node (o_107 P) BT.nil BT.nil) BT.nil) (BT.node (o_91 P) (BT.node (o_123 P) BT.nil BT.nil) BT.nil)) (BT.node (o_82 P) (BT.node (o_83 P) (BT.node (o_115 P) BT.nil BT.nil) BT.nil) (BT.node (o_99 P) BT.nil BT.nil))) (BT.node (o_81 P) (BT.node (o_57 P) (BT.node (o_76 P) (BT.node (o_111 P) BT.nil BT.nil) BT.nil) (BT.node (o_95 P) (BT.node (o_127 P) BT.nil BT.nil) BT.nil)) (BT.node (o_68 P) (BT.node (o_87 P) (BT.node (o_119 P) BT.nil BT.nil) BT.nil) (BT.node (o_103 P) BT.nil BT.nil)))) (BT.node (boot_o_6 P) (BT.node (boot_o_10 P) (BT.node (o_55 P) (BT.node (o_74 P) (BT.node (o_109 P) BT.nil BT.nil) BT.nil) (BT.node (o_93 P) (BT.node (o_125 P) BT.nil BT.nil) BT.nil)) (BT.node (o_63 P) (BT.node (o_85 P) (BT.node (o_117 P) BT.nil BT.nil) BT.nil) (BT.node (o_101 P) BT.nil BT.nil))) (BT.node (o_46 P) (BT.node (o_59 P) (BT.node (o_78 P) (BT.node (o_113 P) BT.nil BT.nil) BT.nil) (BT.node (o_97 P) (BT.node (o_129 P) BT.nil BT.nil) BT.nil)) (BT.node (o_70 P) (BT.node (o_89 P) (BT.node (o_121 P) BT.nil BT.nil) BT.nil) (BT.node (o_105 P) BT.nil BT.nil)))))
noncomputable def tree_327 : Params → BT := fun P => BT.node (boot_o_0 P) (BT.node (boot_o_1 P) (BT.node (o_288 P) (BT.node (boot_o_7 P) (BT.node (o_52 P) (BT.node (o_71 P) (BT.node (o_106 P) (BT.node (o_172 P) (BT.node (o_304 P) BT.nil BT.nil) BT.nil) (BT.node (o_238 P) BT.nil BT.nil)) (BT.node (o_140 P) (BT.node (o_204 P) BT.nil BT.nil) (BT.node (o_270 P) BT.nil BT.nil))) (BT.node (o_90 P) (BT.node (o_122 P) (BT.node (o_188 P) (BT.node (o_320 P) BT.nil BT.nil) BT.nil) (BT.node (o_254 P) BT.nil BT.nil)) (BT.node (o_156 P) (BT.node (o_222 P) BT.nil BT.nil) (BT.node (o_286 P) BT.nil BT.nil)))) (BT.node (o_60 P) (BT.node (o_79 P) (BT.node (o_114 P) (BT.node (o_180 P) (BT.node (o_312 P) BT.nil BT.nil) BT.nil) (BT.node (o_246 P) BT.nil BT.nil)) (BT.node (o_148 P) (BT.node (o_214 P) BT.nil BT.nil) (BT.node (o_278 P) BT.nil BT.nil))) (BT.node (o_98 P) (BT.node (o_132 P) (BT.node (o_196 P) BT.nil BT.nil) (BT.node (o_262 P) BT.nil BT.nil)) (BT.node (o_164 P) (BT.node (o_230 P) BT.nil BT.nil) (BT.node (o_296 P) BT.nil BT.nil))))) (BT.node (o_43 P) (BT.node (o_56 P) (BT.node (o_75 P) (BT.node (o_110 P) (BT.node (o_176 P) (BT.node (o_308 P) BT.nil BT.nil) BT.nil) (BT.node (o_242 P) BT.nil BT.nil)) (BT.node (o_144 P) (BT.node (o_208 P) BT.nil BT.nil) (BT.node (o_274 P) BT.nil BT.nil))) (BT.node (o_94 P) (BT.node (o_126 P) (BT.node (o_192 P) (BT.node (o_324 P) BT.nil BT.nil) BT.nil) (BT.node (o_258 P) BT.nil BT.nil)) (BT.node (o_160 P) (BT.node (o_226 P) BT.nil BT.nil) (BT.node (o_292 P) BT.nil BT.nil)))) (BT.node (o_64 P) (BT.node (o_86 P) (BT.node (o_118 P) (BT.node (o_184 P) (BT.node (o_316 P) BT.nil BT.nil) BT.nil) (BT.node (o_250 P) BT.nil BT.nil)) (BT.node (o_152 P) (BT.node (o_218 P) BT.nil BT.nil) (BT.node (o_282 P) BT.nil BT.nil))) (BT.node (o_102 P) (BT.node (o_136 P) (BT.node (o_200 P) BT.nil BT.nil) (BT.node (o_266 P) BT.nil BT.nil)) (BT.node (o_168 P) (BT.node (o_234 P) BT.nil BT.nil) (BT.node (o_300 P) BT.nil BT.nil)))))) (BT.node (boot_o_5 P) (BT.node (boot_o_9 P) (BT.node (o_54 P) (BT.node (o_73 P) (BT.node (o_108 P) (BT.node (o_174 P) (BT.node (o_306 P) BT.nil BT.nil) BT.nil) (BT.node (o_240 P) BT.nil BT.nil)) (BT.node (o_142 P) (BT.node (o_206 P) BT.nil BT.nil) (BT.node (o_272 P) BT.nil BT.nil))) (BT.node (o_92 P) (BT.node (o_124 P) (BT.node (o_190 P) (BT.node (o_322 P) BT.nil BT.nil) BT.nil) (BT.node (o_256 P) BT.nil BT.nil)) (BT.node (o_158 P) (BT.node (o_224 P) BT.nil BT.nil) (BT.node (o_290 P) BT.nil BT.nil)))) (BT.node (o_62 P) (BT.node (o_84 P) (BT.node (o_116 P) (BT.node (o_182 P) (BT.node (o_314 P) BT.nil BT.nil) BT.nil) (BT.node (o_248 P) BT.nil BT.nil)) (BT.node (o_150 P) (BT.node (o_216 P) BT.nil BT.nil) (BT.node (o_280 P) BT.nil BT.nil))) (BT.node (o_100 P) (BT.node (o_134 P) (BT.node (o_198 P) BT.nil BT.nil) (BT.node (o_264 P) BT.nil BT.nil)) (BT.node (o_166 P) (BT.node (o_232 P) BT.nil BT.nil) (BT.node (o_298 P) BT.nil BT.nil))))) (BT.node (o_45 P) (BT.node (o_58 P) (BT.node (o_77 P) (BT.node (o_112 P) (BT.node (o_178 P) (BT.node (o_310 P) BT.nil BT.nil) BT.nil) (BT.node (o_244 P) BT.nil BT.nil)) (BT.node (o_146 P) (BT.node (o_212 P) BT.nil BT.nil) (BT.node (o_276 P) BT.nil BT.nil))) (BT.node (o_96 P) (BT.node (o_128 P) (BT.node (o_194 P) (BT.node (o_326 P) BT.nil BT.nil) BT.nil) (BT.node (o_260 P) BT.nil BT.nil)) (BT.node (o_162 P) (BT.node (o_228 P) BT.nil BT.nil) (BT.node (o_294 P) BT.nil BT.nil)))) (BT.node (o_69 P) (BT.node (o_88 P) (BT.node (o_120 P) (BT.node (o_186 P) (BT.node (o_318 P) BT.nil BT.nil) BT.nil) (BT.node (o_252 P) BT.nil BT.nil)) (BT.node (o_154 P) (BT.node (o_220 P) BT.nil BT.nil) (BT.node (o_284 P) BT.nil BT.nil))) (BT.node (o_104 P) (BT.node (o_138 P) (BT.node (o_202 P) BT.nil BT.nil) (BT.node (o_268 P) BT.nil BT.nil)) (BT.node (o_170 P) (BT.node (o_236 P) BT.nil BT.nil) (BT.node (o_302 P) BT.nil BT.nil))))))) (BT.node (o_49 P) (BT.node (boot_o_4 P) (BT.node (boot_o_8 P) (BT.node (o_53 P) (BT.node (o_72 P) (BT.node (o_107 P) (BT.node (o_173 P) (BT.node (o_305 P) BT.nil BT.nil) BT.nil) (BT.node (o_239 P) BT.nil BT.nil)) (BT.node (o_141 P) (BT.node (o_205 P) BT.nil BT.nil) (BT.node (o_271 P) BT.nil BT.nil))) (BT.node (o_91 P) (BT.node (o_123 P) (BT.node (o_189 P) (BT.node (o_321 P) BT.nil BT.nil) BT.nil) (BT.node (o_255 P) BT.nil BT.nil)) (BT.node (o_157 P) (BT.node (o_223 P) BT.nil BT.nil) (BT.node (o_287 P) BT.nil BT.nil)))) (BT.node (o_82 P) (BT.node (o_83 P) (BT.node (o_115 P) (BT.node (o_181 P) (BT.node (o_313 P) BT.nil BT.nil) BT.nil) (BT.node (o_247 P) BT.nil BT.nil)) (BT.node (o_149 P) (BT.node (o_215 P) BT.nil BT.nil) (BT.node (o_279 P) BT.nil BT.nil))) (BT.node (o_99 P) (BT.node (o_133 P) (BT.node (o_197 P) BT.nil BT.nil) (BT.node (o_263 P) BT.nil BT.nil)) (BT.node (o_165 P) (BT.node (o_231 P) BT.nil BT.nil) (BT.node (o_297 P) BT.nil BT.nil))))) (BT.node (o_289 P) (BT.node (o_57 P) (BT.node (o_76 P) (BT.node (o_111 P) (BT.node (o_177 P) (BT.node (o_309 P) BT.nil BT.nil) BT.nil) (BT.node (o_243 P) BT.nil BT.nil)) (BT.node (o_145 P) (BT.node (o_211 P) BT.nil BT.nil) (BT.node (o_275 P) BT.nil BT.nil))) (BT.node (o_95 P) (BT.node (o_127 P) (BT.node (o_193 P) (BT.node (o_325 P) BT.nil BT.nil) BT.nil) (BT.node (o_259 P) BT.nil BT.nil)) (BT.node (o_161 P) (BT.node (o_227 P) BT.nil BT.nil) (BT.node (o_293 P) BT.nil BT.nil)))) (BT.node (o_68 P) (BT.node (o_87 P) (BT.node (o_119 P) (BT.node (o_185 P) (BT.node (o_317 P) BT.nil BT.nil) BT.nil) (BT.node (o_251 P) BT.nil BT.nil)) (BT.node (o_153 P) (BT.node (o_219 P) BT.nil BT.nil) (BT.node (o_283 P) BT.nil BT.nil))) (BT.node (o_103 P) (BT.node (o_137 P) (BT.node (o_201 P) BT.nil BT.nil) (BT.node (o_267 P) BT.nil BT.nil)) (BT.node (o_169 P) (BT.node (o_235 P) BT.nil BT.nil) (BT.node (o_301 P) BT.nil BT.nil)))))) (BT.node (boot_o_6 P) (BT.node (boot_o_10 P) (BT.node (o_55 P) (BT.node (o_74 P) (BT.node (o_109 P) (BT.node (o_175 P) (BT.node (o_307 P) BT.nil BT.nil) BT.nil) (BT.node (o_241 P) BT.nil BT.nil)) (BT.node (o_143 P) (BT.node (o_207 P) BT.nil BT.nil) (BT.node (o_273 P) BT.nil BT.nil))) (BT.node (o_93 P) (BT.node (o_125 P) (BT.node (o_191 P) (BT.node (o_323 P) BT.nil BT.nil) BT.nil) (BT.node (o_257 P) BT.nil BT.nil)) (BT.node (o_159 P) (BT.node (o_225 P) BT.nil BT.nil) (BT.node (o_291 P) BT.nil BT.nil)))) (BT.node (o_63 P) (BT.node (o_85 P) (BT.node (o_117 P) (BT.node (o_183 P) (BT.node (o_315 P) BT.nil BT.nil) BT.nil) (BT.node (o_249 P) BT.nil BT.nil)) (BT.node (o_151 P) (BT.node (o_217 P) BT.nil BT.nil) (BT.node (o_281 P) BT.nil BT.nil))) (BT.node (o_101 P) (BT.node (o_135 P) (BT.node (o_199 P) BT.nil BT.nil) (BT.node (o_265 P) BT.nil BT.nil)) (BT.node (o_167 P) (BT.node (o_233 P) BT.nil BT.nil) (BT.node (o_299 P) BT.nil BT.nil))))) (BT.node (o_46 P) (BT.node (o_59 P) (BT.node (o_78 P) (BT.node (o_113 P) (BT.node (o_179 P) (BT.node (o_311 P) BT.nil BT.nil) BT.nil) (BT.node (o_245 P) BT.nil BT.nil)) (BT.node (o_147 P) (BT.node (o_213 P) BT.nil BT.nil) (BT.node (o_277 P) BT.nil BT.nil))) (BT.node (o_97 P) (BT.node (o_129 P) (BT.node (o_195 P) (BT.node (o_327 P) BT.nil BT.nil) BT.nil) (BT.node (o_261 P) BT.nil BT.nil)) (BT.node (o_163 P) (BT.node (o_229 P) BT.nil BT.nil) (BT.node (o_295 P) BT.nil BT.nil)))) (BT.node (o_70 P) (BT.node (o_89 P) (BT.node (o_121 P) (BT.node (o_187 P) (BT.node (o_319 P) BT.nil BT.nil) BT.nil) (BT.node (o_253 P) BT.nil BT.nil)) (BT.node (o_155 P) (BT.node (o_221 P) BT.nil BT.nil) (BT.node (o_285 P) BT.nil BT.nil))) (BT.node (o_105 P) (BT.node (o_139 P) (BT.node (o_203 P) BT.nil BT.nil) (BT.node (o_269 P) BT.nil BT.nil)) (BT.node (o_171 P) (BT.node (o_237 P) BT.nil BT.nil) (BT.node (o_303 P) BT.nil BT.nil)))))))
noncomputable def heap_328 : Params → Heap := fun P => Heap.mk (Array.mk [boot_o_0 P, boot_o_1 P, o_49 P, o_288 P, boot_o_4 P, boot_o_5 P, boot_o_6 P, boot_o_7 P, boot_o_8 P, boot_o_9 P, boot_o_10 P, o_43 P, o_289 P, o_45 P, o_46 P, o_52 P, o_53 P, o_54 P, o_55 P, o_56 P, o_57 P, o_58 P, o_59 P, o_60 P, o_82 P, o_62 P, o_63 P, o_64 P, o_68 P, o_69 P, o_70 P, o_71 P, o_72 P, o_73 P, o_74 P, o_75 P, o_76 P, o_77 P, o_78 P, o_79 P, o_83 P, o_84 P, o_85 P, o_86 P, o_87 P, o_88 P, o_89 P, o_90 P, o_91 P, o_92 P, o_93 P, o_94 P, o_95 P, o_96 P, o_97 P, o_98 P, o_99 P, o_100 P, o_101 P, o_102 P, o_103 P, o_104 P, o_105 P, o_106 P, o_107 P, o_108 P, o_109 P, o_110 P, o_111 P, o_112 P, o_113 P, o_114 P, o_115 P, o_116 P, o_117 P, o_118 P, o_119 P, o_120 P, o_121 P, o_122 P, o_123 P, o_124 P, o_125 P, o_126 P, o_127 P, o_128 P, o_129 P, o_132 P, o_133 P, o_134 P, o_135 P, o_136 P, o_137 P, o_138 P, o_139 P, o_140 P, o_141 P, o_142 P, o_143 P, o_144 P, o_145 P, o_146 P, o_147 P, o_148 P, o_149 P, o_150 P, o_151 P, o_152 P, o_153 P, o_154 P, o_155 P, o_156 P, o_157 P, o_158 P, o_159 P, o_160 P, o_161 P, o_162 P, o_163 P, o_164 P, o_165 P, o_166 P, o_167 P, o_168 P, o_169 P, o_170 P, o_171 P, o_172 P, o_173 P, o_174 P, o_175 P, o_176 P, o_177 P, o_178 P, o_179 P, o_180 P, o_181 P, o_182 P, o_183 P, o_184 P, o_185 P, o_186 P, o_187 P, o_188 P, o_189 P, o_190 P, o_191 P, o_192 P, o_193 P, o_194 P, o_195 P, o_196 P, o_197 P, o_198 P, o_199 P, o_200 P, o_201 P, o_202 P, o_203 P, o_204 P, o_205 P, o_206 P, o_207 P, o_208 P, o_211 P, o_212 P, o_213 P, o_214 P, o_215 P, o_216 P, o_217 P, o_218 P, o_219 P, o_220 P, o_221 P, o_222 P, o_223 P, o_224 P, o_225 P, o_226 P, o_227 P, o_228 P, o_229 P, o_230 P, o_231 P, o_232 P, o_233 P, o_234 P, o_235 P, o_236 P, o_237 P, o_238 P, o_239 P, o_240 P, o_241 P, o_242 P, o_243 P, o_244 P, o_245 P, o_246 P, o_247 P, o_248 P, o_249 P, o_250 P, o_251 P, o_252 P, o_253 P, o_254 P, o_255 P, o_256 P, o_257 P, o_258 P, o_259 P, o_260 P, o_261 P, o_262 P, o_263 P, o_264 P, o_265 P, o_266 P, o_267 P, o_268 P, o_269 P, o_270 P, o_271 P, o_272 P, o_273 P, o_274 P, o_275 P, o_276 P, o_277 P, o_278 P, o_279 P, o_280 P, o_281 P, o_282 P, o_283 P, o_284 P, o_285 P, o_286 P, o_287 P, o_290 P, o_291 P, o_292 P, o_293 P, o_294 P, o_295 P, o_296 P, o_297 P, o_298 P, o_299 P, o_300 P, o_301 P, o_302 P, o_303 P, o_304 P, o_305 P, o_306 P, o_307 P, o_308 P, o_309 P, o_310 P, o_311 P, o_312 P, o_313 P, o_314 P, o_315 P, o_316 P, o_317 P, o_318 P, o_319 P, o_320 P, o_321 P, o_322 P, o_323 P, o_324 P, o_325 P, o_326 P, o_327 P]) (Life.mk [] [] [] 0 [] [] false #[] [] 0 false false false 0 [2000, 10, 10] false 0 true [] [] 0 false)
noncomputable def heap_46 : Params → Heap := fun P => Heap.mk (Array.mk [boot_o_0 P, boot_o_1 P, boot_o_2 P, boot_o_3 P, boot_o_4 P, boot_o_5 P, boot_o_6 P, boot_o_7 P, boot_o_8 P, boot_o_9 P, boot_o_10 P, o_43 P, o_44 P, o_45 P, o_46 P]) (Life.mk [] [] [] 0 [] [] false #[] [] 0 false false false 0 [2000, 10, 10] false 0 true [] [] 0 false)
noncomputable def tree_47 : Params → BT := fun P => BT.node (boot_o_0 P) (BT.node (boot_o_1 P) (BT.node (boot_o_3 P) (BT.node (boot_o_7 P) BT.nil BT.nil) (BT.node (o_43 P) BT.nil BT.nil)) (BT.node (boot_o_5 P) (BT.node (boot_o_9 P) BT.nil BT.nil) (BT.node (o_45 P) BT.nil BT.nil))) (BT.node (boot_o_2 P) (BT.node (boot_o_4 P) (BT.node (boot_o_8 P) BT.nil BT.nil) (BT.node (o_44 P) BT.nil BT.nil)) (BT.node (boot_o_6 P) (BT.node (boot_o_10 P) BT.nil BT.nil) (BT.node (o_46 P) BT.nil BT.nil)))
abbrev sT (t : BT) (n k : Nat) (os : OsState) : SharedT := SharedT.mk t n {} (Array.mk []) {} k os
theorem step1 (w : World) (os : OsState) : topGo treeTable PP w 11 (some (Value.ref 6)) 12 { heap := boot_heap w.params, gens := Array.mk [], drawn := boot_drawn, toks := boot_toks, os := os } (topStub PP) =
    some ({ heap := heap_46 w.params, gens := Array.mk [], drawn := {}, toks := 187, os := os }, { cur := denote treeTable cd0, code := cd0, pos := q0, stack := [topFrame q0] }) := by kernel_rfl
theorem step2 (w : World) (os : OsState) : segRun treeTable PP w 11 (some (Value.ref 6)) 1 1 { heap := heap_46 w.params, gens := Array.mk [], drawn := {}, toks := 187, os := os } (blockOf (behindTheImports PP) envT cd0 q0 [topFrame q0]) =
    some (Flow.next, (sT (tree_47 w.params) 15 187 os).abs, cd0, q0) := by kernel_rfl
def gr1 : List Stmt := ((behindTheImports PP).drop 0).take 9
theorem gr1_run (w : World) (os : OsState) : segRunT treeTable PP w 11 (some (Value.ref 6)) 1 800 (sT (tree_47 w.params) 15 187 os) (piecesOf gr1 envT cd0 (Pos.mk 0 0 0 0) [topFrame q0]) =
    some (Flow.next, sT (tree_129 w.params) 87 297 os, cd0, Pos.mk 44 0 52 32) := by kernel_rfl
def gr2 : List Stmt := ((behindTheImports PP).drop 9).take 32
theorem gr2_run (w : World) (os : OsState) : segRunT treeTable PP w 11 (some (Value.ref 6)) 1 956 (sT (tree_129 w.params) 87 297 os) (piecesOf gr2 envT cd0 (Pos.mk 44 0 52 32) [topFrame q0]) =
    some (Flow.next, sT (tree_327 w.params) 279 610 os, cd0, Pos.mk 205 0 222 15) := by kernel_rfl
noncomputable abbrev sF (w : World) (os : OsState) : Shared := Shared.mk (heap_328 w.params) (Array.mk []) {} 610 os
theorem step4 (w : World) (os : OsState) : topRun treeTable PP w 11 (some (Value.ref 6)) 2 (sT (tree_327 w.params) 279 610 os).abs (Thread.mk (doneF Flow.next) cd0 (Pos.mk 205 0 222 15) [topFrame q0]) = some (sF w os) := by kernel_rfl
theorem grs : behindTheImports PP = gr1 ++ (gr2 ++ []) := by kernel_rfl
theorem ran (w : World) (os : OsState) : topRun treeTable PP w 11 (some (Value.ref 6)) (12 + (1 + (800 + (956 + 2)))) { heap := boot_heap w.params, gens := Array.mk [], drawn := boot_drawn, toks := boot_toks, os := os } (topStub PP) = some (sF w os) := by
  refine go_top (step1 w os) (piece_block (step2 w os) ?_)
  refine (congrArg (fun b => topRun treeTable PP w 11 (some (Value.ref 6)) (800 + (956 + 2)) (sT (tree_47 w.params) 15 187 os).abs (restOf b envT cd0 q0 [topFrame q0])) grs).trans ?_
  refine piece_app (segRun_of (gr1_run w os)) ?_
  refine piece_app (segRun_of (gr2_run w os)) ?_
  exact piece_nil (step4 w os)
abbrev xtF (s : Shared) : Bool := xlAt vw [] s && recOk (RowW.records PySem.Challenge.rw_xm0404_01.row.toRowW) s
theorem lk0a (w : World) : staticsOk (importedModules PP.main.body) (boot_heap w.params) (heap_328 w.params) = true := by kernel_rfl
theorem lk0b (w : World) : namesBound PP (heap_328 w.params) = true := by kernel_rfl
theorem lk0c (w : World) (os : OsState) : gensDone (sF w os) = true := by kernel_rfl
theorem lk0d (w : World) : laidKept (boot_heap w.params) (heap_328 w.params) = true := by kernel_rfl
theorem lk0 (w : World) (os : OsState) : (staticsOk (importedModules PP.main.body) (boot_heap w.params) (heap_328 w.params) && namesBound PP (heap_328 w.params) && gensDone (sF w os) && laidKept (boot_heap w.params) (heap_328 w.params)) = true :=
  look_both (look_both (look_both (lk0a w) (lk0b w)) (lk0c w os)) (lk0d w)
theorem lk1 (w : World) (os : OsState) : seen ((recsOf vw).map (·.name)) (ownsOf vw) [] { sF w os with gens := #[] } = expectedOf vw := by kernel_rfl
theorem lk2 (w : World) (os : OsState) : (sF w os).heap.bltView = bltViewBooted := by kernel_rfl
theorem lk3 (w : World) (os : OsState) : ((sF w os).heap.keysOk (looseW vw []) ((recsOf vw).map (·.name)) ((litsOf vw).map (·.1)) ((clssOf vw (looseW vw [])).map (·.name)) && (sF w os).heap.accountedOkI (importedModules PP.main.body) && (sF w os).heap.isNs mainGlobals && (sF w os).heap.isNs builtinsNs && tablesOk vw (sF w os).heap && xtF (sF w os) && (if true then (sF w os).gens.size == 0 else !leftWithCleanup (sF w os).gens)) = true := by kernel_rfl
theorem lk4 (w : World) (os : OsState) : tabsOk vw (sF w os) = true := by kernel_rfl
theorem lk5 (w : World) (os : OsState) : pinSeenD vw (drecsOf vw) (sF w os) = pinGoodD (drecsOf vw) := by kernel_rfl
theorem lk6 (w : World) (os : OsState) : plainSeenE vw (looseW vw []) (sF w os) = plainGoodE vw (looseW vw []) := by kernel_rfl
theorem lk7 (w : World) (os : OsState) : plainSeenD vw [] (sF w os) = plainGoodD vw [] := by kernel_rfl
theorem lk8 (w : World) (os : OsState) : wideSeen vw (sF w os) = wideGood vw := by kernel_rfl
theorem lk9 (w : World) (os : OsState) : clsSeenW vw [] (sF w os) = clsGoodW vw [] := by kernel_rfl
theorem lkS (w : World) (os : OsState) : openSeen vw [] (importedModules PP.main.body) xtF true (sF w os) = openGood vw [] := by
  unfold openSeen openGood
  exact looks_pair (lk1 w os) (looks_pair (lk2 w os) (looks_pair (lk3 w os) (looks_pair (lk4 w os) (looks_pair (lk5 w os) (looks_pair (lk6 w os) (looks_pair (lk7 w os) (looks_pair (lk8 w os) (lk9 w os))))))))
theorem lks (w : World) : (fun os => ((staticsOk (importedModules PP.main.body) (boot_heap w.params) (heap_328 w.params) && namesBound PP (heap_328 w.params) && gensDone (sF w os) && laidKept (boot_heap w.params) (heap_328 w.params)), openSeen vw [] (importedModules PP.main.body) xtF true (sF w os), ())) = fun _ => (true, openGood vw [], ()) :=
  funext fun os => looks_pair (lk0 w os) (looks_pair (lkS w os) rfl)
theorem left : LeftO PP vw [] xtF (Hook.obs Hook.none) (Hook.val Hook.none) 3626 :=
  LeftO.of_pieces (H₀ := boot_heap) (H₁ := heap_328) (gs₀ := Array.mk []) (gs₁ := Array.mk []) (d₀ := boot_drawn) (d₁ := {}) (k₀ := boot_toks) (k₁ := 610) (m₀ := 11) (ann := some (.ref 6))
    (boot_open (by kernel_rfl) (by decide) (fun s => by kernel_rfl)) (by intro w; kernel_rfl) ran (by decide) lks
end Mine
namespace Mine
theorem said : OpenLaw.wellSaid PySem.Challenge.rw_xm0404_01 = true := by
  unfold OpenLaw.wellSaid
  repeat' with_reducible refine look_both ?_ ?_
  all_goals try unfold OpenRow.wellSaid
  repeat' with_reducible refine look_both ?_ ?_
  all_goals try unfold OpenRow.partSaid
  repeat' with_reducible refine look_both ?_ ?_
  all_goals try unfold looksOpen
  repeat' with_reducible refine look_both ?_ ?_
  all_goals decide +kernel
end Mine
namespace Mine
theorem gfn : ∀ i, 4 ≤ i → i ≤ 40 → i ∉ [12, 17, 26, 34] → dr i ∈ recsOf vw := by
  intro i h1 h2 h3
  have key : ∃ j : Nat, (recsOf vw)[j]? = some (dr i) := by
    match i, h1, h2, h3 with
    | 4, _, _, _ => exact ⟨0, rfl⟩
    | 5, _, _, _ => exact ⟨1, rfl⟩
    | 6, _, _, _ => exact ⟨2, rfl⟩
    | 7, _, _, _ => exact ⟨3, rfl⟩
    | 8, _, _, _ => exact ⟨4, rfl⟩
    | 9, _, _, _ => exact ⟨5, rfl⟩
    | 10, _, _, _ => exact ⟨6, rfl⟩
    | 11, _, _, _ => exact ⟨7, rfl⟩
    | 12, _, _, h => exact absurd (by decide) h
    | 13, _, _, _ => exact ⟨8, rfl⟩
    | 14, _, _, _ => exact ⟨9, rfl⟩
    | 15, _, _, _ => exact ⟨10, rfl⟩
    | 16, _, _, _ => exact ⟨11, rfl⟩
    | 17, _, _, h => exact absurd (by decide) h
    | 18, _, _, _ => exact ⟨12, rfl⟩
    | 19, _, _, _ => exact ⟨13, rfl⟩
    | 20, _, _, _ => exact ⟨14, rfl⟩
    | 21, _, _, _ => exact ⟨15, rfl⟩
    | 22, _, _, _ => exact ⟨16, rfl⟩
    | 23, _, _, _ => exact ⟨17, rfl⟩
    | 24, _, _, _ => exact ⟨18, rfl⟩
    | 25, _, _, _ => exact ⟨19, rfl⟩
    | 26, _, _, h => exact absurd (by decide) h
    | 27, _, _, _ => exact ⟨20, rfl⟩
    | 28, _, _, _ => exact ⟨21, rfl⟩
    | 29, _, _, _ => exact ⟨22, rfl⟩
    | 30, _, _, _ => exact ⟨23, rfl⟩
    | 31, _, _, _ => exact ⟨24, rfl⟩
    | 32, _, _, _ => exact ⟨25, rfl⟩
    | 33, _, _, _ => exact ⟨26, rfl⟩
    | 34, _, _, h => exact absurd (by decide) h
    | 35, _, _, _ => exact ⟨27, rfl⟩
    | 36, _, _, _ => exact ⟨28, rfl⟩
    | 37, _, _, _ => exact ⟨29, rfl⟩
    | 38, _, _, _ => exact ⟨30, rfl⟩
    | 39, _, _, _ => exact ⟨31, rfl⟩
    | 40, _, _, _ => exact ⟨32, rfl⟩
    | (n + 41), _, h, _ => exact absurd h (by omega)
  obtain ⟨j, hj⟩ := key
  exact List.mem_of_getElem? hj
theorem gfree : ∀ x : String, x ∈ ["len", "range", "enumerate", "min", "abs", "int", "sum"] → Str.ofString x ∉ startupNames ∧ Str.ofString x ∉ looseW vw [] ∧ Str.ofString x ∉ (recsOf vw).map (·.name) ∧ Str.ofString x ∉ (litsOf vw).map (·.1) ∧ Str.ofString x ∉ (clssOf vw (looseW vw [])).map (·.name) := by
  decide +kernel
end Mine
namespace Mine
theorem ga_of {prog : Program} {w : World} {mean : ExcName → Option Value} {mg mb : Str → Option Value} {h : Heap} (T : Top vw (looseW vw []) mean mg mb h) : GAll ⟨prog, w, vw, looseW vw [], mean, mg, mb⟩ where
  go := ⟨fun x hx => by
    obtain ⟨h1, h2, h3, h4, h5⟩ := gfree x hx
    exact T.free _ h1 h2 h3 h4 h5⟩
  fn := gfn
end Mine
theorem PySem.Challenge.cw_xm0404_01_holds : PySem.Challenge.rw_xm0404_01.Holds := by
  w_on
  refine holds_law Mine.said fun said => ?_
  refine holds_open (q := Mine.vw) (loose := []) (Xt := fun s => xlAt Mine.vw [] s && recOk (RowW.records PySem.Challenge.rw_xm0404_01.row.toRowW) s) (XP := XL Mine.vw []) (Yf := Hook.obs Hook.none) (Ya := Hook.val Hook.none) (YP := Hook.says Hook.none) (N := 3626) Mine.left (Hook.of Hook.none) (Hook.keeps Hook.none) (fun s e => xl_of s (Bool.and_eq_true_iff.mp e).1) XL.keeps (by rfl) (by rfl) (by rfl) (fun s e => recFacts_of (Bool.and_eq_true_iff.mp e).2) (by rfl) (by assumption) (by decide +kernel) ⟨rfl, rfl, rfl, rfl, rfl, by decide +kernel⟩ ?hw ?hc
  case hw => w_witness2
  w_strict (
    intro w s₀ s₁ mg mb G Y fa o pm cd doc dV kV ho hd hcd hD hmg hg args vals as hpre hlay hrd hwl hlo
    refine Ground.open G ?_
    intro T B D TE TW
    wrow_args hpre hlay hrd hwl hlo
    refine enter_call ?_
    w_top on
    try refine codeAny_mono ?_ (fun _ _ g => GoodW.toG g)
    have K0 := below_caller (Top.heap T)
    w_call any ho hd hcd hD T F
    (all_goals try k_fold)
    rename Fr _ _ _ _ => FF
    rename News _ _ _ _ => NN
    rename Top _ _ _ _ _ _ => TT
    rename Below _ _ _ _ => KK
    rename IntsAre _ _ => II
    rename Heap.IsList _ _ _ => LL
    rename PyProof.Rows.CellsAre _ _ _ => XX
    obtain ⟨oa, ob, he, d1, d2⟩ := PyProof.Rows.CellsAre.two XX
    cases he
    refine wpAny_mono (Mine.law_top (Mine.ga_of (prog := PySem.Challenge.rw_xm0404_01.row.prog) TT) KK TT FF NN d2 d1 rfl rfl LL II (by omega)) ?_ (fun _ _ e => e)
    intro f s' hf
    obtain ⟨hf1, ⟨m', F'⟩, hg1, hg2, hg3⟩ := hf
    subst hf1
    refine goodW_bool F' (hg1.trans (by assumption)) (by intro cls; rfl) ?_ hg3
    wrow_post)
