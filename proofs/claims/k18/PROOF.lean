import PyProof.Rows.All
import Wide.All
import OpenK.AllK
import Wide.FinOn
import HandS.ForMost
import HandS.ForExc
import HandS.Wide
import HandS.WideBits
import HandS.TupAny
import HandS.IsInst
import HandS.SortInts
import HandS.RaiseMore
import HandS.Conv
import HandS.EndBits
import KE.GoesEnum
import KE.GoesMore
import HandS.Zip
import HandS.NoneIn
import HandS.Style
import HandS.SetFor
import HandS.Strs
import KE.KDictZip
import HandS.TupMul
import HandS.TupLe
import HandS.TupLen
import HandS.WordsExc
import HandS.TryMany
import HandS.SuiteRaise
import HandS.ExcField
import HandS.GenList
import HandS.Lambda
import PySem.Challenge.RW_chunkforms_k18_sets_kept_in_each_form
set_option Elab.async false
set_option linter.all false
set_option maxRecDepth 100000
set_option maxHeartbeats 2000000
/-! The engine: what a piece of code does, said over data in place of a heap. -/
namespace Ck
open PySem PySem.Spec PyProof.Rows L2

/-! ### data -/
/-- data as the program sees it; opq: a value taken as it is (a deck, an instance, a class); emp: an empty dict; dic: a dict that is changed no more, its keys tuples; ins: an instance that is changed no more -/
inductive Dt where
  | non | bl (b : Bool) | int (i : Int) | str (x : Str) | tup (l : List Dt) | lst (l : List Dt) | emp | opq (v : V)
  | dic (ks : List (List L2.Key)) (l : List Dt) | ins (c : Addr) (ns : List Str) (l : List Dt)

/-- an empty tuple of the written part -/
def KT0 (K : PySem.W.Frag) (a : Addr) : Prop := ∃ (o : Obj) (its : Array Value) (n : Nat), K.lookup a = some o ∧ o.cls = .type "tuple" ∧ o.data = .seq its n ∧ its.size ≤ sizeLine ∧ Vals [] its.toList
mutual
/-- v stands for d over the heap H -/
inductive Dr (K : PySem.W.Frag) (H : Hp) : V → Dt → Prop
  | non : Dr K H .non .non
  | bl (b : Bool) : Dr K H (.bl b) (.bl b)
  | int (i : Int) : Dr K H (.int i) (.int i)
  | str (x : Str) : Dr K H (.str x) (.str x)
  | tup {a : Addr} {vs : List V} {l : List Dt} : H a = some (.tup vs) → DrL K H vs l → Dr K H (.ref a) (.tup l)
  | lst {a : Addr} {vs : List V} {l : List Dt} : H a = some (.lst vs) → DrL K H vs l → Dr K H (.ref a) (.lst l)
  | tupK {a : Addr} : KT0 K a → Dr K H (.ref a) (.tup [])
  | emp {a : Addr} : H a = some (.dK []) → Dr K H (.ref a) .emp
  | opq (v : V) : Dr K H v (.opq v)
  | dic {a : Addr} {o : Obj} {us : List (List L2.Key × V)} {ks : List (List L2.Key)} {l : List Dt} : H a = some (.frz o (.dT us)) → us.map (·.1) = ks → DrL K H (us.map (·.2)) l → Dr K H (.ref a) (.dic ks l)
  | ins {a c dx : Addr} {ns : List Str} {vs : List V} {l : List Dt} : H a = some (.ins c dx (ns.zip vs)) → H dx = some (.own a) → ns.length = vs.length → DrL K H vs l → Dr K H (.ref a) (.ins c ns l)
inductive DrL (K : PySem.W.Frag) (H : Hp) : List V → List Dt → Prop
  | nil : DrL K H [] []
  | cons {v : V} {vs : List V} {d : Dt} {l : List Dt} : Dr K H v d → DrL K H vs l → DrL K H (v :: vs) (d :: l)
end

theorem sameSeqT {K : PySem.W.Frag} {H H' : Hp} {a : Addr} {xs : List V} (e : Same H H') (h : SqT K H a xs) : SqT K H' a xs := by
  rcases h with (h | ⟨o, h⟩) | h
  · exact .inl (.inl (e _ _ h))
  · exact .inl (.inr ⟨o, e _ _ h⟩)
  · exact .inr h

section
variable {K : PySem.W.Frag} {F F' H H' : Hp}
mutual
theorem Dr.mono (e : Same F F') : ∀ {v : V} {d : Dt}, Dr K F v d → Dr K F' v d
  | _, _, .non => .non
  | _, _, .bl b => .bl b
  | _, _, .int i => .int i
  | _, _, .str x => .str x
  | _, _, .tup h q => .tup (e _ _ h) (DrL.mono e q)
  | _, _, .lst h q => .lst (e _ _ h) (DrL.mono e q)
  | _, _, .tupK h => .tupK h
  | _, _, .emp h => .emp (e _ _ h)
  | _, _, .opq v => .opq v
  | _, _, .dic h k q => .dic (e _ _ h) k (DrL.mono e q)
  | _, _, .ins h h2 k q => .ins (e _ _ h) (e _ _ h2) k (DrL.mono e q)
theorem DrL.mono (e : Same F F') : ∀ {vs : List V} {l : List Dt}, DrL K F vs l → DrL K F' vs l
  | _, _, .nil => .nil
  | _, _, .cons h q => .cons (Dr.mono e h) (DrL.mono e q)
end
theorem DrL.len : ∀ {vs : List V} {l : List Dt}, DrL K F vs l → vs.length = l.length
  | _, _, .nil => rfl
  | _, _, .cons _ q => by rw [List.length_cons, List.length_cons, DrL.len q]
theorem DrL.at : ∀ {vs : List V} {l : List Dt} {i : Nat} {d : Dt}, DrL K F vs l → l[i]? = some d → ∃ v, vs[i]? = some v ∧ Dr K F v d
  | _, _, _, _, .nil, h => by simp at h
  | _, _, 0, _, .cons h _, e => by
    have e' := Option.some.inj e
    subst e'
    exact ⟨_, rfl, h⟩
  | _, _, i + 1, _, .cons _ q, e => DrL.at (i := i) q e
theorem DrL.atV : ∀ {vs : List V} {l : List Dt} {i : Nat} {v : V}, DrL K F vs l → vs[i]? = some v → ∃ d, l[i]? = some d ∧ Dr K F v d
  | _, _, _, _, .nil, h => by simp at h
  | _, _, 0, _, .cons h _, e => by
    have e' := Option.some.inj e
    subst e'
    exact ⟨_, rfl, h⟩
  | _, _, i + 1, _, .cons _ q, e => DrL.atV (i := i) q e
theorem DrL.app : ∀ {vs ws : List V} {l r : List Dt}, DrL K F vs l → DrL K F ws r → DrL K F (vs ++ ws) (l ++ r)
  | _, _, _, _, .nil, q => q
  | _, _, _, _, .cons h q, r => .cons h (DrL.app q r)
theorem DrL.take : ∀ {vs : List V} {l : List Dt} (n : Nat), DrL K F vs l → DrL K F (vs.take n) (l.take n)
  | _, _, 0, _ => .nil
  | _, _, _ + 1, .nil => .nil
  | _, _, n + 1, .cons h q => .cons h (DrL.take n q)
theorem DrL.drop : ∀ {vs : List V} {l : List Dt} (n : Nat), DrL K F vs l → DrL K F (vs.drop n) (l.drop n)
  | _, _, 0, q => q
  | _, _, _ + 1, .nil => .nil
  | _, _, n + 1, .cons _ q => DrL.drop n q
theorem DrL.set : ∀ {vs : List V} {l : List Dt} {v : V} {d : Dt} (i : Nat), Dr K F v d → DrL K F vs l → DrL K F (vs.set i v) (l.set i d)
  | _, _, _, _, _, _, .nil => .nil
  | _, _, _, _, 0, h, .cons _ q => .cons h q
  | _, _, _, _, i + 1, h, .cons g q => .cons g (DrL.set i h q)
theorem DrL.rev {vs : List V} {l : List Dt} (h : DrL K F vs l) : DrL K F vs.reverse l.reverse := by
  induction vs generalizing l with
  | nil =>
    cases h
    exact .nil
  | cons v vs ih =>
    cases h with
    | cons h q =>
      rw [List.reverse_cons, List.reverse_cons]
      exact DrL.app (ih q) (.cons h .nil)
theorem DrL.cut {vs : List V} {l : List Dt} (h : DrL K F vs l) (lo hi : Option Int) : DrL K F (cutV vs lo hi) ((l.drop (HT.sIx l.length 0 lo)).take (HT.sIx l.length l.length hi - HT.sIx l.length 0 lo)) := by
  unfold cutV
  rw [h.len]
  exact DrL.take _ (DrL.drop _ h)
theorem DrL.rep {vs : List V} {l : List Dt} (h : DrL K F vs l) : ∀ n : Nat, DrL K F (List.replicate n vs).flatten (List.replicate n l).flatten
  | 0 => .nil
  | n + 1 => by
    rw [List.replicate_succ, List.replicate_succ, List.flatten_cons, List.flatten_cons]
    exact DrL.app h (DrL.rep h n)
end

/-! ### the state over data -/
/-- what a slot holds: data, or a list of its own that may be changed -/
inductive Ow where
  | lst (l : List Dt) | dic (kvs : List (List L2.Key × Dt))
inductive Sv where
  | dat (d : Dt) | mine (o : Ow)
abbrev Sv.own (l : List Dt) : Sv := .mine (.lst l)
abbrev Sv.dic (kvs : List (List L2.Key × Dt)) : Sv := .mine (.dic kvs)
abbrev Sl := List (Option Sv)
theorem Sv.own.injEq (l r : List Dt) : (Sv.own l = Sv.own r) = (l = r) := by
  refine propext ⟨fun h => ?_, fun h => by rw [h]⟩
  injection h with h
  injection h
theorem Sv.dic.injEq (l r : List (List L2.Key × Dt)) : (Sv.dic l = Sv.dic r) = (l = r) := by
  refine propext ⟨fun h => ?_, fun h => by rw [h]⟩
  injection h with h
  injection h

def isTp : HO → Bool
  | .tup _ => true
  | _ => false
def IsTp (o : HO) : Prop := isTp o = true
/-- a world over data: what it says of its own objects (beside what never changes), and of what others hold -/
structure Wd (Ω : Type) where
  ok : Ω → Hp → Hp → Prop
  bk : Hp → Prop
  monoF : ∀ (w : Ω) (F F' G : Hp), Same F F' → ok w F G → ok w F' G
  monoB : ∀ (B B' : Hp), Same B B' → bk B → bk B'
/-- F: what never changes; G: the world's own objects; B: what others hold and nobody here touches; all within H; tuples alone may be shared -/
structure HR {Ω : Type} (W : Wd Ω) (B F G H : Hp) (w : Ω) : Prop where
  b : ∀ a o, B a = some o → H a = some o ∧ (F a = none ∨ IsTp o) ∧ (G a = none ∨ IsTp o)
  f : Same F H
  g : Same G H
  d : ∀ a o, F a = some o → G a = none ∨ IsTp o
  w : W.ok w F G
  k : W.bk B

/-- an own object over data -/
inductive OwR (K : PySem.W.Frag) (F : Hp) : HO → Ow → Prop
  | lst {vs : List V} {l : List Dt} (h : DrL K F vs l) : OwR K F (.lst vs) (.lst l)
  | dic {us : List (List L2.Key × V)} {kvs : List (List L2.Key × Dt)} (hk : us.map (·.1) = kvs.map (·.1)) (h : DrL K F (us.map (·.2)) (kvs.map (·.2))) : OwR K F (.dT us) (.dic kvs)
theorem OwR.asLst {K : PySem.W.Frag} {F : Hp} {ob : HO} {l : List Dt} (h : OwR K F ob (.lst l)) : ∃ vs, ob = .lst vs ∧ DrL K F vs l := by
  cases h with | lst h => exact ⟨_, rfl, h⟩
theorem OwR.mono {K : PySem.W.Frag} {F F' : Hp} {ob : HO} {o : Ow} (e : Same F F') (h : OwR K F ob o) : OwR K F' ob o := by
  cases h with
  | lst h => exact .lst (h.mono e)
  | dic hk h => exact .dic hk (h.mono e)
def SlotOk (K : PySem.W.Frag) (B F G H : Hp) (v : V) : Sv → Prop
  | .dat d => Dr K F v d
  | .mine o => ∃ a ob, v = .ref a ∧ B a = none ∧ F a = none ∧ G a = none ∧ H a = some ob ∧ OwR K F ob o

structure SR {Ω : Type} (K : PySem.W.Frag) (W : Wd Ω) (B F G H : Hp) (w : Ω) (σ : L2.St) (sl : Sl) : Prop where
  hr : HR W B F G H w
  len : sl.length = σ.length
  s : ∀ (i : Nat) (x : Sv), sl[i]? = some (some x) → ∃ v, σ[i]? = some (some v) ∧ SlotOk K B F G H v x
  o : ∀ (i j : Nat) (v : V) (l r : Ow), sl[i]? = some (some (.mine l)) → sl[j]? = some (some (.mine r)) → σ[i]? = some (some v) → σ[j]? = some (some v) → i = j

/-- how a result hangs on the state: clean data, or the list of the slot i as it stands -/
inductive Fl where
  | cl | br (i : Nat)
def FlOk (K : PySem.W.Frag) (F : Hp) (σ : L2.St) (sl : Sl) (v : V) (d : Dt) : Fl → Prop
  | .cl => Dr K F v d
  | .br i => σ[i]? = some (some v) ∧ ∃ l, sl[i]? = some (some (.own l)) ∧ d = .lst l
/-- d is to be read at v now -/
def Da (K : PySem.W.Frag) (F H : Hp) (v : V) (d : Dt) : Prop := Dr K F v d ∨ ∃ a vs l, v = .ref a ∧ d = .lst l ∧ H a = some (.lst vs) ∧ DrL K F vs l

section
variable {Ω : Type} {K : PySem.W.Frag} {W : Wd Ω} {B F F' G G' H H' : Hp} {w w' : Ω} {σ σ' : L2.St} {sl sl' : Sl} {v : V} {d : Dt} {fl : Fl} {p a : Addr} {o : HO}
theorem FlOk.mono (e : Same F F') (h : FlOk K F σ sl v d fl) : FlOk K F' σ sl v d fl := by
  cases fl with
  | cl => exact Dr.mono e h
  | br i => exact h
theorem FlOk.da (r : SR K W B F G H w σ sl) (h : FlOk K F σ sl v d fl) : Da K F H v d := by
  cases fl with
  | cl => exact .inl h
  | br i =>
    obtain ⟨h1, l, h2, rfl⟩ := h
    obtain ⟨u, hu, a, ob, rfl, _, _, _, hH, q⟩ := r.s i _ h2
    obtain ⟨vs, rfl, q2⟩ := q.asLst
    rw [h1] at hu
    cases hu
    exact .inr ⟨a, vs, l, rfl, rfl, hH, q2⟩
theorem Da.int {i : Int} (h : Da K F H v (.int i)) : v = .int i := by
  rcases h with h | ⟨_, _, _, _, e, _⟩
  · cases h; rfl
  · cases e
theorem Da.bl {b : Bool} (h : Da K F H v (.bl b)) : v = .bl b := by
  rcases h with h | ⟨_, _, _, _, e, _⟩
  · cases h; rfl
  · cases e
theorem Da.str {x : Str} (h : Da K F H v (.str x)) : v = .str x := by
  rcases h with h | ⟨_, _, _, _, e, _⟩
  · cases h; rfl
  · cases e
theorem Da.non (h : Da K F H v .non) : v = .non := by
  rcases h with h | ⟨_, _, _, _, e, _⟩
  · cases h; rfl
  · cases e
theorem Da.opq {u : V} (h : Da K F H v (.opq u)) : v = u := by
  rcases h with h | ⟨_, _, _, _, e, _⟩
  · cases h; rfl
  · cases e
theorem Da.emp (h : Da K F H v .emp) : ∃ a, v = .ref a ∧ F a = some (.dK []) := by
  rcases h with h | ⟨_, _, _, _, e, _⟩
  · cases h with | emp q => exact ⟨_, rfl, q⟩
  · cases e
theorem Da.tupR {l : List Dt} (h : Da K F H v (.tup l)) (hl : l ≠ []) : ∃ a vs, v = .ref a ∧ F a = some (.tup vs) ∧ DrL K F vs l := by
  rcases h with h | ⟨_, _, _, _, e, _⟩
  · cases h with
    | tup q r => exact ⟨_, _, rfl, q, r⟩
    | tupK q => exact absurd rfl hl
  · cases e
theorem Da.tupS {l : List Dt} (h : Da K F H v (.tup l)) : ∃ a vs, v = .ref a ∧ SqT K F a vs ∧ DrL K F vs l ∧ Dr K F (.ref a) (.tup l) := by
  rcases h with h | ⟨_, _, _, _, e, _⟩
  · cases h with
    | tup q r => exact ⟨_, _, rfl, .of q, r, .tup q r⟩
    | tupK q => exact ⟨_, [], rfl, .inr q, .nil, .tupK q⟩
  · cases e
theorem Da.dicR {ks : List (List L2.Key)} {l : List Dt} (h : Da K F H v (.dic ks l)) : ∃ a o us, v = .ref a ∧ F a = some (.frz o (.dT us)) ∧ us.map (·.1) = ks ∧ DrL K F (us.map (·.2)) l := by
  rcases h with h | ⟨_, _, _, _, e, _⟩
  · cases h with | dic q k r => exact ⟨_, _, _, rfl, q, k, r⟩
  · cases e
theorem Da.insR {c : Addr} {ns : List Str} {l : List Dt} (h : Da K F H v (.ins c ns l)) : ∃ a dx vs, v = .ref a ∧ F a = some (.ins c dx (ns.zip vs)) ∧ F dx = some (.own a) ∧ ns.length = vs.length ∧ DrL K F vs l := by
  rcases h with h | ⟨_, _, _, _, e, _⟩
  · cases h with | ins q q2 k r => exact ⟨_, _, _, rfl, q, q2, k, r⟩
  · cases e
theorem Da.tup {l : List Dt} (h : Da K F H v (.tup l)) : ∃ a vs, v = .ref a ∧ SqT K F a vs ∧ DrL K F vs l := by
  obtain ⟨a, vs, e, q, r, _⟩ := h.tupS
  exact ⟨a, vs, e, q, r⟩
theorem Da.lst {l : List Dt} (e : Same F H) (h : Da K F H v (.lst l)) : ∃ a vs, v = .ref a ∧ H a = some (.lst vs) ∧ DrL K F vs l := by
  rcases h with h | ⟨a, vs, l', rfl, e', q, r⟩
  · cases h with | lst q r => exact ⟨_, _, rfl, e _ _ q, r⟩
  · cases e'; exact ⟨a, vs, rfl, q, r⟩
theorem Da.now (e : Same F H) (h : Da K F H v d) : Dr K H v d := by
  rcases h with h | ⟨a, vs, l', rfl, rfl, q, r⟩
  · exact h.mono e
  · exact .lst q (r.mono e)

theorem sameUpd (h : H p = none) : Same H (upd H p o) := fun b x e => by
  rw [upd_ne (ne_of_none e h)]
  exact e
/-- a new object, known at once -/
theorem HR.new (r : HR W B F G H w) (hp : H p = none) : HR W B (upd F p o) G (upd H p o) w := by
  have hF : F p = none := r.f.free hp
  have hG : G p = none := r.g.free hp
  refine ⟨fun b x e => ?_, fun b x e => ?_, fun b x e => ?_, fun b x e => ?_, W.monoF _ _ _ _ (sameUpd hF) r.w, r.k⟩
  · obtain ⟨h1, h2, h3⟩ := r.b b x e
    have hn : b ≠ p := ne_of_none h1 hp
    exact ⟨by rw [upd_ne hn]; exact h1, by rw [upd_ne hn]; exact h2, h3⟩
  · by_cases hb : b = p
    · subst hb
      rw [upd_same] at e ⊢
      exact e
    · rw [upd_ne hb] at e ⊢
      exact r.f _ _ e
  · have hn : b ≠ p := ne_of_none (r.g _ _ e) hp
    rw [upd_ne hn]
    exact r.g _ _ e
  · by_cases hb : b = p
    · subst hb
      exact .inl hG
    · rw [upd_ne hb] at e
      exact r.d _ _ e
/-- a new object that stays its maker's own -/
theorem HR.newOwn (r : HR W B F G H w) (hp : H p = none) : HR W B F G (upd H p o) w :=
  ⟨fun b x e => by
      obtain ⟨h1, h2, h3⟩ := r.b b x e
      exact ⟨by rw [upd_ne (ne_of_none h1 hp)]; exact h1, h2, h3⟩,
    r.f.trans (sameUpd hp), r.g.trans (sameUpd hp), r.d, r.w, r.k⟩
/-- what nobody else holds may change -/
theorem HR.chg (r : HR W B F G H w) (hB : B p = none) (hF : F p = none) (hG : G p = none) : HR W B F G (upd H p o) w :=
  ⟨fun b x e => by
      obtain ⟨h1, h2, h3⟩ := r.b b x e
      exact ⟨by rw [upd_ne (ne_of_none e hB)]; exact h1, h2, h3⟩,
    fun b x e => by rw [upd_ne (ne_of_none e hF)]; exact r.f _ _ e, fun b x e => by rw [upd_ne (ne_of_none e hG)]; exact r.g _ _ e, r.d, r.w, r.k⟩
/-- what is one's own becomes known for good -/
theorem HR.frz (r : HR W B F G H w) (hB : B p = none) (hF : F p = none) (hG : G p = none) (hH : H p = some o) : HR W B (upd F p o) G H w := by
  refine ⟨fun b x e => ?_, fun b x e => ?_, r.g, fun b x e => ?_, W.monoF _ _ _ _ (sameUpd hF) r.w, r.k⟩
  · obtain ⟨h1, h2, h3⟩ := r.b b x e
    exact ⟨h1, by rw [upd_ne (ne_of_none e hB)]; exact h2, h3⟩
  · by_cases hb : b = p
    · subst hb
      rw [upd_same] at e
      rw [hH, e]
    · rw [upd_ne hb] at e
      exact r.f _ _ e
  · by_cases hb : b = p
    · subst hb
      exact .inl hG
    · rw [upd_ne hb] at e
      exact r.d _ _ e
/-- a tuple that stands there becomes known for good -/
theorem HR.tupF (r : HR W B F G H w) (hH : H p = some o) (ht : IsTp o) (hF : F p = none) : HR W B (upd F p o) G H w := by
  refine ⟨fun b x e => ?_, fun b x e => ?_, r.g, fun b x e => ?_, W.monoF _ _ _ _ (sameUpd hF) r.w, r.k⟩
  · obtain ⟨h1, h2, h3⟩ := r.b b x e
    by_cases hb : b = p
    · subst hb
      rw [hH] at h1
      cases h1
      exact ⟨hH, .inr ht, h3⟩
    · exact ⟨h1, by rw [upd_ne hb]; exact h2, h3⟩
  · by_cases hb : b = p
    · subst hb
      rw [upd_same] at e
      rw [hH, e]
    · rw [upd_ne hb] at e
      exact r.f _ _ e
  · by_cases hb : b = p
    · subst hb
      rw [upd_same] at e
      cases e
      exact .inr ht
    · rw [upd_ne hb] at e
      exact r.d _ _ e

theorem OwR.notTp {ob : HO} {l : Ow} (h : OwR K F ob l) : ¬ IsTp ob := by
  cases h <;> exact fun z => nomatch z
/-- the slots are kept from one state to another -/
theorem SR.to (r : SR K W B F G H w σ sl) (h : HR W B F' G' H' w') (e : Same F F') (ho : ∀ (i : Nat) (l : Ow) (a : Addr) (ob : HO), sl[i]? = some (some (.mine l)) → σ[i]? = some (some (.ref a)) → H a = some ob → B a = none → F a = none → G a = none → ¬ IsTp ob → H' a = some ob ∧ F' a = none ∧ G' a = none) : SR K W B F' G' H' w' σ sl := by
  refine ⟨h, r.len, fun i x q => ?_, r.o⟩
  obtain ⟨v, h1, h2⟩ := r.s i x q
  refine ⟨v, h1, ?_⟩
  cases x with
  | dat d => exact Dr.mono e h2
  | mine l =>
    obtain ⟨a, vs, rfl, hB, hF, hG, hH, hr⟩ := h2
    obtain ⟨k1, k2, k3⟩ := ho i l a vs q h1 hH hB hF hG hr.notTp
    exact ⟨a, vs, rfl, hB, k2, k3, k1, hr.mono e⟩
theorem SR.new (r : SR K W B F G H w σ sl) (hp : H p = none) : SR K W B (upd F p o) G (upd H p o) w σ sl :=
  r.to (r.hr.new hp) (sameUpd (r.hr.f.free hp)) fun i l a vs _ _ h _ hF hG _ => by
    have hn : a ≠ p := ne_of_none h hp
    rw [upd_ne hn, upd_ne hn]
    exact ⟨h, hF, hG⟩
theorem SR.newOwn (r : SR K W B F G H w σ sl) (hp : H p = none) : SR K W B F G (upd H p o) w σ sl :=
  r.to (r.hr.newOwn hp) (Same.refl F) fun i l a vs _ _ h _ hF hG _ => by
    rw [upd_ne (ne_of_none h hp)]
    exact ⟨h, hF, hG⟩
theorem SR.tupF (r : SR K W B F G H w σ sl) (hH : H p = some o) (ht : IsTp o) (hF : F p = none) : SR K W B (upd F p o) G H w σ sl := by
  refine ⟨r.hr.tupF hH ht hF, r.len, fun i x q => ?_, r.o⟩
  obtain ⟨v, h1, h2⟩ := r.s i x q
  refine ⟨v, h1, ?_⟩
  cases x with
  | dat d => exact Dr.mono (sameUpd hF) h2
  | mine l =>
    obtain ⟨a, vs, rfl, hB, hF', hG, hH', hr⟩ := h2
    have hn : a ≠ p := fun z => by
      subst z
      rw [hH] at hH'
      cases hH'
      exact hr.notTp ht
    exact ⟨a, vs, rfl, hB, by rw [upd_ne hn]; exact hF', hG, hH', hr.mono (sameUpd hF)⟩
/-- data is laid into a slot -/
theorem SR.dat (r : SR K W B F G H w σ sl) (i : Nat) (h : Dr K F v d) : SR K W B F G H w (σ.set i (some v)) (sl.set i (some (.dat d))) := by
  refine ⟨r.hr, by rw [List.length_set, List.length_set, r.len], fun j x q => ?_, fun j k u l m h1 h2 h3 h4 => ?_⟩
  · rw [List.getElem?_set] at q ⊢
    by_cases e : i = j
    · subst e
      rw [if_pos rfl] at q ⊢
      by_cases hl : i < sl.length
      · rw [if_pos hl] at q
        rw [if_pos (by rw [← r.len]; exact hl)]
        cases q
        exact ⟨v, rfl, h⟩
      · rw [if_neg hl] at q
        cases q
    · rw [if_neg e] at q ⊢
      exact r.s j x q
  · have ne : ∀ (n : Nat) (u : Ow), (sl.set i (some (.dat d)))[n]? = some (some (.mine u)) → sl[n]? = some (some (.mine u)) ∧ i ≠ n := fun n u z => by
      rw [List.getElem?_set] at z
      by_cases e : i = n
      · rw [if_pos e] at z
        split at z <;> cases z
      · rw [if_neg e] at z
        exact ⟨z, e⟩
    obtain ⟨a1, n1⟩ := ne j l h1
    obtain ⟨a2, n2⟩ := ne k m h2
    rw [List.getElem?_set_ne n1] at h3
    rw [List.getElem?_set_ne n2] at h4
    exact r.o j k u l m a1 a2 h3 h4
/-- what is one's own is laid into a slot -/
theorem SR.mineSet {ob : HO} {l : Ow} (r : SR K W B F G H w σ sl) (i : Nat) (hB : B a = none) (hF : F a = none) (hG : G a = none) (hH : H a = some ob) (h : OwR K F ob l)
    (hn : ∀ (j : Nat) (m : Ow), sl[j]? = some (some (.mine m)) → j ≠ i → σ[j]? ≠ some (some (.ref a))) : SR K W B F G H w (σ.set i (some (.ref a))) (sl.set i (some (.mine l))) := by
  have hs : ∀ (j : Nat) (m : Ow), (sl.set i (some (.mine l)))[j]? = some (some (.mine m)) → (j = i ∧ i < sl.length) ∨ (j ≠ i ∧ sl[j]? = some (some (.mine m))) := fun j m z => by
    rw [List.getElem?_set] at z
    by_cases e : i = j
    · rw [if_pos e] at z
      split at z
      · exact .inl ⟨e.symm, by omega⟩
      · cases z
    · rw [if_neg e] at z
      exact .inr ⟨fun q => e q.symm, z⟩
  refine ⟨r.hr, by rw [List.length_set, List.length_set, r.len], fun j x q => ?_, fun j k u m n h1 h2 h3 h4 => ?_⟩
  · rw [List.getElem?_set] at q ⊢
    by_cases e : i = j
    · subst e
      rw [if_pos rfl] at q ⊢
      by_cases hl : i < sl.length
      · rw [if_pos hl] at q
        rw [if_pos (by rw [← r.len]; exact hl)]
        cases q
        exact ⟨_, rfl, a, ob, rfl, hB, hF, hG, hH, h⟩
      · rw [if_neg hl] at q
        cases q
    · rw [if_neg e] at q ⊢
      exact r.s j x q
  · rcases hs j m h1 with ⟨e1, hl⟩ | ⟨n1, a1⟩ <;> rcases hs k n h2 with ⟨e2, hl2⟩ | ⟨n2, a2⟩
    · rw [e1, e2]
    · subst e1
      rw [List.getElem?_set_self (by rw [← r.len]; exact hl)] at h3
      rw [List.getElem?_set_ne (Ne.symm n2)] at h4
      cases h3
      exact absurd h4 (hn k n a2 n2)
    · subst e2
      rw [List.getElem?_set_self (by rw [← r.len]; exact hl2)] at h4
      rw [List.getElem?_set_ne (Ne.symm n1)] at h3
      cases h4
      exact absurd h3 (hn j m a1 n1)
    · rw [List.getElem?_set_ne (Ne.symm n1)] at h3
      rw [List.getElem?_set_ne (Ne.symm n2)] at h4
      exact r.o j k u m n a1 a2 h3 h4
theorem SR.ownSet {vs : List V} {l : List Dt} (r : SR K W B F G H w σ sl) (i : Nat) (hB : B a = none) (hF : F a = none) (hG : G a = none) (hH : H a = some (.lst vs)) (h : DrL K F vs l)
    (hn : ∀ (j : Nat) (m : Ow), sl[j]? = some (some (.mine m)) → j ≠ i → σ[j]? ≠ some (some (.ref a))) : SR K W B F G H w (σ.set i (some (.ref a))) (sl.set i (some (.own l))) := r.mineSet i hB hF hG hH (.lst h) hn
/-- a stands at no slot of one's own -/
def NoOwn (σ : L2.St) (sl : Sl) (a : Addr) : Prop := ∀ (j : Nat) (m : Ow), sl[j]? = some (some (.mine m)) → σ[j]? ≠ some (some (.ref a))
theorem SR.fresh (r : SR K W B F G H w σ sl) (h : H a = none) : B a = none ∧ NoOwn σ sl a := by
  refine ⟨?_, fun j m h1 h2 => ?_⟩
  · cases hb : B a with
    | none => rfl
    | some o =>
      have := (r.hr.b a o hb).1
      rw [h] at this
      cases this
  · obtain ⟨v, q1, c, vs, rfl, _, _, _, q2, _⟩ := r.s j _ h1
    rw [h2] at q1
    cases q1
    rw [h] at q2
    cases q2
end
end Ck
namespace Ck
open PySem PySem.Spec PyProof.Rows L2

/-! ### what an expression, an argument list, a test say over data -/
abbrev DE (Ω : Type) := Sl → Ω → (Dt → Fl → Ω → Prop) → Prop
abbrev DL (Ω : Type) := Sl → Ω → (List Dt → Ω → Prop) → Prop
abbrev DT (Ω : Type) := Sl → Ω → (Bool → Ω → Prop) → Prop
abbrev DO (Ω : Type) := Sl → Ω → (Option Int → Ω → Prop) → Prop

section
variable {Ω : Type} (K : PySem.W.Frag) (W : Wd Ω)
def lft (p : DE Ω) : TE := fun σ H Q => ∃ B F G w sl, SR K W B F G H w σ sl ∧ p sl w fun d fl w' => ∀ v F' G' H', SR K W B F' G' H' w' σ sl → Same F F' → FlOk K F' σ sl v d fl → Q v H'
def lftL (p : DL Ω) : TE := fun σ H Q => ∃ B F G w sl, SR K W B F G H w σ sl ∧ p sl w fun l w' => ∀ a vs F' G' H', SR K W B F' G' H' w' σ sl → Same F F' → B a = none → NoOwn σ sl a → H' a = some (.lst vs) → F' a = none → G' a = none → DrL K F' vs l → Q (.ref a) H'
def lftA (p : DL Ω) : TA := fun σ H Q => ∃ B F G w sl, SR K W B F G H w σ sl ∧ p sl w fun l w' => ∀ vs F' G' H', SR K W B F' G' H' w' σ sl → Same F F' → DrL K F' vs l → Q vs H'
def lftT (p : DT Ω) : TT := fun σ H Q => ∃ B F G w sl, SR K W B F G H w σ sl ∧ p sl w fun b w' => ∀ F' G' H', SR K W B F' G' H' w' σ sl → Same F F' → Q b H'
def lftO (p : DO Ω) : TO := fun σ H Q => ∃ B F G w sl, SR K W B F G H w σ sl ∧ p sl w fun b w' => ∀ F' G' H', SR K W B F' G' H' w' σ sl → Same F F' → Q b H'
end
structure PD {Ω : Type} (X : Cx) (W : Wd Ω) (e : Expr) (p : DE Ω) : Prop where
  run : PE X e (lft X.K W p)
  mono : ∀ sl w (C C' : Dt → Fl → Ω → Prop), (∀ d fl w', C d fl w' → C' d fl w') → p sl w C → p sl w C'
structure PDL {Ω : Type} (X : Cx) (W : Wd Ω) (e : Expr) (p : DL Ω) : Prop where
  run : PE X e (lftL X.K W p)
  mono : ∀ sl w (C C' : List Dt → Ω → Prop), (∀ d w', C d w' → C' d w') → p sl w C → p sl w C'
structure PDA {Ω : Type} (X : Cx) (W : Wd Ω) (es : List Expr) (p : DL Ω) : Prop where
  run : PA X es (lftA X.K W p)
  mono : ∀ sl w (C C' : List Dt → Ω → Prop), (∀ d w', C d w' → C' d w') → p sl w C → p sl w C'
structure PDT {Ω : Type} (X : Cx) (W : Wd Ω) (e : Expr) (p : DT Ω) : Prop where
  run : PT X e (lftT X.K W p)
  mono : ∀ sl w (C C' : Bool → Ω → Prop), (∀ d w', C d w' → C' d w') → p sl w C → p sl w C'
structure PDW {Ω : Type} (X : Cx) (W : Wd Ω) (e : Expr) (p : DT Ω) : Prop where
  run : PW X e (lftT X.K W p)
  mono : ∀ sl w (C C' : Bool → Ω → Prop), (∀ d w', C d w' → C' d w') → p sl w C → p sl w C'
structure PDO {Ω : Type} (X : Cx) (W : Wd Ω) (e : Option Expr) (p : DO Ω) : Prop where
  run : PO X e (lftO X.K W p)
  mono : ∀ sl w (C C' : Option Int → Ω → Prop), (∀ d w', C d w' → C' d w') → p sl w C → p sl w C'

theorem pe_imp {X : Cx} {e : Expr} {t t' : TE} (h : PE X e t) (i : ∀ σ H Q, t' σ H Q → t σ H Q) : PE X e t' := ⟨fun pins s σ H Q I q => h.run pins s σ H Q I (i σ H Q q)⟩
theorem pa_imp {X : Cx} {e : List Expr} {t t' : TA} (h : PA X e t) (i : ∀ σ H Q, t' σ H Q → t σ H Q) : PA X e t' := ⟨fun pos pins s σ H Q I q => h.run pos pins s σ H Q I (i σ H Q q)⟩
theorem pt_imp {X : Cx} {e : Expr} {t t' : TT} (h : PT X e t) (i : ∀ σ H Q, t' σ H Q → t σ H Q) : PT X e t' := ⟨fun pins s σ H Q I q => h.run pins s σ H Q I (i σ H Q q)⟩
theorem pw_imp {X : Cx} {e : Expr} {t t' : TT} (h : PW X e t) (i : ∀ σ H Q, t' σ H Q → t σ H Q) : PW X e t' := ⟨fun whole pins s σ H Q I q => h.run whole pins s σ H Q I (i σ H Q q)⟩

/-! ### results of an operation -/
/-- nothing new and data of F, or one new object, or a tuple that stood there already -/
def Ext (K : PySem.W.Frag) (F H F' H' : Hp) (v : V) (d : Dt) : Prop := (F' = F ∧ H' = H ∧ Dr K F v d) ∨ (∃ p o, H p = none ∧ F' = upd F p o ∧ H' = upd H p o ∧ Dr K (upd F p o) v d) ∨
  ∃ p o, H p = some o ∧ IsTp o ∧ F p = none ∧ F' = upd F p o ∧ H' = H ∧ Dr K (upd F p o) v d
theorem Ext.use {Ω : Type} {K : PySem.W.Frag} {W : Wd Ω} {B F F' G H H' : Hp} {w : Ω} {σ : L2.St} {sl : Sl} {v : V} {d : Dt} (r : SR K W B F G H w σ sl) (x : Ext K F H F' H' v d) : SR K W B F' G H' w σ sl ∧ Same F F' ∧ Dr K F' v d := by
  rcases x with ⟨rfl, rfl, h⟩ | ⟨p, o, hp, rfl, rfl, h⟩ | ⟨p, o, hp, ht, hF, rfl, rfl, h⟩
  · exact ⟨r, Same.refl _, h⟩
  · exact ⟨r.new hp, sameUpd (r.hr.f.free hp), h⟩
  · exact ⟨r.tupF hp ht hF, sameUpd hF, h⟩
structure OpD (K : PySem.W.Frag) (r : R2) (f : Dt → Dt → (Dt → Prop) → Prop) : Prop where
  run : ∀ (F H : Hp) (xv yv : V) (x y : Dt) (Q : VK) (C : Dt → Prop), Same F H → Da K F H xv x → Da K F H yv y → f x y C → (∀ d v F' H', C d → Ext K F H F' H' v d → Q v H') → r xv yv H Q
  mono : ∀ x y (C C' : Dt → Prop), (∀ d, C d → C' d) → f x y C → f x y C'
structure FnD (K : PySem.W.Frag) (r : List V → Hp → VK → Prop) (f : Dt → (Dt → Prop) → Prop) : Prop where
  run : ∀ (F H : Hp) (xv : V) (x : Dt) (Q : VK) (C : Dt → Prop), Same F H → Da K F H xv x → f x C → (∀ d v F' H', C d → Ext K F H F' H' v d → Q v H') → r [xv] H Q
  mono : ∀ x (C C' : Dt → Prop), (∀ d, C d → C' d) → f x C → f x C'
structure FnD2 (K : PySem.W.Frag) (r : List V → Hp → VK → Prop) (f : Dt → Dt → (Dt → Prop) → Prop) : Prop where
  run : ∀ (F H : Hp) (xv yv : V) (x y : Dt) (Q : VK) (C : Dt → Prop), Same F H → Da K F H xv x → Da K F H yv y → f x y C → (∀ d v F' H', C d → Ext K F H F' H' v d → Q v H') → r [xv, yv] H Q
  mono : ∀ x y (C C' : Dt → Prop), (∀ d, C d → C' d) → f x y C → f x y C'
/-- a new list -/
structure FnL (K : PySem.W.Frag) (r : List V → Hp → VK → Prop) (f : Dt → (List Dt → Prop) → Prop) : Prop where
  run : ∀ (F H : Hp) (xv : V) (x : Dt) (Q : VK) (C : List Dt → Prop), Same F H → Da K F H xv x → f x C → (∀ l a vs, C l → H a = none → DrL K F vs l → Q (.ref a) (upd H a (.lst vs))) → r [xv] H Q
  mono : ∀ x (C C' : List Dt → Prop), (∀ d, C d → C' d) → f x C → f x C'
structure OpL (K : PySem.W.Frag) (r : R2) (f : Dt → Dt → (List Dt → Prop) → Prop) : Prop where
  run : ∀ (F H : Hp) (xv yv : V) (x y : Dt) (Q : VK) (C : List Dt → Prop), Same F H → Da K F H xv x → Da K F H yv y → f x y C → (∀ l a vs, C l → H a = none → DrL K F vs l → Q (.ref a) (upd H a (.lst vs))) → r xv yv H Q
  mono : ∀ x y (C C' : List Dt → Prop), (∀ d, C d → C' d) → f x y C → f x y C'

/-! ### the forms over data -/
section
variable {Ω : Type}
def wVar (i : Nat) : DE Ω := fun sl w C => match sl[i]? with
  | some (some (.dat d)) => C d .cl w
  | some (some (.mine (.lst l))) => C (.lst l) (.br i) w
  | _ => False
def wC (d : Dt) : DE Ω := fun _ w C => C d .cl w
def wL (p : DL Ω) : DE Ω := fun sl w C => p sl w fun l w' => C (.lst l) .cl w'
def wOp (f : Dt → Dt → (Dt → Prop) → Prop) (pa pb : DE Ω) : DE Ω := fun sl w C => pa sl w fun x _ w1 => pb sl w1 fun y _ w2 => f x y fun d => C d .cl w2
def wOpL (f : Dt → Dt → (List Dt → Prop) → Prop) (pa pb : DE Ω) : DL Ω := fun sl w C => pa sl w fun x _ w1 => pb sl w1 fun y _ w2 => f x y fun d => C d w2
def wF (f : Dt → (Dt → Prop) → Prop) (pa : DE Ω) : DE Ω := fun sl w C => pa sl w fun x _ w1 => f x fun d => C d .cl w1
def wFL (f : Dt → (List Dt → Prop) → Prop) (pa : DE Ω) : DL Ω := fun sl w C => pa sl w fun x _ w1 => f x fun d => C d w1
def wNil : DL Ω := fun _ w C => C [] w
def wCons (pa : DE Ω) (pr : DL Ω) : DL Ω := fun sl w C => pa sl w fun d fl w1 => fl = .cl ∧ pr sl w1 fun ds w2 => C (d :: ds) w2
def wTup (p : DL Ω) : DE Ω := fun sl w C => p sl w fun ds w' => ds.length ≤ sizeLine ∧ C (.tup ds) .cl w'
def wLst (p : DL Ω) : DL Ω := fun sl w C => p sl w fun ds w' => ds.length ≤ sizeLine ∧ C ds w'
def wTV (p : DE Ω) : DT Ω := fun sl w C => p sl w fun d _ w' => ∃ b, d = .bl b ∧ C b w'
def wTAnd (pa pb : DT Ω) : DT Ω := fun sl w C => pa sl w fun b w1 => if b = true then pb sl w1 C else C false w1
def wTOr (pa pb : DT Ω) : DT Ω := fun sl w C => pa sl w fun b w1 => if b = true then C true w1 else pb sl w1 C
def wTNot (pa : DT Ω) : DT Ω := fun sl w C => pa sl w fun b w1 => C (!b) w1
def wAnd (pa pb : DE Ω) : DE Ω := fun sl w C => pa sl w fun d _ w1 => ∃ c, d = .bl c ∧ if c = true then pb sl w1 C else C (.bl false) .cl w1
def wOr (pa pb : DE Ω) : DE Ω := fun sl w C => pa sl w fun d _ w1 => ∃ c, d = .bl c ∧ if c = true then C (.bl true) .cl w1 else pb sl w1 C
def wNot (pa : DE Ω) : DE Ω := fun sl w C => pa sl w fun d _ w1 => ∃ c, d = .bl c ∧ C (.bl (!c)) .cl w1
def wIfx (pt : DT Ω) (pa pb : DE Ω) : DE Ω := fun sl w C => pt sl w fun b w1 => if b = true then pa sl w1 C else pb sl w1 C
def isNon : Dt → Option Bool
  | .non => some true
  | .opq _ => none
  | _ => some false
def wIsN (pa : DE Ω) : DE Ω := fun sl w C => pa sl w fun d _ w1 => ∃ b, isNon d = some b ∧ C (.bl b) .cl w1
def wNotN (pa : DE Ω) : DE Ω := fun sl w C => pa sl w fun d _ w1 => ∃ b, isNon d = some b ∧ C (.bl (!b)) .cl w1
def wChain (f g : Int → Int → Bool) (pa pb pc : DE Ω) : DE Ω := fun sl w C => pa sl w fun x _ w1 => pb sl w1 fun y _ w2 => ∃ i j, x = .int i ∧ y = .int j ∧
  if f i j = true then pc sl w2 fun z _ w3 => ∃ k, z = .int k ∧ C (.bl (g j k)) .cl w3 else C (.bl false) .cl w2
def wO0 : DO Ω := fun _ w C => C none w
def wO1 (p : DE Ω) : DO Ω := fun sl w C => p sl w fun d _ w1 => ∃ i, d = .int i ∧ C (some i) w1
def wSl (f : Dt → Option Int → Option Int → (Dt → Prop) → Prop) (pa : DE Ω) (pl ph : DO Ω) : DE Ω := fun sl w C => pa sl w fun x _ w1 => pl sl w1 fun l w2 => ph sl w2 fun h w3 => f x l h fun d => C d .cl w3
end

section
variable {Ω : Type} {X : Cx} {W : Wd Ω} {e a b c : Expr} {es : List Expr} {p pa pb pc : DE Ω} {q pr pl : DL Ω} {t u : DT Ω} {pos : Pos} {f : Dt → Dt → (Dt → Prop) → Prop}
theorem d_var {x : Str} (i : Nat) (hN : X.N[i]? = some x := by rfl) (hv : Vis X.env.scope x := by first | exact Or.inl rfl | exact Or.inr (Or.inl rfl) | exact Or.inr (Or.inr rfl)) (hd : (x == ("__debug__" : Str)) = false := by decide)
    (hcd : (x == ("__classdict__" : Str)) = false := by decide) : PD X W (.Name x pos) (wVar i) := by
  refine ⟨pe_imp (pe_var hN hv hd hcd) fun σ H Q h => ?_, fun sl w C C' hC h => ?_⟩
  · obtain ⟨B, F, G, w, sl, r, h⟩ := h
    unfold wVar at h
    split at h
    · rename_i d hi
      obtain ⟨v, h1, h2⟩ := r.s i _ hi
      exact ⟨v, h1, h v F G H r (Same.refl F) h2⟩
    · rename_i l hi
      obtain ⟨v, h1, h2⟩ := r.s i _ hi
      exact ⟨v, h1, h v F G H r (Same.refl F) ⟨h1, l, hi, rfl⟩⟩
    · exact h.elim
  · unfold wVar at h ⊢
    split at h
    · exact hC _ _ _ h
    · exact hC _ _ _ h
    · exact h.elim
theorem d_C {v : V} {d : Dt} (h : PE X e (tC v)) (hd : ∀ F, Dr X.K F v d) : PD X W e (wC d) :=
  ⟨pe_imp h fun σ H Q ⟨B, F, G, w, sl, r, h⟩ => h v F G H r (Same.refl F) (hd F), fun sl w C C' hC h => hC _ _ _ h⟩
theorem d_int {i : Int} {j : Nat} : PD X W (.Constant (.int i) j pos) (wC (.int i)) := d_C pe_int fun _ => .int i
theorem d_bl {i : Bool} {j : Nat} : PD X W (.Constant (.bool i) j pos) (wC (.bl i)) := d_C pe_bl fun _ => .bl i
theorem d_non {j : Nat} : PD X W (.Constant .none j pos) (wC .non) := d_C pe_non fun _ => .non
theorem d_str {x : Str} {j : Nat} : PD X W (.Constant (.str x) j pos) (wC (.str x)) := d_C pe_str fun _ => .str x
/-- a constant of the module -/
theorem d_glob {x : Str} {v : V} {d : Dt} {u : Value} (hg : Gl X x) (hm : X.mg x = some u) (r : RelV v u) (hd : ∀ F, Dr X.K F v d) (hdb : (x == ("__debug__" : Str)) = false := by decide) : PD X W (.Name x pos) (wC d) := d_C (pe_glob hg hm r hdb) hd
/-- a new list, kept as it is from here on -/
theorem d_L (h : PDL X W e q) : PD X W e (wL q) := by
  refine ⟨pe_imp h.run fun σ H Q ⟨B, F, G, w, sl, r, k⟩ => ⟨B, F, G, w, sl, r, h.mono _ _ _ _ (fun l w' z a vs F' G' H' r' e' hB hn hH hF hG hD => ?_) k⟩, fun sl w C C' hC z => h.mono _ _ _ _ (fun l w' => hC _ _ _) z⟩
  have e2 : Same F' (upd F' a (.lst vs)) := sameUpd hF
  refine z (.ref a) (upd F' a (.lst vs)) G' H' (r'.to (r'.hr.frz hB hF hG hH) e2 fun i l' c us s1 s2 s3 s4 s5 s6 _ => ?_) (e'.trans e2) (.lst upd_same (hD.mono e2))
  have hne : c ≠ a := fun z => by
    subst z
    exact hn i l' s1 s2
  exact ⟨s3, by rw [upd_ne hne]; exact s5, s6⟩
theorem use_op {r : R2} {B F F1 G H H1 : Hp} {w : Ω} {σ : L2.St} {sl : Sl} (hf : OpD X.K r f) {x y : Dt} {fx fy : Fl} {vx vy : V} {C : Dt → Fl → Ω → Prop} {Q : VK} (r1 : SR X.K W B F G H w σ sl) (kx : FlOk X.K F σ sl vx x fx) (ky : FlOk X.K F σ sl vy y fy)
    (h : f x y fun d => C d .cl w) (hC : ∀ d v F' H', C d .cl w → SR X.K W B F' G H' w σ sl → Same F F' → Dr X.K F' v d → Q v H') : r vx vy H Q :=
  hf.run F H vx vy x y Q _ r1.hr.f (kx.da r1) (ky.da r1) h fun d v F' H' c x =>
    let ⟨s, e, k⟩ := x.use r1
    hC d v F' H' c s e k
theorem imp_op {r : R2} (hf : OpD X.K r f) (ha : PD X W a pa) (hb : PD X W b pb) : ∀ σ H Q, lft X.K W (wOp f pa pb) σ H Q → tOp r (lft X.K W pa) (lft X.K W pb) σ H Q := by
  intro σ H Q ⟨B, F, G, w, sl, r1, k⟩
  refine ⟨B, F, G, w, sl, r1, ha.mono _ _ _ _ (fun x fl w1 k1 v F1 G1 H1 r2 e1 f1 => ?_) k⟩
  refine ⟨B, F1, G1, w1, sl, r2, hb.mono _ _ _ _ (fun y fl2 w2 k2 u F2 G2 H2 r3 e2 f2 => ?_) k1⟩
  exact use_op (F1 := F1) (H1 := H1) (C := fun d fl w' => ∀ v F' G' H', SR X.K W B F' G' H' w' σ sl → Same F F' → FlOk X.K F' σ sl v d fl → Q v H') hf r3 (f1.mono e2) f2 k2 fun d z F' H' c s e3 k3 => c z F' G2 H' s ((e1.trans e2).trans e3) k3
theorem mono_op {r : R2} {K : PySem.W.Frag} (hf : OpD K r f) (ha : PD X W a pa) (hb : PD X W b pb) : ∀ sl w (C C' : Dt → Fl → Ω → Prop), (∀ d fl w', C d fl w' → C' d fl w') → wOp f pa pb sl w C → wOp f pa pb sl w C' := fun sl w C C' hC z =>
  ha.mono _ _ _ _ (fun x fl w1 z1 => hb.mono _ _ _ _ (fun y fl2 w2 z2 => hf.mono _ _ _ _ (fun d => hC _ _ _) z2) z1) z
theorem d_op {op : Operator} {r : R2} (ho : OpR X (binaryOp op) r) (hf : OpD X.K r f) (ha : PD X W a pa) (hb : PD X W b pb) : PD X W (.BinOp a op b pos) (wOp f pa pb) := ⟨pe_imp (pe_op ho ha.run hb.run) (imp_op hf ha hb), mono_op hf ha hb⟩
theorem d_cmp {op : CmpOp} {r : R2} (ho : OpR X (compareOp op) r) (hf : OpD X.K r f) (ha : PD X W a pa) (hb : PD X W b pb) (hm : behindInMarks op b = false) : PD X W (.Compare a [op] [b] pos) (wOp f pa pb) := ⟨pe_imp (pe_cmpR ho ha.run hb.run hm) (imp_op hf ha hb), mono_op hf ha hb⟩
theorem d_ix {r : R2} (ho : IxR X r) (hf : OpD X.K r f) (ha : PD X W a pa) (hb : PD X W b pb) (hs : PlainIx b) : PD X W (.Subscript a b pos) (wOp f pa pb) := ⟨pe_imp (pe_ix ho ha.run hb.run hs) (imp_op hf ha hb), mono_op hf ha hb⟩
theorem dl_op {op : Operator} {r : R2} {f : Dt → Dt → (List Dt → Prop) → Prop} (ho : OpR X (binaryOp op) r) (hf : OpL X.K r f) (ha : PD X W a pa) (hb : PD X W b pb) : PDL X W (.BinOp a op b pos) (wOpL f pa pb) := by
  refine ⟨pe_imp (pe_op ho ha.run hb.run) fun σ H Q ⟨B, F, G, w, sl, r1, k⟩ => ?_, fun sl w C C' hC z => ha.mono _ _ _ _ (fun x fl w1 z1 => hb.mono _ _ _ _ (fun y fl2 w2 z2 => hf.mono _ _ _ _ (fun d => hC _ _) z2) z1) z⟩
  refine ⟨B, F, G, w, sl, r1, ha.mono _ _ _ _ (fun x fl w1 k1 v F1 G1 H1 r2 e1 f1 => ?_) k⟩
  refine ⟨B, F1, G1, w1, sl, r2, hb.mono _ _ _ _ (fun y fl2 w2 k2 u F2 G2 H2 r3 e2 f2 => ?_) k1⟩
  refine hf.run F2 H2 v u x y Q _ r3.hr.f ((f1.mono e2).da r3) (f2.da r3) k2 fun l p vs c hp hD => ?_
  exact c p vs F2 G2 _ (r3.newOwn hp) (e1.trans e2) (r3.fresh hp).1 (r3.fresh hp).2 upd_same (r3.hr.f.free hp) (r3.hr.g.free hp) hD

/-! ### argument lists, displays -/
theorem da_nil : PDA X W [] wNil := ⟨pa_imp pa_nil fun σ H Q ⟨B, F, G, w, sl, r, k⟩ => k [] F G H r (Same.refl F) .nil, fun sl w C C' hC z => hC _ _ z⟩
theorem da_cons (ha : PD X W e pa) (hr : PDA X W es pr) (hs : starEach (e :: es) X.env = (false, eval e X.env) :: starEach es X.env := by rfl) : PDA X W (e :: es) (wCons pa pr) := by
  refine ⟨pa_imp (pa_cons ha.run hr.run hs) fun σ H Q ⟨B, F, G, w, sl, r, k⟩ => ?_, fun sl w C C' hC z => ha.mono _ _ _ _ (fun d fl w1 ⟨z0, z1⟩ => ⟨z0, hr.mono _ _ _ _ (fun ds w2 => hC _ _) z1⟩) z⟩
  refine ⟨B, F, G, w, sl, r, ha.mono _ _ _ _ (fun d fl w1 ⟨k0, k1⟩ v F1 G1 H1 r1 e1 f1 => ?_) k⟩
  subst k0
  refine ⟨B, F1, G1, w1, sl, r1, hr.mono _ _ _ _ (fun ds w2 k2 vs F2 G2 H2 r2 e2 f2 => ?_) k1⟩
  exact k2 (v :: vs) F2 G2 H2 r2 (e1.trans e2) (.cons (Dr.mono e2 f1) f2)
theorem d_tup {k : Nat} (h : PDA X W es q) : PD X W (.Tuple es k pos) (wTup q) := by
  refine ⟨pe_imp (pe_tup h.run) fun σ H Q ⟨B, F, G, w, sl, r, k⟩ => ?_, fun sl w C C' hC z => h.mono _ _ _ _ (fun ds w1 ⟨z0, z1⟩ => ⟨z0, hC _ _ _ z1⟩) z⟩
  refine ⟨B, F, G, w, sl, r, h.mono _ _ _ _ (fun ds w1 ⟨k0, k1⟩ vs F1 G1 H1 r1 e1 f1 => ⟨by rw [f1.len]; exact k0, fun p hp => ?_⟩) k⟩
  have e2 : Same F1 (upd F1 p (.tup vs)) := sameUpd (r1.hr.f.free hp)
  exact k1 (.ref p) _ G1 _ (r1.new hp) (e1.trans e2) (.tup upd_same (f1.mono e2))
theorem dl_lst (h : PDA X W es q) : PDL X W (.List es pos) (wLst q) := by
  refine ⟨pe_imp (pe_lst h.run) fun σ H Q ⟨B, F, G, w, sl, r, k⟩ => ?_, fun sl w C C' hC z => h.mono _ _ _ _ (fun ds w1 ⟨z0, z1⟩ => ⟨z0, hC _ _ z1⟩) z⟩
  refine ⟨B, F, G, w, sl, r, h.mono _ _ _ _ (fun ds w1 ⟨k0, k1⟩ vs F1 G1 H1 r1 e1 f1 => ⟨by rw [f1.len]; exact k0, fun p hp => ?_⟩) k⟩
  exact k1 p vs F1 G1 _ (r1.newOwn hp) e1 (r1.fresh hp).1 (r1.fresh hp).2 upd_same (r1.hr.f.free hp) (r1.hr.g.free hp) f1

/-! ### built-ins called with one or two arguments -/
theorem imp_f {r : List V → Hp → VK → Prop} {f : Dt → (Dt → Prop) → Prop} (hf : FnD X.K r f) (ha : PD X W a pa) : ∀ σ H Q, lft X.K W (wF f pa) σ H Q → tCB r (tCons (lft X.K W pa) tNil) σ H Q := by
  intro σ H Q ⟨B, F, G, w, sl, r1, k⟩
  refine ⟨B, F, G, w, sl, r1, ha.mono _ _ _ _ (fun x fl w1 k1 v F1 G1 H1 r2 e1 f1 => ?_) k⟩
  refine hf.run F1 H1 v x Q _ r2.hr.f (f1.da r2) k1 fun d z F' H' c x => ?_
  obtain ⟨s, e, k⟩ := x.use r2
  exact c z F' G1 H' s (e1.trans e) k
theorem d_b1 {id : String} {r : List V → Hp → VK → Prop} {f : Dt → (Dt → Prop) → Prop} {x : Str} {p : Pos} (hc : CallR X (.builtin id) r) (hf : FnD X.K r f) (hg : Gl X x) (hm : X.mg x = none) (hv : bootBuiltins x = some (.builtin id)) (ha : PD X W a pa)
    (hs : starEach (a :: []) X.env = (false, eval a X.env) :: starEach [] X.env := by rfl) (hn : x ≠ "__name__" := by decide) (hdb : (x == ("__debug__" : Str)) = false := by decide) : PD X W (.Call (.Name x p) [a] [] pos) (wF f pa) :=
  ⟨pe_imp (pe_callB hc hg hm hv (pa_cons ha.run pa_nil hs) hn hdb hs rfl) (imp_f hf ha), fun sl w C C' hC z => ha.mono _ _ _ _ (fun x fl w1 z1 => hf.mono _ _ _ (fun d => hC _ _ _) z1) z⟩
theorem d_t1 {id : String} {r : List V → Hp → VK → Prop} {f : Dt → (Dt → Prop) → Prop} {x : Str} {p : Pos} (hc : CallR X (.type id) r) (hf : FnD X.K r f) (hg : Gl X x) (hm : X.mg x = none) (hv : bootBuiltins x = some (.type id)) (ha : PD X W a pa)
    (hs : starEach (a :: []) X.env = (false, eval a X.env) :: starEach [] X.env := by rfl) (hn : x ≠ "__name__" := by decide) (hdb : (x == ("__debug__" : Str)) = false := by decide) : PD X W (.Call (.Name x p) [a] [] pos) (wF f pa) :=
  ⟨pe_imp (pe_callTy hc hg hm hv (pa_cons ha.run pa_nil hs) hn hdb hs rfl) (imp_f hf ha), fun sl w C C' hC z => ha.mono _ _ _ _ (fun x fl w1 z1 => hf.mono _ _ _ (fun d => hC _ _ _) z1) z⟩
theorem imp_fl {r : List V → Hp → VK → Prop} {f : Dt → (List Dt → Prop) → Prop} (hf : FnL X.K r f) (ha : PD X W a pa) : ∀ σ H Q, lftL X.K W (wFL f pa) σ H Q → tCB r (tCons (lft X.K W pa) tNil) σ H Q := by
  intro σ H Q ⟨B, F, G, w, sl, r1, k⟩
  refine ⟨B, F, G, w, sl, r1, ha.mono _ _ _ _ (fun x fl w1 k1 v F1 G1 H1 r2 e1 f1 => ?_) k⟩
  refine hf.run F1 H1 v x Q _ r2.hr.f (f1.da r2) k1 fun l p vs c hp hD => ?_
  exact c p vs F1 G1 _ (r2.newOwn hp) e1 (r2.fresh hp).1 (r2.fresh hp).2 upd_same (r2.hr.f.free hp) (r2.hr.g.free hp) hD
theorem dl_b1 {id : String} {r : List V → Hp → VK → Prop} {f : Dt → (List Dt → Prop) → Prop} {x : Str} {p : Pos} (hc : CallR X (.builtin id) r) (hf : FnL X.K r f) (hg : Gl X x) (hm : X.mg x = none) (hv : bootBuiltins x = some (.builtin id)) (ha : PD X W a pa)
    (hs : starEach (a :: []) X.env = (false, eval a X.env) :: starEach [] X.env := by rfl) (hn : x ≠ "__name__" := by decide) (hdb : (x == ("__debug__" : Str)) = false := by decide) : PDL X W (.Call (.Name x p) [a] [] pos) (wFL f pa) :=
  ⟨pe_imp (pe_callB hc hg hm hv (pa_cons ha.run pa_nil hs) hn hdb hs rfl) (imp_fl hf ha), fun sl w C C' hC z => ha.mono _ _ _ _ (fun x fl w1 z1 => hf.mono _ _ _ (fun d => hC _ _) z1) z⟩
theorem dl_t1 {id : String} {r : List V → Hp → VK → Prop} {f : Dt → (List Dt → Prop) → Prop} {x : Str} {p : Pos} (hc : CallR X (.type id) r) (hf : FnL X.K r f) (hg : Gl X x) (hm : X.mg x = none) (hv : bootBuiltins x = some (.type id)) (ha : PD X W a pa)
    (hs : starEach (a :: []) X.env = (false, eval a X.env) :: starEach [] X.env := by rfl) (hn : x ≠ "__name__" := by decide) (hdb : (x == ("__debug__" : Str)) = false := by decide) : PDL X W (.Call (.Name x p) [a] [] pos) (wFL f pa) :=
  ⟨pe_imp (pe_callTy hc hg hm hv (pa_cons ha.run pa_nil hs) hn hdb hs rfl) (imp_fl hf ha), fun sl w C C' hC z => ha.mono _ _ _ _ (fun x fl w1 z1 => hf.mono _ _ _ (fun d => hC _ _) z1) z⟩
theorem d_b2 {id : String} {r : List V → Hp → VK → Prop} {x : Str} {p : Pos} (hc : CallR X (.builtin id) r) (hf : FnD2 X.K r f) (hg : Gl X x) (hm : X.mg x = none) (hv : bootBuiltins x = some (.builtin id)) (ha : PD X W a pa) (hb : PD X W b pb)
    (hs : starEach (a :: [b]) X.env = (false, eval a X.env) :: starEach [b] X.env := by rfl) (hs2 : starEach (b :: []) X.env = (false, eval b X.env) :: starEach [] X.env := by rfl) (hpl : (backTo pos (starEach [b] X.env)).any (·.1) = false := by rfl)
    (hn : x ≠ "__name__" := by decide) (hdb : (x == ("__debug__" : Str)) = false := by decide) : PD X W (.Call (.Name x p) [a, b] [] pos) (wOp f pa pb) := by
  refine ⟨pe_imp (pe_callB hc hg hm hv (pa_cons ha.run (pa_cons hb.run pa_nil hs2) hs) hn hdb hs hpl) fun σ H Q ⟨B, F, G, w, sl, r1, k⟩ => ?_, fun sl w C C' hC z => ha.mono _ _ _ _ (fun x fl w1 z1 => hb.mono _ _ _ _ (fun y fl2 w2 z2 => hf.mono _ _ _ _ (fun d => hC _ _ _) z2) z1) z⟩
  refine ⟨B, F, G, w, sl, r1, ha.mono _ _ _ _ (fun x fl w1 k1 v F1 G1 H1 r2 e1 f1 => ?_) k⟩
  refine ⟨B, F1, G1, w1, sl, r2, hb.mono _ _ _ _ (fun y fl2 w2 k2 u F2 G2 H2 r3 e2 f2 => ?_) k1⟩
  refine hf.run F2 H2 v u x y Q _ r3.hr.f ((f1.mono e2).da r3) (f2.da r3) k2 fun d z F' H' c x => ?_
  obtain ⟨s, e, k⟩ := x.use r3
  exact c z F' G2 H' s ((e1.trans e2).trans e) k

/-! ### tests -/
theorem dt_val (h : PD X W e p) (he : ∀ whole, isTrue e X.env whole = (do let v ← whole; standAt e.pos; holding [v] (truthy v)) := by intro _; rfl) : PDT X W e (wTV p) := by
  refine ⟨pt_imp (pt_val h.run he) fun σ H Q ⟨B, F, G, w, sl, r, k⟩ => ?_, fun sl w C C' hC z => h.mono _ _ _ _ (fun d fl w1 ⟨b, z0, z1⟩ => ⟨b, z0, hC _ _ z1⟩) z⟩
  refine ⟨B, F, G, w, sl, r, h.mono _ _ _ _ (fun d fl w1 ⟨b, k0, k1⟩ v F1 G1 H1 r1 e1 f1 => ?_) k⟩
  subst k0
  exact ⟨b, (f1.da r1).bl, k1 F1 G1 H1 r1 e1⟩
theorem PDW.pt (h : PDW X W e t) : PDT X W e t := ⟨h.run.pt, h.mono⟩
theorem imp_and (ha : PDT X W a t) {b : Expr} (hb : ∀ sl w (C C' : Bool → Ω → Prop), (∀ d w', C d w' → C' d w') → u sl w C → u sl w C') : ∀ σ H Q, lftT X.K W (wTAnd t u) σ H Q → tAnd (lftT X.K W t) (lftT X.K W u) σ H Q := by
  intro σ H Q ⟨B, F, G, w, sl, r, k⟩
  refine ⟨B, F, G, w, sl, r, ha.mono _ _ _ _ (fun c w1 k1 F1 G1 H1 r1 e1 => ?_) k⟩
  cases c with
  | true => exact ⟨B, F1, G1, w1, sl, r1, hb _ _ _ _ (fun c w2 k2 F2 G2 H2 r2 e2 => k2 F2 G2 H2 r2 (e1.trans e2)) k1⟩
  | false => exact k1 F1 G1 H1 r1 e1
theorem imp_or (ha : PDT X W a t) {b : Expr} (hb : ∀ sl w (C C' : Bool → Ω → Prop), (∀ d w', C d w' → C' d w') → u sl w C → u sl w C') : ∀ σ H Q, lftT X.K W (wTOr t u) σ H Q → tOr (lftT X.K W t) (lftT X.K W u) σ H Q := by
  intro σ H Q ⟨B, F, G, w, sl, r, k⟩
  refine ⟨B, F, G, w, sl, r, ha.mono _ _ _ _ (fun c w1 k1 F1 G1 H1 r1 e1 => ?_) k⟩
  cases c with
  | false => exact ⟨B, F1, G1, w1, sl, r1, hb _ _ _ _ (fun c w2 k2 F2 G2 H2 r2 e2 => k2 F2 G2 H2 r2 (e1.trans e2)) k1⟩
  | true => exact k1 F1 G1 H1 r1 e1
theorem mono_tand (ha : PDT X W a t) (hb : ∀ sl w (C C' : Bool → Ω → Prop), (∀ d w', C d w' → C' d w') → u sl w C → u sl w C') : ∀ sl w (C C' : Bool → Ω → Prop), (∀ d w', C d w' → C' d w') → wTAnd t u sl w C → wTAnd t u sl w C' := fun sl w C C' hC z =>
  ha.mono _ _ _ _ (fun c w1 z1 => by
    cases c with
    | true => exact hb _ _ _ _ hC z1
    | false => exact hC _ _ z1) z
theorem mono_tor (ha : PDT X W a t) (hb : ∀ sl w (C C' : Bool → Ω → Prop), (∀ d w', C d w' → C' d w') → u sl w C → u sl w C') : ∀ sl w (C C' : Bool → Ω → Prop), (∀ d w', C d w' → C' d w') → wTOr t u sl w C → wTOr t u sl w C' := fun sl w C C' hC z =>
  ha.mono _ _ _ _ (fun c w1 z1 => by
    cases c with
    | false => exact hb _ _ _ _ hC z1
    | true => exact hC _ _ z1) z
theorem dt_and {rest : List Expr} (ha : PDT X W a t) (hb : PDW X W (.BoolOp .And (b :: rest) pos) u) : PDW X W (.BoolOp .And (a :: b :: rest) pos) (wTAnd t u) := ⟨pw_imp (pw_and ha.run hb.run) (imp_and (b := b) ha hb.mono), mono_tand ha hb.mono⟩
theorem dt_and1 (ha : PDT X W a t) : PDW X W (.BoolOp .And [a] pos) t := ⟨pw_and1 ha.run, ha.mono⟩
theorem dt_or {rest : List Expr} (ha : PDT X W a t) (hb : PDW X W (.BoolOp .Or (b :: rest) pos) u) : PDW X W (.BoolOp .Or (a :: b :: rest) pos) (wTOr t u) := ⟨pw_imp (pw_or ha.run hb.run) (imp_or (b := b) ha hb.mono), mono_tor ha hb.mono⟩
theorem dt_or1 (ha : PDT X W a t) : PDW X W (.BoolOp .Or [a] pos) t := ⟨pw_or1 ha.run, ha.mono⟩
theorem dt_not (ha : PDT X W a t) : PDT X W (.UnaryOp .Not a pos) (wTNot t) :=
  ⟨pt_imp (pt_not ha.run) fun σ H Q ⟨B, F, G, w, sl, r, k⟩ => ⟨B, F, G, w, sl, r, ha.mono _ _ _ _ (fun c w1 k1 F1 G1 H1 r1 e1 => k1 F1 G1 H1 r1 e1) k⟩, fun sl w C C' hC z => ha.mono _ _ _ _ (fun c w1 z1 => hC _ _ z1) z⟩

/-! ### and, or, not as values; a if t else b; is None -/
theorem d_one {op : BoolOp} (h : PD X W a p) : PD X W (.BoolOp op [a] pos) p := ⟨pe_one h.run, h.mono⟩
theorem d_and {rest : List Expr} (ha : PD X W a pa) (hb : PD X W (.BoolOp .And (b :: rest) pos) pb) : PD X W (.BoolOp .And (a :: b :: rest) pos) (wAnd pa pb) := by
  refine ⟨pe_imp (pe_and ha.run hb.run) fun σ H Q ⟨B, F, G, w, sl, r, k⟩ => ?_, fun sl w C C' hC z => ha.mono _ _ _ _ (fun d fl w1 ⟨c, z0, z1⟩ => ⟨c, z0, ?_⟩) z⟩
  · refine ⟨B, F, G, w, sl, r, ha.mono _ _ _ _ (fun d fl w1 ⟨c, k0, k1⟩ v F1 G1 H1 r1 e1 f1 => ?_) k⟩
    subst k0
    refine ⟨c, (f1.da r1).bl, ?_⟩
    cases c with
    | true => exact ⟨B, F1, G1, w1, sl, r1, hb.mono _ _ _ _ (fun d fl w2 k2 v F2 G2 H2 r2 e2 f2 => k2 v F2 G2 H2 r2 (e1.trans e2) f2) k1⟩
    | false => exact k1 _ F1 G1 H1 r1 e1 (.bl false)
  · cases c with
    | true => exact hb.mono _ _ _ _ hC z1
    | false => exact hC _ _ _ z1
theorem d_or {rest : List Expr} (ha : PD X W a pa) (hb : PD X W (.BoolOp .Or (b :: rest) pos) pb) : PD X W (.BoolOp .Or (a :: b :: rest) pos) (wOr pa pb) := by
  refine ⟨pe_imp (pe_or ha.run hb.run) fun σ H Q ⟨B, F, G, w, sl, r, k⟩ => ?_, fun sl w C C' hC z => ha.mono _ _ _ _ (fun d fl w1 ⟨c, z0, z1⟩ => ⟨c, z0, ?_⟩) z⟩
  · refine ⟨B, F, G, w, sl, r, ha.mono _ _ _ _ (fun d fl w1 ⟨c, k0, k1⟩ v F1 G1 H1 r1 e1 f1 => ?_) k⟩
    subst k0
    refine ⟨c, (f1.da r1).bl, ?_⟩
    cases c with
    | false => exact ⟨B, F1, G1, w1, sl, r1, hb.mono _ _ _ _ (fun d fl w2 k2 v F2 G2 H2 r2 e2 f2 => k2 v F2 G2 H2 r2 (e1.trans e2) f2) k1⟩
    | true => exact k1 _ F1 G1 H1 r1 e1 (.bl true)
  · cases c with
    | false => exact hb.mono _ _ _ _ hC z1
    | true => exact hC _ _ _ z1
theorem d_not (ha : PD X W a pa) : PD X W (.UnaryOp .Not a pos) (wNot pa) := by
  refine ⟨pe_imp (pe_not ha.run) fun σ H Q ⟨B, F, G, w, sl, r, k⟩ => ?_, fun sl w C C' hC z => ha.mono _ _ _ _ (fun d fl w1 ⟨c, z0, z1⟩ => ⟨c, z0, hC _ _ _ z1⟩) z⟩
  refine ⟨B, F, G, w, sl, r, ha.mono _ _ _ _ (fun d fl w1 ⟨c, k0, k1⟩ v F1 G1 H1 r1 e1 f1 => ?_) k⟩
  subst k0
  exact ⟨c, (f1.da r1).bl, k1 _ F1 G1 H1 r1 e1 (.bl _)⟩
theorem d_ifx (hc : PDT X W c t) (ha : PD X W a pa) (hb : PD X W b pb) : PD X W (.IfExp c a b pos) (wIfx t pa pb) := by
  refine ⟨pe_imp (pe_ifExp hc.run ha.run hb.run) fun σ H Q ⟨B, F, G, w, sl, r, k⟩ => ?_, fun sl w C C' hC z => hc.mono _ _ _ _ (fun c w1 z1 => ?_) z⟩
  · refine ⟨B, F, G, w, sl, r, hc.mono _ _ _ _ (fun c w1 k1 F1 G1 H1 r1 e1 => ?_) k⟩
    cases c with
    | true => exact ⟨B, F1, G1, w1, sl, r1, ha.mono _ _ _ _ (fun d fl w2 k2 v F2 G2 H2 r2 e2 f2 => k2 v F2 G2 H2 r2 (e1.trans e2) f2) k1⟩
    | false => exact ⟨B, F1, G1, w1, sl, r1, hb.mono _ _ _ _ (fun d fl w2 k2 v F2 G2 H2 r2 e2 f2 => k2 v F2 G2 H2 r2 (e1.trans e2) f2) k1⟩
  · cases c with
    | true => exact ha.mono _ _ _ _ hC z1
    | false => exact hb.mono _ _ _ _ hC z1
theorem Da.isNon {K : PySem.W.Frag} {F H : Hp} {v : V} {d : Dt} {b : Bool} (h : Da K F H v d) (e : isNon d = some b) : decide (v = .non) = b := by
  cases d with
  | non => cases e; cases h.non; rfl
  | bl x => cases e; cases h.bl; rfl
  | int x => cases e; cases h.int; rfl
  | str x => cases e; cases h.str; rfl
  | tup l => cases e; obtain ⟨_, _, rfl, _⟩ := h.tup; rfl
  | lst l =>
    cases e
    rcases h with h | ⟨_, _, _, rfl, _⟩
    · cases h; rfl
    · rfl
  | emp => cases e; obtain ⟨_, rfl, _⟩ := h.emp; rfl
  | dic ks l => cases e; obtain ⟨_, _, _, rfl, _⟩ := h.dicR; rfl
  | ins c ns l => cases e; obtain ⟨_, _, _, rfl, _⟩ := h.insR; rfl
  | opq u => cases e
theorem imp_isN (ha : PD X W a pa) : ∀ σ H Q, lft X.K W (wIsN pa) σ H Q → tIsN (lft X.K W pa) σ H Q := by
  intro σ H Q ⟨B, F, G, w, sl, r, k⟩
  refine ⟨B, F, G, w, sl, r, ha.mono _ _ _ _ (fun d fl w1 ⟨c, k0, k1⟩ v F1 G1 H1 r1 e1 f1 => ?_) k⟩
  show Q (.bl (decide (v = .non))) H1
  rw [(f1.da r1).isNon k0]
  exact k1 _ F1 G1 H1 r1 e1 (.bl _)
theorem imp_notN (ha : PD X W a pa) : ∀ σ H Q, lft X.K W (wNotN pa) σ H Q → tNotN (lft X.K W pa) σ H Q := by
  intro σ H Q ⟨B, F, G, w, sl, r, k⟩
  refine ⟨B, F, G, w, sl, r, ha.mono _ _ _ _ (fun d fl w1 ⟨c, k0, k1⟩ v F1 G1 H1 r1 e1 f1 => ?_) k⟩
  show Q (.bl (!decide (v = .non))) H1
  rw [(f1.da r1).isNon k0]
  exact k1 _ F1 G1 H1 r1 e1 (.bl _)
theorem mono_isN (ha : PD X W a pa) : ∀ sl w (C C' : Dt → Fl → Ω → Prop), (∀ d fl w', C d fl w' → C' d fl w') → wIsN pa sl w C → wIsN pa sl w C' := fun sl w C C' hC z => ha.mono _ _ _ _ (fun d fl w1 ⟨c, z0, z1⟩ => ⟨c, z0, hC _ _ _ z1⟩) z
theorem mono_notN (ha : PD X W a pa) : ∀ sl w (C C' : Dt → Fl → Ω → Prop), (∀ d fl w', C d fl w' → C' d fl w') → wNotN pa sl w C → wNotN pa sl w C' := fun sl w C C' hC z => ha.mono _ _ _ _ (fun d fl w1 ⟨c, z0, z1⟩ => ⟨c, z0, hC _ _ _ z1⟩) z
theorem d_isN {j : Nat} {pos' : Pos} (ha : PD X W a pa) : PD X W (.Compare a [.Is] [.Constant .none j pos'] pos) (wIsN pa) := ⟨pe_imp (pe_cmp (pc_isN ha.run) rfl) (imp_isN ha), mono_isN ha⟩
theorem d_notN {j : Nat} {pos' : Pos} (ha : PD X W a pa) : PD X W (.Compare a [.IsNot] [.Constant .none j pos'] pos) (wNotN pa) := ⟨pe_imp (pe_cmp (pc_notN ha.run) rfl) (imp_notN ha), mono_notN ha⟩
theorem imp_chain {r r' : R2} {f g : Int → Int → Bool} (er : r = rI0 fun i j => .bl (f i j)) (er' : r' = rI0 fun i j => .bl (g i j)) (ha : PD X W a pa) (hb : PD X W b pb) (hc : PD X W c pc) : ∀ σ H Q, lft X.K W (wChain f g pa pb pc) σ H Q → tChain r r' (lft X.K W pa) (lft X.K W pb) (lft X.K W pc) σ H Q := by
  intro σ H Q ⟨B, F, G, w, sl, r, k⟩
  subst er er'
  refine ⟨B, F, G, w, sl, r, ha.mono _ _ _ _ (fun x fl w1 k1 v F1 G1 H1 r1 e1 f1 => ?_) k⟩
  refine ⟨B, F1, G1, w1, sl, r1, hb.mono _ _ _ _ (fun y fl2 w2 ⟨i, j, k2, k3, k4⟩ u F2 G2 H2 r2 e2 f2 => ?_) k1⟩
  subst k2 k3
  have h1 := ((f1.mono e2).da r2).int
  have h2 := (f2.da r2).int
  subst h1 h2
  refine ⟨i, j, rfl, rfl, f i j, rfl, ?_⟩
  cases hf : f i j with
  | true =>
    rw [hf] at k4
    refine ⟨B, F2, G2, w2, sl, r2, hc.mono _ _ _ _ (fun z fl3 w3 ⟨n, k5, k6⟩ u F3 G3 H3 r3 e3 f3 => ?_) k4⟩
    subst k5
    have h3 := (f3.da r3).int
    subst h3
    exact ⟨j, n, rfl, rfl, k6 _ F3 G3 H3 r3 ((e1.trans e2).trans e3) (.bl _)⟩
  | false =>
    rw [hf] at k4
    exact k4 _ F2 G2 H2 r2 (e1.trans e2) (.bl _)
theorem mono_chain {f g : Int → Int → Bool} (ha : PD X W a pa) (hb : PD X W b pb) (hc : PD X W c pc) : ∀ sl w (C C' : Dt → Fl → Ω → Prop), (∀ d fl w', C d fl w' → C' d fl w') → wChain f g pa pb pc sl w C → wChain f g pa pb pc sl w C' := by
  refine fun sl w C C' hC z => ha.mono _ _ _ _ (fun d fl w1 z1 => hb.mono _ _ _ _ (fun d2 fl2 w2 ⟨i, j, z2, z3, z4⟩ => ⟨i, j, z2, z3, ?_⟩) z1) z
  cases hf : f i j with
  | true =>
    rw [hf] at z4
    exact hc.mono _ _ _ _ (fun d fl w3 ⟨k, z5, z6⟩ => ⟨k, z5, hC _ _ _ z6⟩) z4
  | false =>
    rw [hf] at z4
    exact hC _ _ _ z4
/-- i op j op k, ints, the middle once -/
theorem d_chain {op op' : CmpOp} {f g : Int → Int → Bool} (ho : OpR X (compareOp op) (rI0 fun i j => .bl (f i j))) (ho' : OpR X (compareOp op') (rI0 fun i j => .bl (g i j))) (ha : PD X W a pa) (hb : PD X W b pb) (hc : PD X W c pc)
    (hm : lastMarks [op, op'] [b, c] = false := by with_unfolding_all rfl) : PD X W (.Compare a [op, op'] [b, c] pos) (wChain f g pa pb pc) := ⟨pe_imp (pe_chain ho ho' ha.run hb.run hc.run hm) (imp_chain rfl rfl ha hb hc), mono_chain ha hb hc⟩
/-! ### comparisons as tests -/
theorem lft_TV {p : DE Ω} (hp : ∀ sl w (C C' : Dt → Fl → Ω → Prop), (∀ d fl w', C d fl w' → C' d fl w') → p sl w C → p sl w C') : ∀ σ H (Q : Bool → Hp → Prop), lftT X.K W (wTV p) σ H Q → lft X.K W p σ H fun x H1 => ∃ c, x = .bl c ∧ Q c H1 := by
  intro σ H Q ⟨B, F, G, w, sl, r, k⟩
  refine ⟨B, F, G, w, sl, r, hp _ _ _ _ (fun d fl w1 ⟨b, k0, k1⟩ v F1 G1 H1 r1 e1 f1 => ?_) k⟩
  subst k0
  exact ⟨b, (f1.da r1).bl, k1 F1 G1 H1 r1 e1⟩
theorem mono_TV {p : DE Ω} (hp : ∀ sl w (C C' : Dt → Fl → Ω → Prop), (∀ d fl w', C d fl w' → C' d fl w') → p sl w C → p sl w C') : ∀ sl w (C C' : Bool → Ω → Prop), (∀ d w', C d w' → C' d w') → wTV p sl w C → wTV p sl w C' := fun sl w C C' hC z => hp _ _ _ _ (fun d fl w1 ⟨b, z0, z1⟩ => ⟨b, z0, hC _ _ z1⟩) z
theorem dt_cmp {op : CmpOp} {r : R2} (ho : OpR X (compareOp op) r) (hf : OpD X.K r f) (ha : PD X W a pa) (hb : PD X W b pb) (hm : behindInMarks op b = false) : PDT X W (.Compare a [op] [b] pos) (wTV (wOp f pa pb)) := ⟨pt_imp (pt_cmpR ho ha.run hb.run hm) fun σ H Q z => imp_op hf ha hb _ _ _ (lft_TV (mono_op hf ha hb) σ H Q z), mono_TV (mono_op hf ha hb)⟩
theorem dt_isN {j : Nat} {pos' : Pos} (ha : PD X W a pa) : PDT X W (.Compare a [.Is] [.Constant .none j pos'] pos) (wTV (wIsN pa)) := ⟨pt_imp (pt_cmp (pc_isN ha.run) rfl) fun σ H Q z => imp_isN ha _ _ _ (lft_TV (mono_isN ha) σ H Q z), mono_TV (mono_isN ha)⟩
theorem dt_notN {j : Nat} {pos' : Pos} (ha : PD X W a pa) : PDT X W (.Compare a [.IsNot] [.Constant .none j pos'] pos) (wTV (wNotN pa)) := ⟨pt_imp (pt_cmp (pc_notN ha.run) rfl) fun σ H Q z => imp_notN ha _ _ _ (lft_TV (mono_notN ha) σ H Q z), mono_TV (mono_notN ha)⟩
theorem dt_chain {op op' : CmpOp} {f g : Int → Int → Bool} (ho : OpR X (compareOp op) (rI0 fun i j => .bl (f i j))) (ho' : OpR X (compareOp op') (rI0 fun i j => .bl (g i j))) (ha : PD X W a pa) (hb : PD X W b pb) (hc : PD X W c pc)
    (hm : lastMarks [op, op'] [b, c] = false := by with_unfolding_all rfl) : PDT X W (.Compare a [op, op'] [b, c] pos) (wTV (wChain f g pa pb pc)) := ⟨pt_imp (pt_chain ho ho' ha.run hb.run hc.run hm) fun σ H Q z => imp_chain rfl rfl ha hb hc _ _ _ (lft_TV (mono_chain ha hb hc) σ H Q z), mono_TV (mono_chain ha hb hc)⟩

/-! ### slices -/
theorem do_none : PDO X W none wO0 := ⟨⟨fun pins s σ H Q I h => po_none.run pins s σ H Q I (by
  obtain ⟨B, F, G, w, sl, r, k⟩ := h
  exact k F G H r (Same.refl F))⟩, fun sl w C C' hC z => hC _ _ z⟩
theorem do_some (h : PD X W e p) : PDO X W (some e) (wO1 p) := by
  refine ⟨⟨fun pins s σ H Q I k => (po_some h.run).run pins s σ H Q I ?_⟩, fun sl w C C' hC z => h.mono _ _ _ _ (fun d fl w1 ⟨i, z0, z1⟩ => ⟨i, z0, hC _ _ z1⟩) z⟩
  obtain ⟨B, F, G, w, sl, r, k⟩ := k
  refine ⟨B, F, G, w, sl, r, h.mono _ _ _ _ (fun d fl w1 ⟨i, k0, k1⟩ v F1 G1 H1 r1 e1 f1 => ?_) k⟩
  subst k0
  exact ⟨i, (f1.da r1).int, k1 F1 G1 H1 r1 e1⟩
structure SlD (K : PySem.W.Frag) (r : V → Option Int → Option Int → Hp → VK → Prop) (f : Dt → Option Int → Option Int → (Dt → Prop) → Prop) : Prop where
  run : ∀ (F H : Hp) (xv : V) (x : Dt) (l h : Option Int) (Q : VK) (C : Dt → Prop), Same F H → Da K F H xv x → f x l h C → (∀ d v F' H', C d → Ext K F H F' H' v d → Q v H') → r xv l h H Q
  mono : ∀ x l h (C C' : Dt → Prop), (∀ d, C d → C' d) → f x l h C → f x l h C'
theorem d_sl {r : V → Option Int → Option Int → Hp → VK → Prop} {f : Dt → Option Int → Option Int → (Dt → Prop) → Prop} {lo hi : Option Expr} {p2 : Pos} {pl ph : DO Ω} (hr : SlR X r) (hf : SlD X.K r f) (ha : PD X W a pa) (hl : PDO X W lo pl) (hh : PDO X W hi ph) : PD X W (.Subscript a (.Slice lo hi none p2) pos) (wSl f pa pl ph) := by
  refine ⟨pe_imp (pe_slice hr ha.run hl.run hh.run) fun σ H Q ⟨B, F, G, w, sl, r, k⟩ => ?_, fun sl w C C' hC z => ha.mono _ _ _ _ (fun d fl w1 z1 => hl.mono _ _ _ _ (fun o w2 z2 => hh.mono _ _ _ _ (fun o w3 z3 => hf.mono _ _ _ _ _ (fun d => hC _ _ _) z3) z2) z1) z⟩
  refine ⟨B, F, G, w, sl, r, ha.mono _ _ _ _ (fun x fl w1 k1 v F1 G1 H1 r1 e1 f1 => ?_) k⟩
  refine ⟨B, F1, G1, w1, sl, r1, hl.mono _ _ _ _ (fun lo w2 k2 F2 G2 H2 r2 e2 => ?_) k1⟩
  refine ⟨B, F2, G2, w2, sl, r2, hh.mono _ _ _ _ (fun hi w3 k3 F3 G3 H3 r3 e3 => ?_) k2⟩
  refine hf.run F3 H3 v x lo hi Q _ r3.hr.f ((f1.mono (e2.trans e3)).da r3) k3 fun d z F' H' c x => ?_
  obtain ⟨s, e, k⟩ := x.use r3
  exact c z F' G3 H' s (((e1.trans e2).trans e3).trans e) k
end
end Ck
namespace Ck
open PySem PySem.Spec PyProof.Rows L2

/-! ### data as PyData -/
mutual
def Dt.py : Dt → Option PyData
  | .non => some .none
  | .bl b => some (.bool b)
  | .int i => some (.int i)
  | .str x => some (.str x)
  | .tup l => (pyL l).map .tuple
  | .lst l => (pyL l).map .list
  | .emp => none
  | .opq _ => none
  | .dic _ _ => none
  | .ins _ _ _ => none
def pyL : List Dt → Option (List PyData)
  | [] => some []
  | d :: l => (d.py).bind fun p => (pyL l).map fun r => p :: r
end
section
variable {K : PySem.W.Frag} {H : Hp}
mutual
theorem Dr.dp : ∀ {d : Dt} {v : V} {p : PyData}, Dr K H v d → d.py = some p → Dp K H v p
  | .non, _, _, h, e => by
    simp only [Dt.py, Option.some.injEq] at e
    subst e
    cases h
    exact .non
  | .bl b, _, _, h, e => by
    simp only [Dt.py, Option.some.injEq] at e
    subst e
    cases h
    exact .bl b
  | .int b, _, _, h, e => by
    simp only [Dt.py, Option.some.injEq] at e
    subst e
    cases h
    exact .int b
  | .str b, _, _, h, e => by
    simp only [Dt.py, Option.some.injEq] at e
    subst e
    cases h
    exact .str b
  | .tup l, _, _, h, e => by
    simp only [Dt.py, Option.map_eq_some_iff] at e
    obtain ⟨ps, e1, rfl⟩ := e
    cases h with
    | tup q r => exact .tup (SqT.of q) (DrL.dp r e1)
    | tupK q => exact .tup (.inr q) (DrL.dp .nil e1)
  | .lst l, _, _, h, e => by
    simp only [Dt.py, Option.map_eq_some_iff] at e
    obtain ⟨ps, e1, rfl⟩ := e
    cases h with | lst q r => exact .lst (.of q) (DrL.dp r e1)
  | .emp, _, _, _, e => by simp only [Dt.py] at e; cases e
  | .dic _ _, _, _, _, e => by simp only [Dt.py] at e; cases e
  | .ins _ _ _, _, _, _, e => by simp only [Dt.py] at e; cases e
  | .opq _, _, _, _, e => by simp only [Dt.py] at e; cases e
theorem DrL.dp : ∀ {l : List Dt} {vs : List V} {ps : List PyData}, DrL K H vs l → pyL l = some ps → DpAll K H vs ps
  | [], _, _, h, e => by
    simp only [pyL, Option.some.injEq] at e
    subst e
    cases h
    exact .nil
  | d :: l, _, _, h, e => by
    simp only [pyL, Option.bind_eq_some_iff, Option.map_eq_some_iff] at e
    obtain ⟨p, e1, ps, e2, rfl⟩ := e
    cases h with | cons q r => exact .cons (Dr.dp q e1) (DrL.dp r e2)
end
end

/-! ### flat data -/
def fv : Dt → V
  | .non => .non
  | .bl b => .bl b
  | .int i => .int i
  | .str x => .str x
  | _ => .ref 0
def flatD : Dt → Bool
  | .non => true
  | .bl _ => true
  | .int _ => true
  | .str _ => true
  | _ => false
theorem Dr.fv {K : PySem.W.Frag} {F : Hp} {v : V} {d : Dt} (h : Dr K F v d) (f : flatD d = true) : v = fv d ∧ flatV v = true := by
  cases h <;> first | exact ⟨rfl, rfl⟩ | exact absurd f (by simp [flatD])
theorem DrL.fv {K : PySem.W.Frag} {F : Hp} : ∀ {vs : List V} {l : List Dt}, DrL K F vs l → l.all flatD = true → vs = l.map Ck.fv ∧ vs.all flatV = true
  | _, _, .nil, _ => ⟨rfl, rfl⟩
  | _, _, .cons h q, f => by
    rw [List.all_cons, Bool.and_eq_true] at f
    obtain ⟨e1, e2⟩ := h.fv f.1
    obtain ⟨e3, e4⟩ := DrL.fv q f.2
    rw [List.map_cons, List.all_cons, ← e1, ← e3, e2, e4]
    exact ⟨rfl, rfl⟩
def inD (x : Dt) (l : List Dt) : Bool := inV (fv x) (l.map fv)
theorem Dr.flat {K : PySem.W.Frag} {F : Hp} {d : Dt} (f : flatD d = true) : Dr K F (Ck.fv d) d := by
  cases d <;> first | exact .non | exact .bl _ | exact .int _ | exact .str _ | exact absurd f (by simp [flatD])

theorem opr_or {X : Cx} {f : Value → Value → Sem Value} {r r' : R2} (h : OpR X f r) (h' : OpR X f r') : OpR X f (fun x y H Q => r x y H Q ∨ r' x y H Q) := by
  intro pins s σ H x y v u Q I rx ry q
  rcases q with q | q
  · exact h pins s σ H x y v u Q I rx ry q
  · exact h' pins s σ H x y v u Q I rx ry q
theorem callr_or {X : Cx} {f : Value} {r r' : List V → Hp → VK → Prop} (h : CallR X f r) (h' : CallR X f r') : CallR X f (fun xs H Q => r xs H Q ∨ r' xs H Q) := by
  intro pins s σ H xs us Q I rx q
  rcases q with q | q
  · exact h pins s σ H xs us Q I rx q
  · exact h' pins s σ H xs us Q I rx q

section
variable {X : Cx} {K : PySem.W.Frag}
/-! ### + - * // % ** -/
def fAdd : Dt → Dt → (Dt → Prop) → Prop
  | .int i, .int j, C => C (.int (i + j))
  | .str x, .str y, C => x.length + y.length ≤ sizeLine ∧ C (.str (x ++ y))
  | .lst l, .lst r, C => l.length + r.length ≤ sizeLine ∧ C (.lst (l ++ r))
  | .tup l, .tup r, C => l.length + r.length ≤ sizeLine ∧ C (.tup (l ++ r))
  | _, _, _ => False
def rAddA (K : PySem.W.Frag) : R2 := fun x y H Q => (rI0 (fun i j => .int (i + j)) x y H Q ∨ ∃ i j, x = .str i ∧ y = .str j ∧ i.length + j.length ≤ sizeLine ∧ Q (.str (i ++ j)) H) ∨ (rCat x y H Q ∨ rCatA K x y H Q)
theorem op_addA : OpR X (binaryOp .Add) (rAddA X.K) := opr_or (opr_or op_add op_add_str) (opr_or op_cat op_catA)
theorem Ext.lst {F H : Hp} {p : Addr} {vs : List V} {l : List Dt} (hp : H p = none) (e : Same F H) (h : DrL K F vs l) : Ext K F H (upd F p (.lst vs)) (upd H p (.lst vs)) (.ref p) (.lst l) :=
  .inr (.inl ⟨p, .lst vs, hp, rfl, rfl, .lst upd_same (h.mono (sameUpd (e.free hp)))⟩)
theorem Ext.tup {F H : Hp} {p : Addr} {vs : List V} {l : List Dt} (hp : H p = none) (e : Same F H) (h : DrL K F vs l) : Ext K F H (upd F p (.tup vs)) (upd H p (.tup vs)) (.ref p) (.tup l) :=
  .inr (.inl ⟨p, .tup vs, hp, rfl, rfl, .tup upd_same (h.mono (sameUpd (e.free hp)))⟩)
theorem Ext.refl {F H : Hp} {v : V} {d : Dt} (h : Dr K F v d) : Ext K F H F H v d := .inl ⟨rfl, rfl, h⟩
theorem od_add : OpD K (rAddA K) fAdd := by
  refine ⟨fun F H xv yv x y Q C e hx hy h q => ?_, fun x y C C' hC h => ?_⟩
  · unfold fAdd at h
    split at h
    · have h1 := hx.int; have h2 := hy.int; subst h1 h2
      exact .inl (.inl ⟨_, _, rfl, rfl, q _ _ F H h (.refl (.int _))⟩)
    · have h1 := hx.str; have h2 := hy.str; subst h1 h2
      exact .inl (.inr ⟨_, _, rfl, rfl, h.1, q _ _ F H h.2 (.refl (.str _))⟩)
    · obtain ⟨a, vs, rfl, ha, da⟩ := hx.lst e
      obtain ⟨b, us, rfl, hb, db⟩ := hy.lst e
      exact .inr (.inl ⟨a, b, vs, us, rfl, rfl, ha, hb, by rw [da.len, db.len]; exact h.1, fun p hp => q _ _ _ _ h.2 (.lst hp e (da.app db))⟩)
    · obtain ⟨a, vs, rfl, ha, da, dx⟩ := hx.tupS
      obtain ⟨b, us, rfl, hb, db, dy⟩ := hy.tupS
      refine .inr (.inr ⟨a, b, vs, us, rfl, rfl, sameSeqT e ha, sameSeqT e hb, by rw [da.len, db.len]; exact h.1, fun z => ?_, fun _ z => ?_, fun _ _ p hp => q _ _ _ _ h.2 (.tup hp e (da.app db))⟩)
      · subst z
        cases da
        exact q _ _ F H h.2 (.refl dy)
      · subst z
        cases db
        refine q _ _ F H h.2 (.refl ?_)
        rw [List.append_nil]
        exact dx
    · exact h.elim
  · unfold fAdd at h ⊢
    split at h <;> first | exact hC _ h | exact ⟨h.1, hC _ h.2⟩ | exact h.elim
/-- + of lists, a new one -/
def fAddL : Dt → Dt → (List Dt → Prop) → Prop
  | .lst l, .lst r, C => l.length + r.length ≤ sizeLine ∧ C (l ++ r)
  | _, _, _ => False
theorem ol_add : OpL K rCat fAddL := by
  refine ⟨fun F H xv yv x y Q C e hx hy h q => ?_, fun x y C C' hC h => ?_⟩
  · unfold fAddL at h
    split at h
    · obtain ⟨a, vs, rfl, ha, da⟩ := hx.lst e
      obtain ⟨b, us, rfl, hb, db⟩ := hy.lst e
      exact ⟨a, b, vs, us, rfl, rfl, ha, hb, by rw [da.len, db.len]; exact h.1, fun p hp => q _ _ _ h.2 hp (da.app db)⟩
    · exact h.elim
  · unfold fAddL at h ⊢
    split at h <;> first | exact ⟨h.1, hC _ h.2⟩ | exact h.elim
def fSub : Dt → Dt → (Dt → Prop) → Prop
  | .int i, .int j, C => C (.int (i - j))
  | _, _, _ => False
theorem od_sub : OpD K (rI0 fun i j => .int (i - j)) fSub := by
  refine ⟨fun F H xv yv x y Q C e hx hy h q => ?_, fun x y C C' hC h => ?_⟩
  · unfold fSub at h
    split at h
    · have h1 := hx.int; have h2 := hy.int; subst h1 h2
      exact ⟨_, _, rfl, rfl, q _ _ F H h (.refl (.int _))⟩
    · exact h.elim
  · unfold fSub at h ⊢
    split at h <;> first | exact hC _ h | exact h.elim
/-- the product of two ints; n times a list -/
def fMul : Dt → Dt → (Dt → Prop) → Prop
  | .int i, .int j, C => CMulX i j ∧ C (.int (i * j))
  | .lst l, .int k, C => -(2 ^ 63) ≤ k ∧ k < 2 ^ 63 ∧ l.length * k.toNat ≤ sizeLine ∧ C (.lst (List.replicate k.toNat l).flatten)
  | _, _, _ => False
def rMulA : R2 := fun x y H Q => rI CMulX (fun i j => .int (i * j)) x y H Q ∨ rRep x y H Q
theorem op_mulA : OpR X (binaryOp .Mult) rMulA := opr_or op_mulX op_rep
theorem od_mul : OpD K rMulA fMul := by
  refine ⟨fun F H xv yv x y Q C e hx hy h q => ?_, fun x y C C' hC h => ?_⟩
  · unfold fMul at h
    split at h
    · have h1 := hx.int; have h2 := hy.int; subst h1 h2
      exact .inl ⟨_, _, rfl, rfl, h.1, q _ _ F H h.2 (.refl (.int _))⟩
    · obtain ⟨a, vs, rfl, ha, da⟩ := hx.lst e
      have h2 := hy.int; subst h2
      exact .inr ⟨a, _, vs, rfl, rfl, ha, h.1, h.2.1, by rw [da.len]; exact h.2.2.1, fun p hp => q _ _ _ _ h.2.2.2 (.lst hp e (da.rep _))⟩
    · exact h.elim
  · unfold fMul at h ⊢
    split at h <;> first | exact ⟨h.1, hC _ h.2⟩ | exact ⟨h.1, h.2.1, h.2.2.1, hC _ h.2.2.2⟩ | exact h.elim
def fMulL : Dt → Dt → (List Dt → Prop) → Prop
  | .lst l, .int k, C => -(2 ^ 63) ≤ k ∧ k < 2 ^ 63 ∧ l.length * k.toNat ≤ sizeLine ∧ C (List.replicate k.toNat l).flatten
  | _, _, _ => False
theorem ol_mul : OpL K rRep fMulL := by
  refine ⟨fun F H xv yv x y Q C e hx hy h q => ?_, fun x y C C' hC h => ?_⟩
  · unfold fMulL at h
    split at h
    · obtain ⟨a, vs, rfl, ha, da⟩ := hx.lst e
      have h2 := hy.int; subst h2
      exact ⟨a, _, vs, rfl, rfl, ha, h.1, h.2.1, by rw [da.len]; exact h.2.2.1, fun p hp => q _ _ _ h.2.2.2 hp (da.rep _)⟩
    · exact h.elim
  · unfold fMulL at h ⊢
    split at h <;> first | exact ⟨h.1, h.2.1, h.2.2.1, hC _ h.2.2.2⟩ | exact h.elim
def fDiv : Dt → Dt → (Dt → Prop) → Prop
  | .int i, .int j, C => CDivW i j ∧ C (.int (i / j))
  | _, _, _ => False
theorem od_div : OpD K (rI CDivW fun i j => .int (i / j)) fDiv := by
  refine ⟨fun F H xv yv x y Q C e hx hy h q => ?_, fun x y C C' hC h => ?_⟩
  · unfold fDiv at h
    split at h
    · have h1 := hx.int; have h2 := hy.int; subst h1 h2
      exact ⟨_, _, rfl, rfl, h.1, q _ _ F H h.2 (.refl (.int _))⟩
    · exact h.elim
  · unfold fDiv at h ⊢
    split at h <;> first | exact ⟨h.1, hC _ h.2⟩ | exact h.elim
def fMod : Dt → Dt → (Dt → Prop) → Prop
  | .int i, .int j, C => 0 < j ∧ C (.int (i % j))
  | _, _, _ => False
theorem od_mod : OpD K (rI (fun _ j => 0 < j) fun i j => .int (i % j)) fMod := by
  refine ⟨fun F H xv yv x y Q C e hx hy h q => ?_, fun x y C C' hC h => ?_⟩
  · unfold fMod at h
    split at h
    · have h1 := hx.int; have h2 := hy.int; subst h1 h2
      exact ⟨_, _, rfl, rfl, h.1, q _ _ F H h.2 (.refl (.int _))⟩
    · exact h.elim
  · unfold fMod at h ⊢
    split at h <;> first | exact ⟨h.1, hC _ h.2⟩ | exact h.elim
def fPow : Dt → Dt → (Dt → Prop) → Prop
  | .int i, .int j, C => CPow i j ∧ C (.int (i ^ j.toNat))
  | _, _, _ => False
theorem od_pow : OpD K (rI CPow fun i j => .int (i ^ j.toNat)) fPow := by
  refine ⟨fun F H xv yv x y Q C e hx hy h q => ?_, fun x y C C' hC h => ?_⟩
  · unfold fPow at h
    split at h
    · have h1 := hx.int; have h2 := hy.int; subst h1 h2
      exact ⟨_, _, rfl, rfl, h.1, q _ _ F H h.2 (.refl (.int _))⟩
    · exact h.elim
  · unfold fPow at h ⊢
    split at h <;> first | exact ⟨h.1, hC _ h.2⟩ | exact h.elim

/-! ### < <= > >= == != in -/
def fCmp (p : Int → Int → Bool) : Dt → Dt → (Dt → Prop) → Prop
  | .int i, .int j, C => C (.bl (p i j))
  | _, _, _ => False
theorem od_cmp {p : Int → Int → Bool} : OpD K (rI0 fun i j => .bl (p i j)) (fCmp p) := by
  refine ⟨fun F H xv yv x y Q C e hx hy h q => ?_, fun x y C C' hC h => ?_⟩
  · unfold fCmp at h
    split at h
    · have h1 := hx.int; have h2 := hy.int; subst h1 h2
      exact ⟨_, _, rfl, rfl, q _ _ F H h (.refl (.bl _))⟩
    · exact h.elim
  · unfold fCmp at h ⊢
    split at h <;> first | exact hC _ h | exact h.elim
/-- two lists of unlike lengths -/
def rEqLen (K : PySem.W.Frag) : R2 := fun x y H Q => ∃ a b xs ys, x = .ref a ∧ y = .ref b ∧ SqL K H a xs ∧ SqL K H b ys ∧ xs.length ≠ ys.length ∧ Q (.bl false) H
theorem op_eqLen (hu : X.A.units < cLine) : OpR X (compareOp .Eq) (rEqLen X.K) := by
  intro pins s σ H x y v u Q I rx ry h
  obtain ⟨a, b, xs, ys, rfl, rfl, ha, hb, hne, q⟩ := h
  cases rx
  cases ry
  obtain ⟨its, rv, p, _⟩ := I.list ha
  obtain ⟨its2, rv2, p2, _⟩ := I.list hb
  refine SeqAt.eq_list_lengthsAt p.isList p2.isList ?_ hu ⟨.bl false, H, I, rfl, q⟩
  rw [bne_iff_ne]
  have e1 := rv.length
  have e2 := rv2.length
  simp only [List.size_toArray]
  omega
def rNeLen (K : PySem.W.Frag) : R2 := fun x y H Q => ∃ a b xs ys, x = .ref a ∧ y = .ref b ∧ SqL K H a xs ∧ SqL K H b ys ∧ xs.length ≠ ys.length ∧ Q (.bl true) H
end
end Ck
namespace Ck
abbrev fLt := fCmp fun i j => decide (i < j)
abbrev fLe := fCmp fun i j => decide (i ≤ j)
abbrev fGt := fCmp fun i j => decide (j < i)
abbrev fGe := fCmp fun i j => decide (j ≤ i)
end Ck
namespace Ck
open PySem PySem.Spec PyProof.Rows L2
section
variable {X : Cx} {K : PySem.W.Frag}
theorem op_neLen (hu : X.A.units < cLine) : OpR X (compareOp .NotEq) (rNeLen X.K) := by
  intro pins s σ H x y v u Q I rx ry h
  obtain ⟨a, b, xs, ys, rfl, rfl, ha, hb, hne, q⟩ := h
  cases rx
  cases ry
  obtain ⟨its, rv, p, _⟩ := I.list ha
  obtain ⟨its2, rv2, p2, _⟩ := I.list hb
  refine SeqAt.RcNeAt.lists_lengths p.isList p2.isList ?_ hu X.prog X.w X.xe _ ⟨.bl true, H, I, rfl, q⟩
  rw [bne_iff_ne]
  have e1 := rv.length
  have e2 := rv2.length
  simp only [List.size_toArray]
  omega
/-- == of data: what it is -/
def eqAns : Dt → Dt → (Bool → Prop) → Prop
  | .int i, .int j, C => C (decide (i = j))
  | .str i, .str j, C => C (decide (i = j))
  | .bl i, .bl j, C => C (decide (i = j))
  | .lst l, .lst [], C => C l.isEmpty
  | x, y, C => ∃ a b, x.py = some a ∧ y.py = some b ∧ SeqAt.shaped a = true ∧ SeqAt.shaped b = true ∧ C (PyData.eqv a b)
def fEq : Dt → Dt → (Dt → Prop) → Prop := fun x y C => eqAns x y fun b => C (.bl b)
def fNe : Dt → Dt → (Dt → Prop) → Prop := fun x y C => eqAns x y fun b => C (.bl (!b))
theorem eqAns_mono {x y : Dt} {C C' : Bool → Prop} (hC : ∀ b, C b → C' b) (h : eqAns x y C) : eqAns x y C' := by
  unfold eqAns at h ⊢
  split at h
  · exact hC _ h
  · exact hC _ h
  · exact hC _ h
  · exact hC _ h
  · obtain ⟨a, b, h1, h2, h3, h4, h5⟩ := h
    exact ⟨a, b, h1, h2, h3, h4, hC _ h5⟩
def rEqA (K : PySem.W.Frag) : R2 := fun x y H Q => (rEq x y H Q ∨ rEqLen K x y H Q) ∨ rEqD K x y H Q
def rNeA (K : PySem.W.Frag) : R2 := fun x y H Q => (rNe x y H Q ∨ rNeLen K x y H Q) ∨ rNeD K x y H Q
theorem op_eqA (hu : X.A.units + 64 < cLine) : OpR X (compareOp .Eq) (rEqA X.K) := opr_or (opr_or op_eq (op_eqLen (by omega))) (op_eqD hu)
theorem op_neA (hu : X.A.units + 64 < cLine) : OpR X (compareOp .NotEq) (rNeA X.K) := opr_or (opr_or op_ne (op_neLen (by omega))) (op_neD hu)
theorem eqAns_run {F H : Hp} {xv yv : V} {x y : Dt} {C : Bool → Prop} (e : Same F H) (hx : Da K F H xv x) (hy : Da K F H yv y) (h : eqAns x y C) : ∃ b, C b ∧ (∀ Q : VK, Q (.bl b) H → rEqA K xv yv H Q) ∧ ∀ Q : VK, Q (.bl (!b)) H → rNeA K xv yv H Q := by
  unfold eqAns at h
  split at h
  · have h1 := hx.int; have h2 := hy.int; subst h1 h2
    refine ⟨_, h, fun Q q => .inl (.inl ⟨rfl, ?_⟩), fun Q q => .inl (.inl ⟨rfl, ?_⟩)⟩ <;> simpa using q
  · have h1 := hx.str; have h2 := hy.str; subst h1 h2
    refine ⟨_, h, fun Q q => .inl (.inl ⟨rfl, ?_⟩), fun Q q => .inl (.inl ⟨rfl, ?_⟩)⟩ <;> simpa using q
  · have h1 := hx.bl; have h2 := hy.bl; subst h1 h2
    refine ⟨_, h, fun Q q => .inl (.inl ⟨rfl, ?_⟩), fun Q q => .inl (.inl ⟨rfl, ?_⟩)⟩ <;> simpa using q
  · rename_i l
    obtain ⟨a, vs, rfl, ha, da⟩ := hx.lst e
    obtain ⟨b, us, rfl, hb, db⟩ := hy.lst e
    cases db
    refine ⟨_, h, ?_⟩
    cases l with
    | nil =>
      cases da
      have d1 : Dp K H (.ref a) (.list []) := .lst (.of ha) .nil
      have d2 : Dp K H (.ref b) (.list []) := .lst (.of hb) .nil
      exact ⟨fun Q q => .inr ⟨_, _, d1, d2, by decide, by decide, q⟩, fun Q q => .inr ⟨_, _, d1, d2, by decide, by decide, q⟩⟩
    | cons d l =>
      have hl : vs.length ≠ ([] : List V).length := by
        rw [da.len]
        simp
      exact ⟨fun Q q => .inl (.inr ⟨a, b, vs, [], rfl, rfl, .of ha, .of hb, hl, q⟩), fun Q q => .inl (.inr ⟨a, b, vs, [], rfl, rfl, .of ha, .of hb, hl, q⟩)⟩
  · obtain ⟨p, q, h1, h2, h3, h4, h5⟩ := h
    have d1 := (hx.now e).dp h1
    have d2 := (hy.now e).dp h2
    exact ⟨_, h5, fun Q k => .inr ⟨p, q, d1, d2, h3, h4, k⟩, fun Q k => .inr ⟨p, q, d1, d2, h3, h4, k⟩⟩
theorem od_eq : OpD K (rEqA K) fEq := by
  refine ⟨fun F H xv yv x y Q C e hx hy h q => ?_, fun x y C C' hC h => eqAns_mono (fun b => hC _) h⟩
  obtain ⟨b, c, h1, _⟩ := eqAns_run e hx hy h
  exact h1 Q (q _ _ F H c (.refl (.bl b)))
theorem od_ne : OpD K (rNeA K) fNe := by
  refine ⟨fun F H xv yv x y Q C e hx hy h q => ?_, fun x y C C' hC h => eqAns_mono (fun b => hC _) h⟩
  obtain ⟨b, c, _, h1⟩ := eqAns_run e hx hy h
  exact h1 Q (q _ _ F H c (.refl (.bl (!b))))
/-- in, not in, over flat items -/
def fIn (neg : Bool) : Dt → Dt → (Dt → Prop) → Prop
  | x, .lst l, C => flatD x = true ∧ l.all flatD = true ∧ C (.bl (if neg then !inD x l else inD x l))
  | x, .tup l, C => flatD x = true ∧ l.all flatD = true ∧ C (.bl (if neg then !inD x l else inD x l))
  | _, _, _ => False
theorem Da.fvD {F H : Hp} {v : V} {d : Dt} (h : Da K F H v d) (f : flatD d = true) : v = fv d ∧ flatV v = true := by
  rcases h with h | ⟨_, _, _, _, rfl, _⟩
  · exact h.fv f
  · cases f
theorem od_in {neg : Bool} : OpD K (rIn K neg) (fIn neg) := by
  refine ⟨fun F H xv yv x y Q C e hx hy h q => ?_, fun x y C C' hC h => ?_⟩
  · unfold fIn at h
    split at h
    · obtain ⟨f1, f2, h⟩ := h
      obtain ⟨a, vs, rfl, ha, da⟩ := hy.lst e
      obtain ⟨rfl, g1⟩ := hx.fvD f1
      obtain ⟨rfl, g2⟩ := da.fv f2
      exact ⟨a, _, rfl, .inl (.of ha), g1, g2, q _ _ F H h (.refl (.bl _))⟩
    · obtain ⟨f1, f2, h⟩ := h
      obtain ⟨a, vs, rfl, ha, da⟩ := hy.tup
      obtain ⟨rfl, g1⟩ := hx.fvD f1
      obtain ⟨rfl, g2⟩ := da.fv f2
      exact ⟨a, _, rfl, .inr (sameSeqT e ha), g1, g2, q _ _ F H h (.refl (.bl _))⟩
    · exact h.elim
  · unfold fIn at h ⊢
    split at h <;> first | exact ⟨h.1, h.2.1, hC _ h.2.2⟩ | exact h.elim

/-! ### x[i] -/
def fIx : Dt → Dt → (Dt → Prop) → Prop
  | .lst l, .int i, C => ∃ d, atI l i = some d ∧ C d
  | .tup l, .int i, C => ∃ d, atI l i = some d ∧ C d
  | .str z, .int i, C => ∃ c, z.length ≤ sizeLine ∧ atI z.cps.toList i = some c ∧ C (.str ⟨#[c]⟩)
  | _, _, _ => False
theorem DrL.atI {F : Hp} {vs : List V} {l : List Dt} {i : Int} {d : Dt} (h : DrL K F vs l) (e : L2.atI l i = some d) : ∃ v, L2.atI vs i = some v ∧ Dr K F v d := by
  unfold L2.atI at e ⊢
  rw [h.len]
  cases hi : ixN l.length i with
  | none => rw [hi] at e; cases e
  | some j =>
    rw [hi] at e
    exact h.at e
theorem od_ix : OpD K (rIx K) fIx := by
  refine ⟨fun F H xv yv x y Q C e hx hy h q => ?_, fun x y C C' hC h => ?_⟩
  · unfold fIx at h
    split at h
    · obtain ⟨d, h1, h2⟩ := h
      obtain ⟨a, vs, rfl, ha, da⟩ := hx.lst e
      have := hy.int; subst this
      obtain ⟨v, g1, g2⟩ := da.atI h1
      exact .inl ⟨a, vs, _, v, rfl, rfl, .of ha, g1, q _ _ F H h2 (.refl g2)⟩
    · obtain ⟨d, h1, h2⟩ := h
      obtain ⟨a, vs, rfl, ha, da⟩ := hx.tup
      have := hy.int; subst this
      obtain ⟨v, g1, g2⟩ := da.atI h1
      exact .inr (.inl ⟨a, vs, _, v, rfl, rfl, sameSeqT e ha, g1, q _ _ F H h2 (.refl g2)⟩)
    · obtain ⟨c, h1, h2, h3⟩ := h
      have := hx.str; subst this
      have := hy.int; subst this
      exact .inr (.inr ⟨_, _, c, rfl, rfl, h1, h2, q _ _ F H h3 (.refl (.str _))⟩)
    · exact h.elim
  · unfold fIx at h ⊢
    split at h
    · obtain ⟨d, h1, h2⟩ := h; exact ⟨d, h1, hC _ h2⟩
    · obtain ⟨d, h1, h2⟩ := h; exact ⟨d, h1, hC _ h2⟩
    · obtain ⟨d, h0, h1, h2⟩ := h; exact ⟨d, h0, h1, hC _ h2⟩
    · exact h.elim

/-! ### slices -/
def cutD (l : List Dt) (lo hi : Option Int) : List Dt := (l.drop (HT.sIx l.length 0 lo)).take (HT.sIx l.length l.length hi - HT.sIx l.length 0 lo)
def fSl : Dt → Option Int → Option Int → (Dt → Prop) → Prop
  | .lst l, lo, hi, C => C (.lst (cutD l lo hi))
  | .tup l, lo, hi, C => C (.tup (cutD l lo hi))
  | _, _, _, _ => False
def rSlB (K : PySem.W.Frag) : V → Option Int → Option Int → Hp → VK → Prop := fun x lo hi H Q => rSlL K x lo hi H Q ∨ rSlA K x lo hi H Q
theorem sl_B : SlR X (rSlB X.K) := sl_list.or sl_tupA
theorem sd_sl : SlD K (rSlB K) fSl := by
  refine ⟨fun F H xv x lo hi Q C e hx h q => ?_, fun x lo hi C C' hC h => ?_⟩
  · unfold fSl at h
    split at h
    · obtain ⟨a, vs, rfl, ha, da⟩ := hx.lst e
      exact .inl ⟨a, vs, rfl, .of ha, fun p hp => q _ _ _ _ h (.lst hp e (da.cut lo hi))⟩
    · rename_i l
      obtain ⟨a, vs, rfl, ha, da, dx⟩ := hx.tupS
      refine .inr ⟨a, vs, rfl, sameSeqT e ha, fun ⟨z1, z2⟩ => ?_, fun _ p hp => q _ _ _ _ h (.tup hp e (da.cut lo hi))⟩
      have el := da.len
      rw [el] at z1 z2
      have e1 : cutD l lo hi = l := by
        unfold cutD
        rw [z1, z2]
        simp
      rw [e1] at h
      exact q _ _ F H h (.refl dx)
    · exact h.elim
  · unfold fSl at h ⊢
    split at h <;> first | exact hC _ h | exact h.elim
def fSlL : Dt → Option Int → Option Int → (List Dt → Prop) → Prop
  | .lst l, lo, hi, C => C (cutD l lo hi)
  | _, _, _, _ => False

/-! ### built-ins -/
def fLen : Dt → (Dt → Prop) → Prop
  | .lst l, C => C (.int l.length)
  | .tup l, C => C (.int l.length)
  | .str z, C => z.length ≤ sizeLine ∧ C (.int z.length)
  | _, _ => False
def rLenA (K : PySem.W.Frag) : List V → Hp → VK → Prop := fun xs H Q => (∃ p ys, xs = [.ref p] ∧ (SqL K H p ys ∨ SqT K H p ys) ∧ Q (.int ys.length) H) ∨ ∃ z, xs = [.str z] ∧ z.length ≤ sizeLine ∧ Q (.int z.length) H
theorem call_lenA : CallR X (.builtin "len") (rLenA X.K) := callr_or call_len_seq call_len_str
theorem fd_len : FnD K (rLenA K) fLen := by
  refine ⟨fun F H xv x Q C e hx h q => ?_, fun x C C' hC h => ?_⟩
  · unfold fLen at h
    split at h
    · obtain ⟨a, vs, rfl, ha, da⟩ := hx.lst e
      rw [← da.len] at h
      exact .inl ⟨a, vs, rfl, .inl (.of ha), q _ _ F H h (.refl (.int _))⟩
    · obtain ⟨a, vs, rfl, ha, da⟩ := hx.tup
      rw [← da.len] at h
      exact .inl ⟨a, vs, rfl, .inr (sameSeqT e ha), q _ _ F H h (.refl (.int _))⟩
    · have := hx.str; subst this
      exact .inr ⟨_, rfl, h.1, q _ _ F H h.2 (.refl (.int _))⟩
    · exact h.elim
  · unfold fLen at h ⊢
    split at h <;> first | exact hC _ h | exact ⟨h.1, hC _ h.2⟩ | exact h.elim
def fInt : Dt → (Dt → Prop) → Prop
  | .int i, C => C (.int i)
  | .bl k, C => C (.int (if k then 1 else 0))
  | _, _ => False
theorem fd_int : FnD K (fun xs H Q => (∃ i, xs = [.int i] ∧ Q (.int i) H) ∨ ∃ k, xs = [.bl k] ∧ Q (.int (if k then 1 else 0)) H) fInt := by
  refine ⟨fun F H xv x Q C e hx h q => ?_, fun x C C' hC h => ?_⟩
  · unfold fInt at h
    split at h
    · have := hx.int; subst this
      exact .inl ⟨_, rfl, q _ _ F H h (.refl (.int _))⟩
    · have := hx.bl; subst this
      exact .inr ⟨_, rfl, q _ _ F H h (.refl (.int _))⟩
    · exact h.elim
  · unfold fInt at h ⊢
    split at h <;> first | exact hC _ h | exact h.elim
def fAbs : Dt → (Dt → Prop) → Prop
  | .int i, C => C (.int (if i < 0 then -i else i))
  | _, _ => False
theorem fd_abs : FnD K (fun xs H Q => ∃ i, xs = [.int i] ∧ Q (.int (if i < 0 then -i else i)) H) fAbs := by
  refine ⟨fun F H xv x Q C e hx h q => ?_, fun x C C' hC h => ?_⟩
  · unfold fAbs at h
    split at h
    · have := hx.int; subst this
      exact ⟨_, rfl, q _ _ F H h (.refl (.int _))⟩
    · exact h.elim
  · unfold fAbs at h ⊢
    split at h <;> first | exact hC _ h | exact h.elim
def fTuple : Dt → (Dt → Prop) → Prop
  | .lst l, C => C (.tup l)
  | .tup l, C => C (.tup l)
  | _, _ => False
theorem fd_tuple : FnD K (fun xs H Q => ∃ p ys, xs = [.ref p] ∧ ((SqL K H p ys ∧ ∀ l, H l = none → Q (.ref l) (upd H l (.tup ys))) ∨ (SqT K H p ys ∧ Q (.ref p) H))) fTuple := by
  refine ⟨fun F H xv x Q C e hx h q => ?_, fun x C C' hC h => ?_⟩
  · unfold fTuple at h
    split at h
    · obtain ⟨a, vs, rfl, ha, da⟩ := hx.lst e
      exact ⟨a, vs, rfl, .inl ⟨.of ha, fun p hp => q _ _ _ _ h (.tup hp e da)⟩⟩
    · obtain ⟨a, vs, rfl, ha, da, dx⟩ := hx.tupS
      exact ⟨a, vs, rfl, .inr ⟨sameSeqT e ha, q _ _ F H h (.refl dx)⟩⟩
    · exact h.elim
  · unfold fTuple at h ⊢
    split at h <;> first | exact hC _ h | exact h.elim
def fList : Dt → (List Dt → Prop) → Prop
  | .lst l, C => C l
  | .tup l, C => C l
  | _, _ => False
theorem fl_list : FnL K (fun xs H Q => ∃ p ys, xs = [.ref p] ∧ (SqL K H p ys ∨ SqT K H p ys) ∧ ∀ l, H l = none → Q (.ref l) (upd H l (.lst ys))) fList := by
  refine ⟨fun F H xv x Q C e hx h q => ?_, fun x C C' hC h => ?_⟩
  · unfold fList at h
    split at h
    · obtain ⟨a, vs, rfl, ha, da⟩ := hx.lst e
      exact ⟨a, vs, rfl, .inl (.of ha), fun p hp => q _ _ _ h hp da⟩
    · obtain ⟨a, vs, rfl, ha, da⟩ := hx.tup
      exact ⟨a, vs, rfl, .inr (sameSeqT e ha), fun p hp => q _ _ _ h hp da⟩
    · exact h.elim
  · unfold fList at h ⊢
    split at h <;> first | exact hC _ h | exact h.elim
def fMin2 : Dt → Dt → (Dt → Prop) → Prop
  | .int i, .int j, C => C (.int (if j < i then j else i))
  | _, _, _ => False
def fMax2 : Dt → Dt → (Dt → Prop) → Prop
  | .int i, .int j, C => C (.int (if j > i then j else i))
  | _, _, _ => False
theorem fd_min2 : FnD2 K (fun xs H Q => ∃ i j, xs = [.int i, .int j] ∧ Q (.int (if j < i then j else i)) H) fMin2 := by
  refine ⟨fun F H xv yv x y Q C e hx hy h q => ?_, fun x y C C' hC h => ?_⟩
  · unfold fMin2 at h
    split at h
    · have h1 := hx.int; have h2 := hy.int; subst h1 h2
      exact ⟨_, _, rfl, q _ _ F H h (.refl (.int _))⟩
    · exact h.elim
  · unfold fMin2 at h ⊢
    split at h <;> first | exact hC _ h | exact h.elim
theorem fd_max2 : FnD2 K (fun xs H Q => ∃ i j, xs = [.int i, .int j] ∧ Q (.int (if j > i then j else i)) H) fMax2 := by
  refine ⟨fun F H xv yv x y Q C e hx hy h q => ?_, fun x y C C' hC h => ?_⟩
  · unfold fMax2 at h
    split at h
    · have h1 := hx.int; have h2 := hy.int; subst h1 h2
      exact ⟨_, _, rfl, q _ _ F H h (.refl (.int _))⟩
    · exact h.elim
  · unfold fMax2 at h ⊢
    split at h <;> first | exact hC _ h | exact h.elim
/-- the ints of a list -/
def toI : Dt → Option Int
  | .int i => some i
  | _ => none
theorem DrL.ints {F : Hp} : ∀ {ns : List Int} {vs : List V}, DrL K F vs (ns.map .int) → vs = ns.map V.int
  | [], _, h => by cases h; rfl
  | n :: ns, _, h => by
    cases h with
    | cons h q =>
      cases h
      rw [List.map_cons, ← DrL.ints q]
theorem DrL.ofInts {F : Hp} : ∀ ns : List Int, DrL K F (ns.map V.int) (ns.map .int)
  | [] => .nil
  | n :: ns => .cons (.int n) (DrL.ofInts ns)
def fSum : Dt → (Dt → Prop) → Prop := fun d C => ∃ ns : List Int, d = .lst (ns.map .int) ∧ C (.int ns.sum)
theorem fd_sum : FnD K (rSum K) fSum := by
  refine ⟨fun F H xv x Q C e hx h q => ?_, fun x C C' hC ⟨ns, h1, h2⟩ => ⟨ns, h1, hC _ h2⟩⟩
  obtain ⟨ns, rfl, h⟩ := h
  obtain ⟨a, vs, rfl, ha, da⟩ := hx.lst e
  have := da.ints; subst this
  exact ⟨a, ns, rfl, .of ha, q _ _ F H h (.refl (.int _))⟩
def fMin1 : Dt → (Dt → Prop) → Prop := fun d C => ∃ ns : List Int, d = .lst (ns.map .int) ∧ 0 < ns.length ∧ ∀ m, m ∈ ns → (∀ y ∈ ns, m ≤ y) → C (.int m)
theorem fd_min1 : FnD K (rMin K) fMin1 := by
  refine ⟨fun F H xv x Q C e hx h q => ?_, fun x C C' hC ⟨ns, h1, h0, h2⟩ => ⟨ns, h1, h0, fun m a b => hC _ (h2 m a b)⟩⟩
  obtain ⟨ns, rfl, h0, h⟩ := h
  obtain ⟨a, vs, rfl, ha, da⟩ := hx.lst e
  have := da.ints; subst this
  exact ⟨a, ns, rfl, .of ha, h0, fun m h1 h2 => q _ _ F H (h m h1 h2) (.refl (.int _))⟩
def fMax1 : Dt → (Dt → Prop) → Prop := fun d C => ∃ ns : List Int, d = .lst (ns.map .int) ∧ 0 < ns.length ∧ ∀ m, m ∈ ns → (∀ y ∈ ns, y ≤ m) → C (.int m)
theorem fd_max1 : FnD K (rMax K) fMax1 := by
  refine ⟨fun F H xv x Q C e hx h q => ?_, fun x C C' hC ⟨ns, h1, h0, h2⟩ => ⟨ns, h1, h0, fun m a b => hC _ (h2 m a b)⟩⟩
  obtain ⟨ns, rfl, h0, h⟩ := h
  obtain ⟨a, vs, rfl, ha, da⟩ := hx.lst e
  have := da.ints; subst this
  exact ⟨a, ns, rfl, .of ha, h0, fun m h1 h2 => q _ _ F H (h m h1 h2) (.refl (.int _))⟩
def fSorted : Dt → (List Dt → Prop) → Prop := fun d C => ∃ ns : List Int, d = .lst (ns.map .int) ∧ ∀ ns' : List Int, ns'.Perm ns → ns'.Pairwise (· ≤ ·) → C (ns'.map .int)
theorem fl_sorted : FnL K (rSortedI K) fSorted := by
  refine ⟨fun F H xv x Q C e hx h q => ?_, fun x C C' hC ⟨ns, h1, h2⟩ => ⟨ns, h1, fun m a b => hC _ (h2 m a b)⟩⟩
  obtain ⟨ns, rfl, h⟩ := h
  obtain ⟨a, vs, rfl, ha, da⟩ := hx.lst e
  have := da.ints; subst this
  exact ⟨a, ns, rfl, .of ha, fun ns' p h1 h2 hp => q _ _ _ (h ns' h1 h2) hp (DrL.ofInts _)⟩

/-! ### isinstance -/
def isTy : String → Dt → Option Bool
  | _, .opq _ => none
  | _, .ins _ _ _ => none
  | _, .dic _ _ => none
  | "int", .int _ => some true
  | "int", .bl _ => some true
  | "int", _ => some false
  | "bool", .bl _ => some true
  | "bool", _ => some false
  | "tuple", .tup _ => some true
  | "tuple", _ => some false
  | "str", .str _ => some true
  | "str", _ => some false
  | "list", .lst _ => some true
  | "list", _ => some false
  | _, _ => none
/-- the type's name of data -/
def tyN : Dt → String
  | .non => "NoneType"
  | .bl _ => "bool"
  | .int _ => "int"
  | .str _ => "str"
  | .tup _ => "tuple"
  | .lst _ => "list"
  | .emp => "dict"
  | .opq _ => ""
  | .dic _ _ => "dict"
  | .ins _ _ _ => ""
theorem Da.ty {F H : Hp} {v : V} {d : Dt} (e : Same F H) (h : Da K F H v d) (hd : ∀ u, d ≠ .opq u) (hd2 : ∀ c ns l, d ≠ .ins c ns l) (hd3 : ∀ ks l, d ≠ .dic ks l) : TyX K H v (.type (tyN d)) := by
  cases d with
  | non => rw [h.non]; exact .base .non
  | bl b => rw [h.bl]; exact .base (.bl b)
  | int b => rw [h.int]; exact .base (.int b)
  | str b => rw [h.str]; exact .base (.str b)
  | lst l => obtain ⟨a, vs, rfl, ha, da⟩ := h.lst e; exact .base (.lst ha)
  | emp => obtain ⟨a, rfl, ha⟩ := h.emp; exact .base (.dK (e _ _ ha))
  | opq u => exact absurd rfl (hd u)
  | ins c ns l => exact absurd rfl (hd2 c ns l)
  | dic ks l => exact absurd rfl (hd3 ks l)
  | tup l =>
    obtain ⟨a, vs, rfl, ha, da⟩ := h.tup
    rcases ha with (ha | ⟨o, ha⟩) | ⟨o, its, n, ha, hc, _⟩
    · exact .base (.tup (e _ _ ha))
    · exact .fTuple (e _ _ ha)
    · exact .kTuple ha hc
theorem kit_ty (T : String) (hT : T ∈ ["int", "bool", "tuple", "str", "list"]) (d : Dt) (b : Bool) (h : isTy T d = some b) : PySem.W.kitOne K (.type (tyN d)) (.type T) = some b := by
  simp only [List.mem_cons, List.not_mem_nil, or_false] at hT
  rcases hT with rfl | rfl | rfl | rfl | rfl <;> cases d <;> simp [isTy] at h <;> subst h <;> rfl
end
end Ck
namespace Ck
open PySem PySem.Spec PyProof.Rows L2

/-! ### defs, where nothing is being shown (no guards) -/
structure FnG (P : Program) (w : World) (K : PySem.W.Frag) (mg : Str → Option Value) (base : Heap) (CX : CXT) (k : Nat) (f : Addr) (fd : FuncData) (ps : List Str) (sp : Sp) : Prop where
  len : ∀ vs H Q E, sp vs H Q E → vs.length = ps.length
  run : ∀ (A : Around) (outer : List Env) (s : Shared) (H : Hp) (args : Args) (us : List Value) (vs : List V) (Q : VK) (E : XK),
    A.guards = some [] → Room k A → Env0 P w K mg base A outer s H → BindsTo s fd args (ps.zip us) → Vals vs us → sp vs H Q E → codeAny (model P w) A (.call (.ref f) args) (CR CX outer P w H s Q E) s
section
variable {P : Program} {w : World} {K : PySem.W.Frag} {mg : Str → Option Value} {base : Heap} {CX : CXT} {k j : Nat} {f : Addr} {fd : FuncData} {ps : List Str} {sp sp' : Sp}
theorem FnG.mono (g : FnG P w K mg base CX j f fd ps sp) (h : j ≤ k) : FnG P w K mg base CX k f fd ps sp :=
  ⟨g.len, fun A outer s H args us vs Q E hg hr => g.run A outer s H args us vs Q E hg (hr.mono h)⟩
theorem FnG.imp (g : FnG P w K mg base CX k f fd ps sp) (h : ∀ vs H Q E, sp' vs H Q E → sp vs H Q E) : FnG P w K mg base CX k f fd ps sp' :=
  ⟨fun vs H Q E z => g.len vs H Q E (h _ _ _ _ z), fun A outer s H args us vs Q E hg hr he hb hv z =>
    g.run A outer s H args us vs Q E hg hr he hb hv (h _ _ _ _ z)⟩
theorem FnG.ofOk (g : FnOk P w K mg base CX k f fd ps sp) : FnG P w K mg base CX k f fd ps sp :=
  ⟨g.len, fun A outer s H args us vs Q E _ hr => g.run A outer s H args us vs Q E hr⟩
/-- a def by its body -/
theorem FnG.of {x qual : Str} {st : Stmt} {N : List Str} (F : L2.Fun K x qual st f fd) (S : FnScope N ps (defScope st)) (len : ∀ vs H Q E, sp vs H Q E → vs.length = ps.length)
    (hbody : ∀ (cdv : Value) (A : Around) (outer : List Env) (s : Shared) (H : Hp) (vs : List V) (Q : VK) (E : XK), A.guards = some [] → Room k (A.deeper (envOfC qual (defScope st) s.heap.objs.size f cdv)) → sp vs H Q E →
      ∃ t, PSs (cxOf CX P w K mg base N qual (defScope st) f cdv A outer s H E) (defBody st) t ∧ t { nx := fun _ H' => Q .non H', rt := Q } (start N vs) H) : FnG P w K mg base CX (k + 1) f fd ps sp := by
  obtain ⟨oc, od, kV, doc, pm, an, cdv, ct, osl, rfl, lk, hcd⟩ := F.ex
  constructor
  · exact len
  intro A outer s H args us vs Q E hgu hroom env0 binds vals hsp
  have hlen := len _ _ _ _ hsp
  have keepB : ∀ b o, base.get? b = some o → s.heap.get? b = some o := fun b o e => (env0.bs b o e).1
  have KX : K.In s.heap := env0.mod.kin.keeps keepB
  have lim : s.heap.NoLimit := env0.mod.nolimit.keeps keepB
  have kinds : ∀ y ∈ ps.zip us, (defScope st).names.lookup y.1 = some .local ∨
      ((defScope st).names.lookup y.1 = some .cell ∧ ((cellsFrom (s.heap.objs.size + 1) (defScope st).names []).lookup y.1).isSome = true) := by
    rintro ⟨n, v⟩ hy
    rcases S.par n (List.of_mem_zip hy).1 with c | c
    · exact Or.inl c
    · exact Or.inr ⟨c, PySem.W.cellsFrom_some _ _ _ (Or.inl c)⟩
  apply codeAny_call_function hroom.depth (KX _ _ lk) rfl S.co S.gen rfl (PySem.W.codeRec_of KX hcd)
  apply binds
  apply wpAny_newFunctionEnv_cells S.kind kinds
  intro env he s1 inC
  subst he
  refine ⟨lim.keeps inC.toInCall.keep, ?_⟩
  apply codeAny_func
  obtain ⟨t, ht, hq⟩ := hbody cdv A outer s H vs Q E hgu (hroom.deeper _) hsp
  have I0 := inv_start (CX := CX) (cd := cdv) (f := f) (E := E) (qual := qual) S hroom.hd env0 hlen vals inC
  refine wpAny_mono (ht.run [] s1 (start N vs) H _ I0 hq) ?_ (fun e s' z => z)
  intro fl s' z
  cases fl with
  | brk =>
    obtain ⟨_, _, _, bad⟩ := z
    exact bad.elim
  | cont =>
    obtain ⟨_, _, _, bad⟩ := z
    exact bad.elim
  | next =>
    obtain ⟨σ', H', J, z⟩ := z
    exact ⟨V.non, H', J.os, J.bare, J.base, J.hok, rfl, z⟩
  | ret u =>
    obtain ⟨v, σ', H', J, rv, z⟩ := z
    exact ⟨v, H', J.os, J.bare, J.base, J.hok, rv, z⟩
end
section
variable {X : Cx} {CX : CXT} {k : Nat} {f : Addr} {fd : FuncData} {ps : List Str} {sp : Sp} {E : XK} {x : Str} {p pos : Pos} {e : Expr} {es : List Expr} {t : TA}
theorem run_g {pins : List (Addr × Obj)} {σ : L2.St} {H : Hp} {s : Shared} {Q : VK} {us : List Value} {vs : List V} (g : FnG X.prog X.w X.K X.mg X.base CX k f fd ps sp) (hgu : X.A.guards = some []) (hr : Room k X.A) (hb : Binds X.K fd ps [])
    (hx : Passes CX X E) (I : Inv X pins σ H s) (r : Vals vs us) (h : sp vs H Q E) : wpAny (model X.prog X.w) X.A (call (.ref f) us) (EP X pins σ Q) X.xe s := by
  have hl : (us ++ []).length = ps.length := by
    rw [List.append_nil, ← r.length]
    exact g.len _ _ _ _ h
  have hbd := hb s us I.kIn hl
  rw [List.append_nil] at hbd
  apply wpAny_call
  refine codeAny_mono (g.run X.A X.stack s H ⟨us, []⟩ us vs Q E hgu hr I.env0 hbd r h) ?_
  intro res s' z
  match res, z with
  | .error e, z => exact hx pins σ H s e s' I z
  | .ok (.ret u), z => exact I.after z
  | .ok .next, z => exact z.elim
  | .ok .brk, z => exact z.elim
  | .ok .cont, z => exact z.elim
/-- f(e, ..) -/
theorem pe_callG (g : FnG X.prog X.w X.K X.mg X.base CX k f fd ps sp) (hgu : X.A.guards = some []) (hr : Room k X.A) (hg : Gl X x) (hm : X.mg x = some (.ref f)) (hk : PySem.W.keepIn X.K (.ref f) = true) (hb : Binds X.K fd ps []) (hx : Passes CX X E)
    (ha : PA X (e :: es) t) (hdb : (x == ("__debug__" : Str)) = false := by decide) (he : starEach (e :: es) X.env = (false, eval e X.env) :: starEach es X.env := by rfl) (hpl : (backTo pos (starEach es X.env)).any (·.1) = false := by rfl) :
    PE X (.Call (.Name x p) (e :: es) [] pos) (fun σ H Q => t σ H fun vs H1 => sp vs H1 Q E) := by
  constructor
  intro pins s σ H Q I h
  apply wpAny_Call_Name_kw
  apply ld_glob I hg hm _ hdb
  apply PySem.W.callWith_K (h₀ := X.base) I.ok.mod.kin hk _ he hpl
  exact thn (ha.run pos pins s σ H _ I h) fun us s1 ⟨vs, H1, I1, r, q⟩ =>
    ⟨I1.kIn, run_g g hgu hr hb hx I1 r q⟩
end

/-! ### what a def does over data -/
structure Spc (Ω : Type) where
  run : List Dt → Ω → (Dt → Ω → Prop) → Prop
  mono : ∀ ds w (C C' : Dt → Ω → Prop), (∀ d w', C d w' → C' d w') → run ds w C → run ds w C'
def spOf {Ω : Type} (K : PySem.W.Frag) (W : Wd Ω) (S : Spc Ω) : Sp := fun vs H Q _ => ∃ B F G w ds, HR W B F G H w ∧ DrL K F vs ds ∧
  S.run ds w fun d w' => ∀ v F' G' H', HR W B F' G' H' w' → Same F F' → Dr K F' v d → Q v H'
def wCall {Ω : Type} (S : Spc Ω) (pa : DL Ω) : DE Ω := fun sl w C => pa sl w fun ds w1 => S.run ds w1 fun d w2 => C d .cl w2
/-- all that is neither known for good nor the world's; and all tuples -/
def rest (F G H : Hp) : Hp := fun a => match H a with
  | some o => if ((F a).isNone && (G a).isNone) || isTp o then some o else none
  | none => none
theorem rest_eq {F G H : Hp} {a : Addr} {o : HO} : rest F G H a = some o ↔ H a = some o ∧ ((F a = none ∧ G a = none) ∨ IsTp o) := by
  unfold rest IsTp
  cases hH : H a with
  | none => simp
  | some u =>
    simp only [Option.some.injEq]
    constructor
    · intro h
      split at h
      · rename_i hc
        cases h
        refine ⟨rfl, ?_⟩
        simpa using hc
      · cases h
    · rintro ⟨rfl, h⟩
      rw [if_pos (by simpa using h)]
theorem HR.toRest {Ω : Type} {W : Wd Ω} {B F G H : Hp} {w : Ω} (r : HR W B F G H w) : Same B (rest F G H) ∧ HR W (rest F G H) F G H w := by
  have e : Same B (rest F G H) := fun a o h => by
    obtain ⟨h1, h2, h3⟩ := r.b a o h
    refine rest_eq.mpr ⟨h1, ?_⟩
    rcases h2 with h2 | h2
    · rcases h3 with h3 | h3
      · exact .inl ⟨h2, h3⟩
      · exact .inr h3
    · exact .inr h2
  refine ⟨e, fun a o h => ?_, r.f, r.g, r.d, r.w, W.monoB _ _ e r.k⟩
  obtain ⟨h1, h2⟩ := rest_eq.mp h
  rcases h2 with ⟨h2, h3⟩ | h2
  · exact ⟨h1, .inl h2, .inl h3⟩
  · exact ⟨h1, .inr h2, .inr h2⟩
theorem SR.back {Ω : Type} {K : PySem.W.Frag} {W : Wd Ω} {B F G H F' G' H' : Hp} {w w' : Ω} {σ : L2.St} {sl : Sl} (r : SR K W B F G H w σ sl) (r' : HR W (rest F G H) F' G' H' w') (e' : Same F F') : SR K W B F' G' H' w' σ sl := by
  refine r.to ⟨fun a o z => r'.b a o (r.hr.toRest.1 _ _ z), r'.f, r'.g, r'.d, r'.w, r.hr.k⟩ e' fun i l a us h1 h2 h3 h4 h5 h6 h7 => ?_
  obtain ⟨q1, q2, q3⟩ := r'.b a _ (rest_eq.mpr ⟨h3, .inl ⟨h5, h6⟩⟩)
  exact ⟨q1, q2.resolve_right h7, q3.resolve_right h7⟩
section
variable {Ω : Type} {X : Cx} {W : Wd Ω} {CX : CXT} {k : Nat} {f : Addr} {fd : FuncData} {ps : List Str} {E : XK} {x : Str} {p pos : Pos} {e : Expr} {es : List Expr} {S : Spc Ω} {pa : DL Ω}
theorem use_call {B F G H : Hp} {w : Ω} {σ : L2.St} {sl : Sl} {vs : List V} {ds : List Dt} {Q : VK} {K : PySem.W.Frag} (r : SR K W B F G H w σ sl) (hd : DrL K F vs ds) {C : Dt → Ω → Prop} (h : S.run ds w C)
    (hC : ∀ d w' v F' G' H', C d w' → SR K W B F' G' H' w' σ sl → Same F F' → Dr K F' v d → Q v H') : spOf K W S vs H Q E := by
  refine ⟨rest F G H, F, G, w, ds, r.hr.toRest.2, hd, S.mono _ _ _ _ (fun d w' c v F' G' H' r' e' k' => ?_) h⟩
  exact hC d w' v F' G' H' c (r.back r' e') e' k'
theorem d_call (g : FnG X.prog X.w X.K X.mg X.base CX k f fd ps (spOf X.K W S)) (hgu : X.A.guards = some []) (hr : Room k X.A) (hg : Gl X x) (hm : X.mg x = some (.ref f)) (hk : PySem.W.keepIn X.K (.ref f) = true) (hb : Binds X.K fd ps []) (hx : Passes CX X E)
    (ha : PDA X W (e :: es) pa) (hdb : (x == ("__debug__" : Str)) = false := by decide) (he : starEach (e :: es) X.env = (false, eval e X.env) :: starEach es X.env := by rfl) (hpl : (backTo pos (starEach es X.env)).any (·.1) = false := by rfl) :
    PD X W (.Call (.Name x p) (e :: es) [] pos) (wCall S pa) := by
  refine ⟨pe_imp (pe_callG g hgu hr hg hm hk hb hx ha.run hdb he hpl) fun σ H Q ⟨B, F, G, w, sl, r, z⟩ => ?_, fun sl w C C' hC z => ha.mono _ _ _ _ (fun ds w1 z1 => S.mono _ _ _ _ (fun d w2 => hC _ _ _) z1) z⟩
  refine ⟨B, F, G, w, sl, r, ha.mono _ _ _ _ (fun ds w1 z1 vs F1 G1 H1 r1 e1 d1 => ?_) z⟩
  exact use_call r1 d1 z1 fun d w' v F' G' H' c r' e' k' => c v F' G' H' r' (e1.trans e') k'
end
end Ck
namespace Ck
open PySem PySem.Spec PyProof.Rows L2

/-! ### statements over data -/
structure DD (Ω : Type) where
  nx : Sl → Ω → Prop
  rt : Dt → Ω → Prop
  bk : Sl → Ω → Prop
  ct : Sl → Ω → Prop
abbrev DS (Ω : Type) := DD Ω → Sl → Ω → Prop
structure DD.Le {Ω : Type} (D D' : DD Ω) : Prop where
  nx : ∀ sl w, D.nx sl w → D'.nx sl w
  rt : ∀ d w, D.rt d w → D'.rt d w
  bk : ∀ sl w, D.bk sl w → D'.bk sl w
  ct : ∀ sl w, D.ct sl w → D'.ct sl w
section
variable {Ω : Type} (K : PySem.W.Frag) (W : Wd Ω) (B : Hp)
/-- a wish about slots and heap, said over data -/
def upSl (F : Hp) (N : L2.St → Hp → Prop) : Sl → Ω → Prop := fun sl' w' => ∀ σ' F' G' H', SR K W B F' G' H' w' σ' sl' → Same F F' → N σ' H'
def upV (F : Hp) (N : VK) : Dt → Ω → Prop := fun d w' => ∀ v F' G' H', HR W B F' G' H' w' → Same F F' → Dr K F' v d → N v H'
def up (F : Hp) (D : Ends) : DD Ω := ⟨upSl K W B F D.nx, upV K W B F D.rt, upSl K W B F D.bk, upSl K W B F D.ct⟩
def lftS (p : DS Ω) : TS := fun D σ H => ∃ B F G w sl, SR K W B F G H w σ sl ∧ p (up K W B F D) sl w
end
structure PDS {Ω : Type} (X : Cx) (W : Wd Ω) (st : Stmt) (p : DS Ω) : Prop where
  run : PS X st (lftS X.K W p)
  mono : ∀ (D D' : DD Ω), D.Le D' → ∀ sl w, p D sl w → p D' sl w
structure PDB {Ω : Type} (X : Cx) (W : Wd Ω) (st : List Stmt) (p : DS Ω) : Prop where
  run : PSs X st (lftS X.K W p)
  mono : ∀ (D D' : DD Ω), D.Le D' → ∀ sl w, p D sl w → p D' sl w
theorem ps_imp {X : Cx} {st : Stmt} {t t' : TS} (h : PS X st t) (i : ∀ D σ H, t' D σ H → t D σ H) : PS X st t' := ⟨fun pins s σ H D I q => h.run pins s σ H D I (i D σ H q)⟩
theorem pss_imp {X : Cx} {st : List Stmt} {t t' : TS} (h : PSs X st t) (i : ∀ D σ H, t' D σ H → t D σ H) : PSs X st t' := ⟨fun pins s σ H D I q => h.run pins s σ H D I (i D σ H q)⟩
section
variable {Ω : Type} {K : PySem.W.Frag} {W : Wd Ω} {B F F' : Hp}
theorem upSl_mono {N N' : L2.St → Hp → Prop} (e : Same F F') (h : ∀ σ H, N σ H → N' σ H) : ∀ sl w, upSl K W B F N sl w → upSl K W B F' N' sl w := fun sl w z σ' F1 G1 H1 r1 e1 => h _ _ (z σ' F1 G1 H1 r1 (e.trans e1))
theorem upV_mono {N N' : VK} (e : Same F F') (h : ∀ σ H, N σ H → N' σ H) : ∀ (d : Dt) (w : Ω), upV K W B F N d w → upV K W B F' N' d w := fun sl w z σ' F1 G1 H1 r1 e1 d1 => h _ _ (z σ' F1 G1 H1 r1 (e.trans e1) d1)
theorem up_le {D : Ends} (e : Same F F') : (up K W B F D).Le (up K W B F' D) := ⟨upSl_mono e fun _ _ z => z, upV_mono e fun _ _ z => z, upSl_mono e fun _ _ z => z, upSl_mono e fun _ _ z => z⟩
theorem DD.Le.refl (D : DD Ω) : D.Le D := ⟨fun _ _ z => z, fun _ _ z => z, fun _ _ z => z, fun _ _ z => z⟩
end

section
variable {Ω : Type}
def wNext : DS Ω := fun D sl w => D.nx sl w
def wBrk : DS Ω := fun D sl w => D.bk sl w
def wCnt : DS Ω := fun D sl w => D.ct sl w
def wSeq (p q : DS Ω) : DS Ω := fun D sl w => p { D with nx := q D } sl w
def wRet (p : DE Ω) : DS Ω := fun D sl w => p sl w fun d fl w' => fl = .cl ∧ D.rt d w'
def wRetN : DS Ω := fun D _ w => D.rt .non w
def wSet (i : Nat) (p : DE Ω) : DS Ω := fun D sl w => p sl w fun d fl w' => fl = .cl ∧ D.nx (sl.set i (some (.dat d))) w'
def wOwn (i : Nat) (p : DL Ω) : DS Ω := fun D sl w => p sl w fun l w' => D.nx (sl.set i (some (.own l))) w'
def wDrop (p : DE Ω) : DS Ω := fun D sl w => p sl w fun _ _ w' => D.nx sl w'
def setAll : List Nat → List Dt → Sl → Option Sl
  | [], [], sl => some sl
  | i :: is, d :: ds, sl => setAll is ds (sl.set i (some (.dat d)))
  | _, _, _ => none
/-- a target: names, or a tuple of names -/
inductive Tg where
  | one (i : Nat) | many (is : List Nat)
def bindTg : Tg → Dt → Sl → Option Sl
  | .one i, d, sl => some (sl.set i (some (.dat d)))
  | .many is, .tup ds, sl => setAll is ds sl
  | .many _, _, _ => none
def wUnp (is : List Nat) (p : DE Ω) : DS Ω := fun D sl w => p sl w fun d fl w' => fl = .cl ∧ ∃ sl', bindTg (.many is) d sl = some sl' ∧ D.nx sl' w'
def wPar (i j : Nat) (p : DL Ω) : DS Ω := fun D sl w => p sl w fun ds w' => ∃ d e, ds = [d, e] ∧ D.nx ((sl.set i (some (.dat d))).set j (some (.dat e))) w'
def wIfS (t : DT Ω) (p q : DS Ω) : DS Ω := fun D sl w => t sl w fun b w' => if b = true then p D sl w' else q D sl w'
def wApp (i : Nat) (p : DE Ω) : DS Ω := fun D sl w => ∃ l, sl[i]? = some (some (.own l)) ∧ l.length < sizeLine ∧ p sl w fun d fl w' => fl = .cl ∧ D.nx (sl.set i (some (.own (l ++ [d])))) w'
def wExt (i : Nat) (p : DL Ω) : DS Ω := fun D sl w => ∃ l, sl[i]? = some (some (.own l)) ∧ p sl w fun r w' => l.length + r.length ≤ sizeLine ∧ D.nx (sl.set i (some (.own (l ++ r)))) w'
def wSetIx (i : Nat) (p pi : DE Ω) : DS Ω := fun D sl w => ∃ l, sl[i]? = some (some (.own l)) ∧ p sl w fun d fl w1 => fl = .cl ∧ pi sl w1 fun k _ w2 => ∃ n j, k = .int n ∧ ixN l.length n = some j ∧ D.nx (sl.set i (some (.own (l.set j d)))) w2
/-- x += n, x -= n, ints -/
def wAug (f : Int → Int → Int) (i : Nat) (p : DE Ω) : DS Ω := fun D sl w => ∃ a, sl[i]? = some (some (.dat (.int a))) ∧ p sl w fun d _ w' => ∃ b, d = .int b ∧ D.nx (sl.set i (some (.dat (.int (f a b))))) w'
/-- the list of the slot i is changed no more -/
def wFrz (i : Nat) (q : DS Ω) : DS Ω := fun D sl w => match sl[i]? with
  | some (some (.mine (.lst l))) => q D (sl.set i (some (.dat (.lst l)))) w
  | _ => q D sl w
/-- one turn after another -/
def wLoop (tg : Tg) (body : DS Ω) (D : DD Ω) : List Dt → Sl → Ω → Prop
  | [], sl, w => D.nx sl w
  | x :: xs, sl, w => ∃ sl', bindTg tg x sl = some sl' ∧ body { nx := wLoop tg body D xs, ct := wLoop tg body D xs, bk := D.nx, rt := D.rt } sl' w
abbrev DI (Ω : Type) := Sl → Ω → (List Dt → Ω → Prop) → Prop
def wFor (tg : Tg) (pi : DI Ω) (body : DS Ω) : DS Ω := fun D sl w => pi sl w fun xs w' => wLoop tg body D xs sl w'
def wWhile (t : DT Ω) (body : DS Ω) : DS Ω := fun D sl w => ∃ I : Nat → Sl → Ω → Prop, (∃ n, I n sl w) ∧ ∀ n sl w, I n sl w → t sl w fun b w' =>
  if b = true then body { D with nx := fun sl' w' => ∃ m, m < n ∧ I m sl' w', ct := fun sl' w' => ∃ m, m < n ∧ I m sl' w', bk := D.nx } sl w' else D.nx sl w'
end

section
variable {Ω : Type} {X : Cx} {W : Wd Ω} {e : Expr} {es : List Expr} {st : Stmt} {rest : List Stmt} {p q : DS Ω} {pe pi : DE Ω} {pl : DL Ω} {pos : Pos} {t : DT Ω}
theorem db_nil : PDB X W [] (wNext : DS Ω) := ⟨pss_imp pss_nil fun D σ H ⟨B, F, G, w, sl, r, z⟩ => z σ F G H r (Same.refl F), fun D D' l sl w z => l.nx _ _ z⟩
theorem db_one (h : PDS X W st p) : PDB X W [st] p := ⟨pss_one h.run, h.mono⟩
theorem db_cons (h : PDS X W st p) (h2 : PDB X W rest q) : PDB X W (st :: rest) (wSeq p q) := by
  refine ⟨pss_imp (pss_cons h.run h2.run) fun D σ H ⟨B, F, G, w, sl, r, z⟩ => ?_, fun D D' l sl w z => h.mono { D with nx := q D } { D' with nx := q D' } ⟨fun sl w => h2.mono _ _ l sl w, l.rt, l.bk, l.ct⟩ _ _ z⟩
  refine ⟨B, F, G, w, sl, r, ?_⟩
  refine h.mono _ _ ?_ _ _ z
  exact ⟨fun sl' w' z' σ' F' G' H' r' e' => ⟨B, F', G', w', sl', r', h2.mono _ _ (up_le e') _ _ z'⟩, fun _ _ z => z, fun _ _ z => z, fun _ _ z => z⟩
theorem ds_pass : PDS X W (.Pass pos) (wNext : DS Ω) := ⟨ps_imp ps_pass fun D σ H ⟨B, F, G, w, sl, r, z⟩ => z σ F G H r (Same.refl F), fun D D' l sl w z => l.nx _ _ z⟩
theorem ds_brk : PDS X W (.Break pos) (wBrk : DS Ω) := ⟨ps_imp ps_break fun D σ H ⟨B, F, G, w, sl, r, z⟩ => z σ F G H r (Same.refl F), fun D D' l sl w z => l.bk _ _ z⟩
theorem ds_cnt : PDS X W (.Continue pos) (wCnt : DS Ω) := ⟨ps_imp ps_continue fun D σ H ⟨B, F, G, w, sl, r, z⟩ => z σ F G H r (Same.refl F), fun D D' l sl w z => l.ct _ _ z⟩
theorem ds_ret (h : PD X W e pe) : PDS X W (.Return (some e) pos) (wRet pe) := by
  refine ⟨ps_imp (ps_ret h.run) fun D σ H ⟨B, F, G, w, sl, r, z⟩ => ?_, fun D D' l sl w z => h.mono _ _ _ _ (fun d fl w1 z => ⟨z.1, l.rt _ _ z.2⟩) z⟩
  refine ⟨B, F, G, w, sl, r, h.mono _ _ _ _ (fun d fl w1 z v F1 G1 H1 r1 e1 f1 => ?_) z⟩
  obtain ⟨rfl, z⟩ := z
  exact z v F1 G1 H1 r1.hr e1 f1
theorem ds_retN : PDS X W (.Return none pos) (wRetN : DS Ω) := ⟨ps_imp ps_retN fun D σ H ⟨B, F, G, w, sl, r, z⟩ => z .non F G H r.hr (Same.refl F) .non, fun D D' l sl w z => l.rt _ _ z⟩
theorem imp_set {i : Nat} {te : TE} (h : ∀ σ H Q, lft X.K W pe σ H Q → te σ H Q) (hm : ∀ sl w (C C' : Dt → Fl → Ω → Prop), (∀ d fl w', C d fl w' → C' d fl w') → pe sl w C → pe sl w C') : ∀ D σ H, lftS X.K W (wSet i pe) D σ H → tAsg te (gName i) D σ H := by
  intro D σ H ⟨B, F, G, w, sl, r, z⟩
  refine h σ H _ ⟨B, F, G, w, sl, r, hm _ _ _ _ (fun d fl w1 z v F1 G1 H1 r1 e1 f1 => ?_) z⟩
  obtain ⟨rfl, z⟩ := z
  exact z _ F1 G1 H1 (r1.dat i f1) e1
theorem mono_set {i : Nat} (hm : ∀ sl w (C C' : Dt → Fl → Ω → Prop), (∀ d fl w', C d fl w' → C' d fl w') → pe sl w C → pe sl w C') : ∀ (D D' : DD Ω), D.Le D' → ∀ sl w, wSet i pe D sl w → wSet i pe D' sl w := fun D D' l sl w z => hm _ _ _ _ (fun d fl w1 z => ⟨z.1, l.nx _ _ z.2⟩) z
theorem ds_set {i : Nat} {x : Str} {pos' : Pos} (hN : X.N.Nodup) (hi : X.N[i]? = some x) (hx : Loc X.env.scope x) (h : PD X W e pe) (hs : swapsWith e (some (.Name x pos')) pos.line X.env = pure false := by rfl)
    (hf : X.fn x = true ∨ X.env.scope.names.lookup x = some .local := by first | exact .inl rfl | exact .inr rfl | assumption) : PDS X W (.Assign [.Name x pos'] e pos) (wSet i pe) :=
  ⟨ps_imp (ps_set hN hi hx h.run hs hf) (imp_set (fun _ _ _ z => z) h.mono), mono_set h.mono⟩
theorem imp_own {i : Nat} {te : TE} (h : ∀ σ H Q, lftL X.K W pl σ H Q → te σ H Q) (hm : ∀ sl w (C C' : List Dt → Ω → Prop), (∀ d w', C d w' → C' d w') → pl sl w C → pl sl w C') : ∀ D σ H, lftS X.K W (wOwn i pl) D σ H → tAsg te (gName i) D σ H := by
  intro D σ H ⟨B, F, G, w, sl, r, z⟩
  refine h σ H _ ⟨B, F, G, w, sl, r, hm _ _ _ _ (fun l w1 z a vs F1 G1 H1 r1 e1 hB hn hH hF hG hD => ?_) z⟩
  exact z _ F1 G1 H1 (r1.ownSet i hB hF hG hH hD fun j m h1 _ => hn j m h1) e1
theorem mono_own {i : Nat} (hm : ∀ sl w (C C' : List Dt → Ω → Prop), (∀ d w', C d w' → C' d w') → pl sl w C → pl sl w C') : ∀ (D D' : DD Ω), D.Le D' → ∀ sl w, wOwn i pl D sl w → wOwn i pl D' sl w := fun D D' l sl w z => hm _ _ _ _ (fun d w1 z => l.nx _ _ z) z
theorem ds_own {i : Nat} {x : Str} {pos' : Pos} (hN : X.N.Nodup) (hi : X.N[i]? = some x) (hx : Loc X.env.scope x) (h : PDL X W e pl) (hs : swapsWith e (some (.Name x pos')) pos.line X.env = pure false := by rfl)
    (hf : X.fn x = true ∨ X.env.scope.names.lookup x = some .local := by first | exact .inl rfl | exact .inr rfl | assumption) : PDS X W (.Assign [.Name x pos'] e pos) (wOwn i pl) :=
  ⟨ps_imp (ps_set hN hi hx h.run hs hf) (imp_own (fun _ _ _ z => z) h.mono), mono_own h.mono⟩
theorem ds_drop (h : PD X W e pe) (hs : swapsWith e none pos.line X.env = pure false := by rfl) : PDS X W (.Expr e pos) (wDrop pe) :=
  ⟨ps_imp (ps_expr h.run hs) fun D σ H ⟨B, F, G, w, sl, r, z⟩ => ⟨B, F, G, w, sl, r, h.mono _ _ _ _ (fun d fl w1 z v F1 G1 H1 r1 e1 f1 => z σ F1 G1 H1 r1 e1) z⟩, fun D D' l sl w z => h.mono _ _ _ _ (fun d fl w1 z => l.nx _ _ z) z⟩

/-! ### targets -/
/-- a target's store, said over data -/
structure PGD (X : Cx) (tg : Expr) (g : TG) (t : Tg) : Prop where
  pg : PG X tg g
  run : ∀ {Ω : Type} {W : Wd Ω} {B F G H : Hp} {w : Ω} {σ : L2.St} {sl sl' : Sl} {v : V} {d : Dt} {Q : L2.St → Hp → Prop}, SR X.K W B F G H w σ sl → Dr X.K F v d → bindTg t d sl = some sl' →
    (∀ σ', SR X.K W B F G H w σ' sl' → (∀ vs : List Nat, (∀ i ∈ (match t with | .one i => [i] | .many is => is), i ∈ vs) → wipe σ' vs = wipe σ vs) → Q σ' H) → g v σ H Q
theorem wipe_set {σ : L2.St} {i : Nat} {x : Option V} : ∀ {vs : List Nat}, i ∈ vs → wipe (σ.set i x) vs = wipe σ vs
  | v :: vs, h => by
    unfold wipe
    by_cases e : i ∈ vs
    · rw [wipe_set e]
    · have ev : i = v := by
        rcases List.mem_cons.mp h with z | z
        · exact z
        · exact absurd z e
      subst ev
      have : ∀ us : List Nat, i ∉ us → wipe (σ.set i x) us = (wipe σ us).set i x := by
        intro us
        induction us with
        | nil => intro _; rfl
        | cons u us ih =>
          intro hu
          unfold wipe
          rw [ih fun z => hu (List.mem_cons_of_mem _ z), List.set_comm _ _ fun z => hu (by rw [z]; exact List.mem_cons_self)]
      rw [this vs e, List.set_set]
theorem tg_one {x : Str} {i : Nat} {p : Pos} (hN : X.N.Nodup) (hi : X.N[i]? = some x) (hx : Loc X.env.scope x) (hf : X.fn x = true ∨ X.env.scope.names.lookup x = some .local := by first | exact .inl rfl | exact .inr rfl | assumption) : PGD X (.Name x p) (gName i) (.one i) :=
  ⟨pg_name hN hi hx hf, fun r k e h => by
    simp only [bindTg, Option.some.injEq] at e
    subst e
    exact h _ (r.dat i k) fun vs hv => wipe_set (hv i (by simp))⟩
structure PGsD (X : Cx) (ts : List Expr) (g : TGs) (is : List Nat) : Prop where
  pg : PGs X ts g
  run : ∀ {Ω : Type} {W : Wd Ω} {B F G H : Hp} {w : Ω} {σ : L2.St} {sl sl' : Sl} {us : List V} {ds : List Dt} {Q : L2.St → Hp → Prop}, SR X.K W B F G H w σ sl → DrL X.K F us ds → setAll is ds sl = some sl' →
    (∀ σ', SR X.K W B F G H w σ' sl' → (∀ vs : List Nat, (∀ i ∈ is, i ∈ vs) → wipe σ' vs = wipe σ vs) → Q σ' H) → g us σ H Q
theorem tgs_nil : PGsD X [] gNil [] := ⟨pgs_nil, fun {Ω W B F G H w σ sl sl' us ds Q} r k e h => by
  cases k with
  | nil =>
    simp only [setAll, Option.some.injEq] at e
    subst e
    exact ⟨rfl, h σ r fun _ _ => rfl⟩
  | cons _ _ => simp [setAll] at e⟩
theorem tgs_cons {x : Str} {i : Nat} {p : Pos} {es : List Expr} {u : TGs} {is : List Nat} (hN : X.N.Nodup) (hi : X.N[i]? = some x) (hx : Loc X.env.scope x) (h2 : PGsD X es u is)
    (hf : X.fn x = true ∨ X.env.scope.names.lookup x = some .local := by first | exact .inl rfl | exact .inr rfl | assumption)
    (hs : (assignEach (Expr.Name x p :: es) X.env).map (·.2) = assign (Expr.Name x p) X.env :: (assignEach es X.env).map (·.2) := by rfl) : PGsD X (.Name x p :: es) (gCons (gName i) u) (i :: is) :=
  ⟨pgs_cons (pg_name hN hi hx hf) h2.pg hs, fun {Ω W B F G H w σ sl sl' us ds Q} r k e h => by
    cases k with
    | nil => simp [setAll] at e
    | cons k1 k2 =>
      simp only [setAll] at e
      exact ⟨_, _, rfl, h2.run (r.dat i k1) k2 e fun σ' r' hw => h σ' r' fun vs hv => (hw vs fun j hj => hv j (List.mem_cons_of_mem _ hj)).trans (wipe_set (hv i List.mem_cons_self))⟩⟩
theorem tg_many {es : List Expr} {k n : Nat} {t : TGs} {is : List Nat} {p : Pos} (hc : X.calm = true) (h : PGsD X es t is) (hl : is.length = n) (hn : (assignEach es X.env).length = n := by rfl)
    (hst : (assignEach es X.env).findIdx? (·.1) = none := by rfl) : PGD X (.Tuple es k p) (gTup X.K n t) (.many is) :=
  ⟨pg_tup hc h.pg hn hst, fun {Ω W B F G H w σ sl sl' v d Q} r kd e q => by
    cases d with
    | tup ds =>
      cases kd with
      | tup hs hd =>
        have e2 : setAll is ds sl = some sl' := e
        have hlen : ∀ (is : List Nat) (ds : List Dt) (sl sl' : Sl), setAll is ds sl = some sl' → is.length = ds.length := by
          intro is
          induction is with
          | nil => intro ds sl sl' z; cases ds with
            | nil => rfl
            | cons _ _ => simp [setAll] at z
          | cons i is ih => intro ds sl sl' z; cases ds with
            | nil => simp [setAll] at z
            | cons d ds => simp only [setAll] at z; simp [ih _ _ _ z]
        exact ⟨_, _, rfl, sameSeqT r.hr.f (SqT.of hs), by rw [hd.len, ← hlen _ _ _ _ e2, hl], h.run r hd e2 q⟩
      | tupK hs =>
        have e2 : setAll is [] sl = some sl' := e
        have hlen : is.length = 0 := by
          cases is with
          | nil => rfl
          | cons _ _ => simp [setAll] at e2
        exact ⟨_, [], rfl, .inr hs, by rw [← hl, hlen]; rfl, h.run r .nil e2 q⟩
    | _ => simp [bindTg] at e⟩
theorem ds_unp {es : List Expr} {k n : Nat} {t : TGs} {is : List Nat} {p : Pos} (hc : X.calm = true) (h : PD X W e pe) (hg : PGsD X es t is) (hl : is.length = n) (hn : (assignEach es X.env).length = n := by rfl)
    (hst : (assignEach es X.env).findIdx? (·.1) = none := by rfl) (hs : swapsWithSole [.Tuple es k p] e pos.line X.env = pure false := by rfl) (hw : swappedStores [.Tuple es k p] e X.env = pure none := by rfl)
    (h1 : (assignEach [.Tuple es k p] X.env).map (·.2) = [assign (.Tuple es k p) X.env] := by rfl) : PDS X W (.Assign [.Tuple es k p] e pos) (wUnp is pe) := by
  have T := tg_many (k := k) (p := p) hc hg hl hn hst
  refine ⟨ps_imp (ps_asg h.run T.pg hs hw h1) fun D σ H ⟨B, F, G, w, sl, r, z⟩ => ?_, fun D D' l sl w z => h.mono _ _ _ _ (fun d fl w1 ⟨z0, sl', z1, z2⟩ => ⟨z0, sl', z1, l.nx _ _ z2⟩) z⟩
  refine ⟨B, F, G, w, sl, r, h.mono _ _ _ _ (fun d fl w1 ⟨z0, sl', z1, z2⟩ v F1 G1 H1 r1 e1 f1 => ?_) z⟩
  subst z0
  exact T.run r1 f1 z1 fun σ' r' _ => z2 σ' F1 G1 H1 r' e1
theorem ds_par {i j : Nat} {x y : Str} {a b : Expr} {px py pt : Pos} {kt k2 pt2} (hc : X.calm = true) (hN : X.N.Nodup) (hi : X.N[i]? = some x) (hj : X.N[j]? = some y) (hij : i ≠ j) (hx : X.env.scope.names.lookup x = some .local) (hy : X.env.scope.names.lookup y = some .local)
    (ha : PDA X W [a, b] pl) (hw : swappedStores [.Tuple [.Name x px, .Name y py] kt pt] (.Tuple [a, b] k2 pt2) X.env = pure (some [x, y]))
    (hs : ∀ {t : TA}, PA X [a, b] t → PS X (.Assign [.Tuple [.Name x px, .Name y py] kt pt] (.Tuple [a, b] k2 pt2) pos) (tPar i j t)) : PDS X W (.Assign [.Tuple [.Name x px, .Name y py] kt pt] (.Tuple [a, b] k2 pt2) pos) (wPar i j pl) := by
  refine ⟨ps_imp (hs ha.run) fun D σ H ⟨B, F, G, w, sl, r, z⟩ => ?_, fun D D' l sl w z => ha.mono _ _ _ _ (fun ds w1 ⟨d, e, z1, z2⟩ => ⟨d, e, z1, l.nx _ _ z2⟩) z⟩
  refine ⟨B, F, G, w, sl, r, ha.mono _ _ _ _ (fun ds w1 ⟨d, e, z1, z2⟩ vs F1 G1 H1 r1 e1 f1 => ?_) z⟩
  subst z1
  cases f1 with
  | cons f1 f2 =>
    cases f2 with
    | cons f2 f3 =>
      cases f3
      exact ⟨_, _, rfl, z2 _ F1 G1 H1 ((r1.dat i f1).dat j f2) e1⟩

/-! ### if, changes of own lists -/
theorem ds_if {c : Expr} {a b : List Stmt} (hc : PDT X W c t) (ha : PDB X W a p) (hb : PDB X W b q) : PDS X W (.If c a b pos) (wIfS t p q) := by
  refine ⟨ps_imp (ps_if hc.run ha.run hb.run) fun D σ H ⟨B, F, G, w, sl, r, z⟩ => ?_, fun D D' l sl w z => hc.mono _ _ _ _ (fun b w1 z => ?_) z⟩
  · refine ⟨B, F, G, w, sl, r, hc.mono _ _ _ _ (fun c w1 z F1 G1 H1 r1 e1 => ?_) z⟩
    cases c with
    | true => exact ⟨B, F1, G1, w1, sl, r1, ha.mono _ _ (up_le e1) _ _ z⟩
    | false => exact ⟨B, F1, G1, w1, sl, r1, hb.mono _ _ (up_le e1) _ _ z⟩
  · cases b with
    | true => exact ha.mono _ _ l _ _ z
    | false => exact hb.mono _ _ l _ _ z
theorem SR.getOwn {K : PySem.W.Frag} {B F G H : Hp} {w : Ω} {σ : L2.St} {sl : Sl} {i : Nat} {l : List Dt} (r : SR K W B F G H w σ sl) (h : sl[i]? = some (some (.own l))) : ∃ a vs, σ[i]? = some (some (.ref a)) ∧ B a = none ∧ F a = none ∧ G a = none ∧ H a = some (.lst vs) ∧ DrL K F vs l := by
  obtain ⟨v, h1, a, ob, rfl, h2, h3, h4, h5, h6⟩ := r.s i _ h
  obtain ⟨vs, rfl, h7⟩ := h6.asLst
  exact ⟨a, vs, h1, h2, h3, h4, h5, h7⟩
/-- the own list at slot i becomes another one -/
theorem SR.ownChg {K : PySem.W.Frag} {B F G H : Hp} {w : Ω} {σ : L2.St} {sl : Sl} {i : Nat} {l m : List Dt} {a : Addr} {us : List V} (r : SR K W B F G H w σ sl) (h : sl[i]? = some (some (.own l))) (hs : σ[i]? = some (some (.ref a))) (hm : DrL K F us m) :
    SR K W B F G (upd H a (.lst us)) w σ (sl.set i (some (.own m))) := by
  obtain ⟨a', vs, h1, hB, hF, hG, hH, hD⟩ := r.getOwn h
  rw [hs] at h1
  cases h1
  have hil : i < sl.length := (List.getElem?_eq_some_iff.mp h).1
  have get : ∀ (j : Nat) (x : Sv), (sl.set i (some (.own m)))[j]? = some (some x) → (j = i ∧ x = .own m) ∨ (j ≠ i ∧ sl[j]? = some (some x)) := fun j x z => by
    rw [List.getElem?_set] at z
    by_cases e : i = j
    · rw [if_pos e, if_pos hil] at z
      cases z
      exact .inl ⟨e.symm, rfl⟩
    · rw [if_neg e] at z
      exact .inr ⟨fun q => e q.symm, z⟩
  refine ⟨r.hr.chg hB hF hG, by rw [List.length_set]; exact r.len, fun j x z => ?_, fun j k v l1 l2 z1 z2 z3 z4 => ?_⟩
  · rcases get j x z with ⟨rfl, rfl⟩ | ⟨hne, z⟩
    · exact ⟨_, hs, a, _, rfl, hB, hF, hG, upd_same, .lst hm⟩
    · obtain ⟨v, k1, k2⟩ := r.s j x z
      refine ⟨v, k1, ?_⟩
      cases x with
      | dat d => exact k2
      | mine l' =>
        obtain ⟨c, ws, rfl, q1, q2, q3, q4, q5⟩ := k2
        refine ⟨c, ws, rfl, q1, q2, q3, ?_, q5⟩
        have hca : c ≠ a := fun z' => by
          subst z'
          exact hne (r.o j i _ l' _ z h k1 hs)
        rw [upd_ne hca]
        exact q4
  · have own_of : ∀ (j : Nat) (l1 : Ow), (sl.set i (some (.own m)))[j]? = some (some (.mine l1)) → ∃ l2, sl[j]? = some (some (.mine l2)) := fun j l1 z => by
      rcases get j _ z with ⟨rfl, _⟩ | ⟨_, z⟩
      · exact ⟨_, h⟩
      · exact ⟨l1, z⟩
    obtain ⟨m1, y1⟩ := own_of j l1 z1
    obtain ⟨m2, y2⟩ := own_of k l2 z2
    exact r.o j k v m1 m2 y1 y2 z3 z4
theorem ds_app {x name : Str} {i : Nat} {p apos cpos : Pos} (ho : PE X (.Name x p) (tVar i)) (h : PD X W e pe) (hb : ∀ {t : TA}, PA X [e] t → PE X (.Call (.Attribute (.Name x p) name apos) [e] [] cpos) (tBM X.K "list" rAppend (tVar i) t))
    (hs1 : starEach (e :: []) X.env = (false, eval e X.env) :: starEach [] X.env := by rfl) (hs : swapsWith (.Call (.Attribute (.Name x p) name apos) [e] [] cpos) none pos.line X.env = pure false := by rfl) :
    PDS X W (.Expr (.Call (.Attribute (.Name x p) name apos) [e] [] cpos) pos) (wApp i pe) := by
  refine ⟨ps_imp (ps_expr (hb (pa_cons h.run pa_nil hs1)) hs) fun D σ H ⟨B, F, G, w, sl, r, l, hl, hz, z⟩ => ?_, fun D D' l sl w ⟨m, z1, z2, z⟩ => ⟨m, z1, z2, h.mono _ _ _ _ (fun d fl w1 ⟨z0, z3⟩ => ⟨z0, l.nx _ _ z3⟩) z⟩⟩
  obtain ⟨a, vs, q1, q2, q3, q4, q5, q6⟩ := r.getOwn hl
  refine ⟨.ref a, q1, .inl ⟨rfl, vs, .of q5⟩, B, F, G, w, sl, r, h.mono _ _ _ _ (fun d fl w1 ⟨z0, z3⟩ v F1 G1 H1 r1 e1 f1 => ?_) z⟩
  subst z0
  obtain ⟨a', vs', p1, p2, p3, p4, p5, p6⟩ := r1.getOwn hl
  rw [q1] at p1
  cases p1
  refine ⟨a, vs', v, rfl, rfl, p5, by rw [p6.len]; exact hz, ?_⟩
  exact z3 σ F1 G1 _ (r1.ownChg hl q1 (p6.app (.cons f1 .nil))) e1
theorem ds_ext {x name : Str} {i : Nat} {p apos cpos : Pos} (ho : PE X (.Name x p) (tVar i)) (h : PDL X W e pl) (hb : ∀ {t : TA}, PA X [e] t → PE X (.Call (.Attribute (.Name x p) name apos) [e] [] cpos) (tBM X.K "list" rExtend (tVar i) t))
    (hs1 : starEach (e :: []) X.env = (false, eval e X.env) :: starEach [] X.env := by rfl) (hs : swapsWith (.Call (.Attribute (.Name x p) name apos) [e] [] cpos) none pos.line X.env = pure false := by rfl) :
    PDS X W (.Expr (.Call (.Attribute (.Name x p) name apos) [e] [] cpos) pos) (wExt i pl) := by
  refine ⟨ps_imp (ps_expr (hb (pa_cons h.run pa_nil hs1)) hs) fun D σ H ⟨B, F, G, w, sl, r, l, hl, z⟩ => ?_, fun D D' l sl w ⟨m, z1, z⟩ => ⟨m, z1, h.mono _ _ _ _ (fun d w1 ⟨z0, z3⟩ => ⟨z0, l.nx _ _ z3⟩) z⟩⟩
  obtain ⟨a, vs, q1, q2, q3, q4, q5, q6⟩ := r.getOwn hl
  refine ⟨.ref a, q1, .inl ⟨rfl, vs, .of q5⟩, B, F, G, w, sl, r, h.mono _ _ _ _ (fun m w1 ⟨z0, z3⟩ b us F1 G1 H1 r1 e1 hB hn hH hF hG hD => ?_) z⟩
  obtain ⟨a', vs', p1, p2, p3, p4, p5, p6⟩ := r1.getOwn hl
  rw [q1] at p1
  cases p1
  refine ⟨a, b, vs', us, rfl, rfl, p5, hH, by rw [p6.len, hD.len]; exact z0, ?_⟩
  exact z3 σ F1 G1 _ (r1.ownChg hl q1 (p6.app hD)) e1
/-- xs[n] = e, xs one's own list at the slot i -/
theorem ds_setIx {x : Str} {i : Nat} {p spos : Pos} {o ie : Expr} (ho : PE X (.Name x p) (tVar i)) (h : PD X W e pe) (hi : PD X W ie pi)
    (ha : ∀ v, assign (.Subscript (.Name x p) ie spos) X.env v = (do
      let ov ← holding [v] (eval (.Name x p) X.env)
      let iv ← holding [v, ov] (eval ie X.env)
      standAt spos
      holding [v, ov, iv] (setItem ov iv v)
      release [v, ov, iv] []) := by intro _; rfl)
    (hs : swapsWithSole [.Subscript (.Name x p) ie spos] e pos.line X.env = pure false := by rfl) (hw : swappedStores [.Subscript (.Name x p) ie spos] e X.env = pure none := by rfl)
    (h1 : (assignEach [.Subscript (.Name x p) ie spos] X.env).map (·.2) = [assign (.Subscript (.Name x p) ie spos) X.env] := by rfl) : PDS X W (.Assign [.Subscript (.Name x p) ie spos] e pos) (wSetIx i pe pi) := by
  refine ⟨ps_imp (ps_asg h.run (pg_sub ho hi.run set_list ha) hs hw h1) fun D σ H ⟨B, F, G, w, sl, r, m, hl, z⟩ => ?_, fun D D' l sl w ⟨m, z1, z⟩ => ⟨m, z1, h.mono _ _ _ _ (fun d fl w1 ⟨z0, z⟩ => ⟨z0, hi.mono _ _ _ _ (fun k _ w2 ⟨n, j, a2, a3, a4⟩ => ⟨n, j, a2, a3, l.nx _ _ a4⟩) z⟩) z⟩⟩
  obtain ⟨a, vs, q1, q2, q3, q4, q5, q6⟩ := r.getOwn hl
  refine ⟨B, F, G, w, sl, r, h.mono _ _ _ _ (fun d fl w1 ⟨z0, z⟩ v F1 G1 H1 r1 e1 f1 => ?_) z⟩
  subst z0
  refine ⟨.ref a, q1, B, F1, G1, w1, sl, r1, hi.mono _ _ _ _ (fun k fl w2 ⟨n, j, a2, a3, a4⟩ kv F2 G2 H2 r2 e2 f2 => ?_) z⟩
  subst a2
  obtain ⟨a', vs', p1, p2, p3, p4, p5, p6⟩ := r2.getOwn hl
  rw [q1] at p1
  cases p1
  have := (f2.da r2).int
  subst this
  refine ⟨a, vs', n, j, rfl, rfl, p5, by rw [p6.len]; exact a3, ?_⟩
  exact a4 σ F2 G2 _ (r2.ownChg hl q1 (p6.set j (Dr.mono e2 f1))) (e1.trans e2)
theorem ds_aug {f : Int → Int → Int} {op : Operator} {x : Str} {i : Nat} {pos' : Pos} (hN : X.N.Nodup) (hi : X.N[i]? = some x) (hx : Loc X.env.scope x) (h : PD X W e pe) (ho : PIp X op (ipI f))
    (hf : X.fn x = true ∨ X.env.scope.names.lookup x = some .local := by first | exact .inl rfl | exact .inr rfl | assumption) : PDS X W (.AugAssign (.Name x pos') op e pos) (wAug f i pe) := by
  refine ⟨ps_imp (ps_aug hN hi hx h.run ho hf) fun D σ H ⟨B, F, G, w, sl, r, a, ha, z⟩ => ?_, fun D D' l sl w ⟨a, z1, z⟩ => ⟨a, z1, h.mono _ _ _ _ (fun d fl w1 ⟨b, z0, z⟩ => ⟨b, z0, l.nx _ _ z⟩) z⟩⟩
  obtain ⟨v, h1, h2⟩ := r.s i _ ha
  cases h2
  refine ⟨_, h1, B, F, G, w, sl, r, h.mono _ _ _ _ (fun d fl w1 ⟨b, z0, z⟩ v F1 G1 H1 r1 e1 f1 => ?_) z⟩
  subst z0
  have := (f1.da r1).int
  subst this
  exact ⟨a, b, rfl, rfl, z _ F1 G1 H1 (r1.dat i (.int _)) e1⟩
theorem SR.frzOwn {K : PySem.W.Frag} {B F G H : Hp} {w : Ω} {σ : L2.St} {sl : Sl} {i : Nat} {l : List Dt} (r : SR K W B F G H w σ sl) (h : sl[i]? = some (some (.own l))) : ∃ F', SR K W B F' G H w σ (sl.set i (some (.dat (.lst l)))) ∧ Same F F' := by
  obtain ⟨a, vs, q1, q2, q3, q4, q5, q6⟩ := r.getOwn h
  have e : Same F (upd F a (.lst vs)) := sameUpd q3
  have hil : i < sl.length := (List.getElem?_eq_some_iff.mp h).1
  have get : ∀ (j : Nat) (x : Sv), (sl.set i (some (.dat (.lst l))))[j]? = some (some x) → (j = i ∧ x = .dat (.lst l)) ∨ (j ≠ i ∧ sl[j]? = some (some x)) := fun j x z => by
    rw [List.getElem?_set] at z
    by_cases e : i = j
    · rw [if_pos e, if_pos hil] at z
      cases z
      exact .inl ⟨e.symm, rfl⟩
    · rw [if_neg e] at z
      exact .inr ⟨fun q => e q.symm, z⟩
  refine ⟨upd F a (.lst vs), ⟨r.hr.frz q2 q3 q4 q5, by rw [List.length_set]; exact r.len, fun j x z => ?_, fun j k v l1 l2 z1 z2 z3 z4 => ?_⟩, e⟩
  · rcases get j x z with ⟨rfl, rfl⟩ | ⟨hne, z⟩
    · exact ⟨_, q1, .lst upd_same (q6.mono e)⟩
    · obtain ⟨v, k1, k2⟩ := r.s j x z
      refine ⟨v, k1, ?_⟩
      cases x with
      | dat d => exact Dr.mono e k2
      | mine l' =>
        obtain ⟨c, ws, rfl, p1, p2, p3, p4, p5⟩ := k2
        have hca : c ≠ a := fun z' => by
          subst z'
          exact hne (r.o j i _ l' _ z h k1 q1)
        exact ⟨c, ws, rfl, p1, by rw [upd_ne hca]; exact p2, p3, p4, p5.mono e⟩
  · rcases get j _ z1 with ⟨rfl, y⟩ | ⟨_, y1⟩
    · cases y
    · rcases get k _ z2 with ⟨rfl, y⟩ | ⟨_, y2⟩
      · cases y
      · exact r.o j k v l1 l2 y1 y2 z3 z4
theorem db_frz {i : Nat} {sts : List Stmt} (h : PDB X W sts q) : PDB X W sts (wFrz i q) := by
  refine ⟨pss_imp h.run fun D σ H ⟨B, F, G, w, sl, r, z⟩ => ?_, fun D D' l sl w z => ?_⟩
  · unfold wFrz at z
    split at z
    · rename_i m hm
      obtain ⟨F', r', e⟩ := r.frzOwn hm
      exact ⟨B, F', G, w, _, r', h.mono _ _ (up_le e) _ _ z⟩
    · exact ⟨B, F, G, w, sl, r, z⟩
  · unfold wFrz at z ⊢
    split at z
    · exact h.mono _ _ l _ _ z
    · exact h.mono _ _ l _ _ z

/-! ### for -/
/-- what a for walks gives the items ds, one after the other, whatever is made meanwhile -/
structure YlOk (K : PySem.W.Frag) (F : Hp) (J : It) (ds : List Dt) : Prop where
  go : ∀ (F1 H1 : Hp), Same F F1 → Same F1 H1 → ∀ (i : Nat) (d : Dt), ds[i]? = some d → J.go i H1 ∧ ∀ x H', J.yld i H1 x H' → ∃ F', Ext K F1 H1 F' H' x d
  stop : ∀ (F1 H1 : Hp), Same F F1 → Same F1 H1 → J.stop ds.length H1
def lftI {Ω : Type} (K : PySem.W.Frag) (W : Wd Ω) (p : DI Ω) : TI := fun σ H R => ∃ B F G w sl, SR K W B F G H w σ sl ∧ p sl w fun ds w' => ∀ J F' G' H', SR K W B F' G' H' w' σ sl → Same F F' → YlOk K F' J ds → R J H'
structure PDI {Ω : Type} (X : Cx) (W : Wd Ω) (tg it : Expr) (p : DI Ω) : Prop where
  run : PI X tg it (lftI X.K W p)
  mono : ∀ sl w (C C' : List Dt → Ω → Prop), (∀ d w', C d w' → C' d w') → p sl w C → p sl w C'
theorem pi_imp {X : Cx} {tg it : Expr} {t t' : TI} (h : PI X tg it t) (i : ∀ σ H R, t' σ H R → t σ H R) : PI X tg it t' := ⟨fun pins s σ H R I q => h.run pins s σ H R I (i σ H R q)⟩
theorem wLoop_mono {tg : Tg} {body : DS Ω} (hb : ∀ (D D' : DD Ω), D.Le D' → ∀ sl w, body D sl w → body D' sl w) {D D' : DD Ω} (l : D.Le D') : ∀ (xs : List Dt) (sl : Sl) (w : Ω), wLoop tg body D xs sl w → wLoop tg body D' xs sl w
  | [], sl, w, z => l.nx _ _ z
  | x :: xs, sl, w, ⟨sl', h1, z⟩ => by
    refine ⟨sl', h1, ?_⟩
    refine hb _ _ ?_ _ _ z
    exact ⟨fun _ _ => wLoop_mono hb l xs _ _, l.rt, l.nx, fun _ _ => wLoop_mono hb l xs _ _⟩
theorem ds_for {tg : Tg} {tgE it : Expr} {g : TG} {body : List Stmt} {pit : DI Ω} (hp : PassesOwn (model X.prog X.w) X.A X.env X.xe) (hc : X.calm = true) (hi : PDI X W tgE it pit) (hg : PGD X tgE g tg) (hb : PDB X W body p)
    (hs : ∀ x, foldedSetIterable it X.env x = pure x := by intro _; rfl) : PDS X W (.For tgE it body [] pos) (wFor tg pit p) := by
  refine ⟨ps_imp (ps_for hp hc hi.run hg.pg hb.run hs) fun D σ H ⟨B, F, G, w, sl, r, z⟩ => ?_, fun D D' l sl w z => hi.mono _ _ _ _ (fun ds w1 => wLoop_mono hb.mono l _ _ _) z⟩
  refine ⟨B, F, G, w, sl, r, hi.mono _ _ _ _ (fun ds w1 z J F1 G1 H1 r1 e1 hy => ?_) z⟩
  refine ⟨fun i m σ' H' => m = ds.length - i ∧ i ≤ ds.length ∧ ∃ F' G' w' sl', SR X.K W B F' G' H' w' σ' sl' ∧ Same F1 F' ∧ wLoop tg p (up X.K W B F D) (ds.drop i) sl' w', ⟨ds.length, by simp, Nat.zero_le _, F1, G1, w1, sl, r1, Same.refl _, z⟩, ?_⟩
  rintro i m σ' H' ⟨rfl, hi', F', G', w', sl', r', e', z'⟩
  by_cases hlt : i < ds.length
  · right
    have hd : ds[i]? = some ds[i] := List.getElem?_eq_getElem hlt
    obtain ⟨g1, g2⟩ := hy.go F' H' e' r'.hr.f i _ hd
    have hdr : ds.drop i = ds[i] :: ds.drop (i + 1) := List.drop_eq_getElem_cons hlt
    rw [hdr] at z'
    obtain ⟨sl2, b1, b2⟩ := z'
    refine ⟨g1, fun σ2 H2 => ∃ F2 G2 w2 sl2, SR X.K W B F2 G2 H2 w2 σ2 sl2 ∧ Same F1 F2 ∧ wLoop tg p (up X.K W B F D) (ds.drop (i + 1)) sl2 w2, fun σ2 H2 ⟨F2, G2, w2, sl2, r2, e2, z2⟩ => ⟨ds.length - (i + 1), by omega, rfl, hlt, F2, G2, w2, sl2, r2, e2, z2⟩, fun x H2 y => ?_⟩
    obtain ⟨F2, ext⟩ := g2 x H2 y
    obtain ⟨r2, e2, k2⟩ := ext.use r'
    refine hg.run r2 k2 b1 fun σ3 r3 _ => ⟨B, F2, G', w', sl2, r3, hb.mono _ _ ⟨fun sl4 w4 z4 σ4 F4 G4 H4 r4 e4 => ?_, ?_, ?_, fun sl4 w4 z4 σ4 F4 G4 H4 r4 e4 => ?_⟩ _ _ b2⟩
    · exact ⟨F4, G4, w4, sl4, r4, (e'.trans e2).trans e4, z4⟩
    · exact upV_mono ((e1.trans e').trans e2) fun _ _ z => z
    · exact upSl_mono ((e1.trans e').trans e2) fun _ _ z => z
    · exact ⟨F4, G4, w4, sl4, r4, (e'.trans e2).trans e4, z4⟩
  · left
    have e : i = ds.length := by omega
    subst e
    rw [List.drop_length] at z'
    exact ⟨hy.stop F' H' e' r'.hr.f, z' σ' F' G' H' r' (e1.trans e')⟩
theorem ds_while {c : Expr} {body : List Stmt} (hp : PassesOwn (model X.prog X.w) X.A X.env X.xe) (hc : PDT X W c t) (hb : PDB X W body p) : PDS X W (.While c body [] pos) (wWhile t p) := by
  refine ⟨ps_imp (ps_while hp hc.run hb.run) fun D σ H ⟨B, F, G, w, sl, r, I, ⟨n, hn⟩, hI⟩ => ?_, fun D D' l sl w ⟨I, hn, hI⟩ => ⟨I, hn, fun n sl w hw => hc.mono _ _ _ _ (fun b w1 z => ?_) (hI n sl w hw)⟩⟩
  · refine ⟨fun m σ' H' => ∃ F' G' w' sl', SR X.K W B F' G' H' w' σ' sl' ∧ Same F F' ∧ I m sl' w', ⟨n, F, G, w, sl, r, Same.refl _, hn⟩, ?_⟩
    rintro m σ' H' ⟨F', G', w', sl', r', e', hm⟩
    refine ⟨B, F', G', w', sl', r', hc.mono _ _ _ _ (fun b w1 z F1 G1 H1 r1 e1 => ?_) (hI m sl' w' hm)⟩
    cases b with
    | false => exact z σ' F1 G1 H1 r1 (e'.trans e1)
    | true =>
      refine ⟨fun σ2 H2 => ∃ k, k < m ∧ ∃ F2 G2 w2 sl2, SR X.K W B F2 G2 H2 w2 σ2 sl2 ∧ Same F F2 ∧ I k sl2 w2, fun σ2 H2 ⟨k, hk, z2⟩ => ⟨k, hk, z2⟩, ?_⟩
      refine ⟨B, F1, G1, w1, sl', r1, ?_⟩
      refine hb.mono _ _ ?_ _ _ z
      refine ⟨fun sl3 w3 ⟨k, hk, z3⟩ σ3 F3 G3 H3 r3 e3 => ⟨k, hk, F3, G3, w3, sl3, r3, (e'.trans e1).trans e3, z3⟩, ?_, ?_, fun sl3 w3 ⟨k, hk, z3⟩ σ3 F3 G3 H3 r3 e3 => ⟨k, hk, F3, G3, w3, sl3, r3, (e'.trans e1).trans e3, z3⟩⟩
      · exact upV_mono (e'.trans e1) fun _ _ z => z
      · exact upSl_mono (e'.trans e1) fun _ _ z => z
  · cases b with
    | true =>
      refine hb.mono _ _ ?_ _ _ z
      exact ⟨fun _ _ z => z, l.rt, l.nx, fun _ _ z => z⟩
    | false => exact l.nx _ _ z
end
end Ck
namespace PySem
open Sem (wp)
open AutoSeq1 (wpAny_loadPart')
/-- enumerate(v), v anything that begins -/
theorem ck_meets_enum {v : Value} {ob : Obj} {Hh : Heap → Prop} (beg : Begins v ob Hh) :
    Meets (Builtin.«enumerate.__new__» ⟨[.type "enumerate", v], []⟩) (fun _ R s => Hh s.heap ∧
      R (.ok (.ret (.ref (s.heap.push ob).objs.size)))
        { s with heap := (s.heap.push ob).push ⟨.type "enumerate", none, .fields #[.none, .bool false, .ref s.heap.objs.size, rawInt 0, .none, .none], #[]⟩ }) := by
  refine .of_wp fun prog w A R s pre => ?_
  obtain ⟨hp, gg, dd, tt, oo⟩ := s
  have hsub := sub_enumerate
  have go : ∀ {A' : Around} {E Q : Value → Shared → Prop}, Q (.ref hp.objs.size) ⟨hp.push ob, gg, dd, tt, oo⟩ →
      wpAny (model prog w) A' (pyIter v) Q E ⟨hp, gg, dd, tt, oo⟩ := fun q => beg.iter prog w _ _ _ _ pre.1 q
  have fin := pre.2
  wp_walk using go
  refine wpAny_stack_any fun st => wpAny_pure ?_
  split
  next c _ _ _ _ _ => cases (c == Value.type "enumerate") <;> (wp_walk using go; exact ⟨_, rfl, fin⟩)
  next => wp_walk using go; exact ⟨_, rfl, fin⟩
section
variable {prog : Program} {w : World} {A : Around} {E : Value → Shared → Prop} {s : Shared}
theorem ck_enum_begins {v : Value} {ob : Obj} {Hh : Heap → Prop} {Q : Value → Shared → Prop} (beg : Begins v ob Hh) (h1 : Hh s.heap)
    (fin : ∀ h', IsEnum h' (s.heap.objs.size + 1) s.heap.objs.size 0 .none → h'.get? s.heap.objs.size = some ob → h'.objs.size = s.heap.objs.size + 2 →
      (∀ b o, s.heap.get? b = some o → h'.get? b = some o) → Q (.ref (s.heap.objs.size + 1)) { s with heap := h' }) : wpAny (model prog w) A (call (.type "enumerate") [v]) Q E s := by
  refine callType_new F.called_enumerate (by decide) (F.typeCall_enumerate_1 v) (F.newCall_enumerate_1 v) (fun obj => F.args_object_init_2 obj v) F.entry_enumerate_new (ck_meets_enum beg) ⟨h1, ?_⟩
  have sz : (s.heap.push ob).objs.size = s.heap.objs.size + 1 := Heap.size_push ..
  have at1 := Heap.get?_push_size (s.heap.push ob) (o := ⟨.type "enumerate", none, .fields #[.none, .bool false, .ref s.heap.objs.size, rawInt 0, .none, .none], #[]⟩) rfl
  show _ ∧ _
  rw [sz] at at1 ⊢
  refine ⟨⟨_, at1, rfl⟩, fin _ at1 (Heap.get?_push_of_some _ (Heap.get?_push_size _ beg.free)) ?_ fun b o x => ?_⟩
  · rw [Heap.size_push, sz]
  · exact Heap.get?_push_of_some _ (Heap.get?_push_of_some _ x)
end
end PySem
namespace Ck
open PySem PySem.Spec PyProof.Rows L2

/-! ### enumerate of a tuple -/
def IteT (K : PySem.W.Frag) (a : Addr) : It where
  go i H := ∃ (xs : List V) (x : V), SqT K H a xs ∧ xs[i]? = some x
  yld i H v H' := ∃ T x, v = .ref T ∧ H T = none ∧ H' = upd H T (.tup [.int (i : Nat), x]) ∧ ∀ xs, SqT K H a xs → xs[i]? = some x
  stop i H := ∃ xs : List V, SqT K H a xs ∧ xs.length = i
theorem turn_enumT {P : Program} {w : World} {K : PySem.W.Frag} {elts : List Expr} {kk : Nat} {tpos : Pos} (a e it : Addr) (hai : a ≠ it) (hae : a ≠ e) :
    Turn P w K (.Tuple elts kk tpos) (IteT K a) [e, it] e (fun i h => (∃ old, IsEnum h e it ((i : Nat) : Int) old) ∧ h.IsTupleIter it a i ∧ e ≠ it) where
  mem := List.mem_cons_self
  obj := by
    rintro i h ⟨⟨old, he⟩, ⟨o, ho, hc, hd⟩, _⟩ b hb
    rcases List.mem_cons.mp hb with rfl | hb
    · exact ⟨_, he, fun v q => nomatch q⟩
    · obtain rfl := List.mem_singleton.mp hb
      exact ⟨o, ho, fun v q => by rw [hd] at q; cases q⟩
  keep := by
    rintro i h h' ⟨⟨old, he⟩, hi, hne⟩ k
    exact ⟨⟨old, k e (by simp) _ he⟩, hi.at fun o q => k it (by simp) o q, hne⟩
  item := by
    intro X hP hw hK hc i pins s σ H E I hf st hg
    subst hP hw hK
    obtain ⟨⟨old, he⟩, hit, hne⟩ := st
    obtain ⟨xs, x, hq, hx⟩ := hg
    obtain ⟨its, rv, p, hz⟩ := I.tuple hq
    have p' : s.heap.IsTuple a its.toArray := p
    have hel : e < s.heap.objs.size := Heap.lt_size he
    have hil : it < s.heap.objs.size := by
      obtain ⟨_, q, _⟩ := hit
      exact Heap.lt_size q
    have hlen : i < its.toArray.size := by
      have h1 := (List.getElem?_eq_some_iff.mp hx).1
      have h2 := rv.length
      simp only [List.size_toArray]
      omega
    refine wpAny_pyNext_enum_itemD (Draws.tuple (A := X.A.in1) (I.ok.hd hc) it a hai its.toArray) he ⟨hit, p'⟩ hlen hne ?_ fun u h' tk hu ho hst hT hsz hk => ?_
    · simp only [List.mem_cons, List.not_mem_nil, or_false, not_or]
      exact ⟨hne, Ne.symm hae⟩
    obtain ⟨u', hu', ru⟩ := rv.get hx
    have eu : u' = u := by
      have : its.toArray[i]? = some u' := by simpa using hu'
      rw [hu] at this
      exact (Option.some.inj this).symm
    subst eu
    refine ⟨_, rfl, wpAny_letOwnedTupleGo_enum (s := { s with heap := h', toks := tk + 1 }) ho fun h'' he' sb => ?_⟩
    have hT2 : h''.get? s.heap.objs.size = some ⟨.type "tuple", none, .seq #[.int i tk, u'] 0, #[]⟩ := (sb.2 _ (Nat.ne_of_gt hel)).trans hT
    have fresh : H s.heap.objs.size = none := I.hok.fresh (Nat.le_refl _)
    have new : ObjOk X.prog X.w (upd H s.heap.objs.size (.tup [.int (i : Nat), x])) h'' s.heap.objs.size (.tup [.int (i : Nat), x]) := by
      refine ⟨by show 2 ≤ sizeLine; decide, [.int i tk, u'], .cons ⟨_, rfl⟩ (.cons ru .nil), ?_⟩
      exact ⟨_, hT2, rfl, _, rfl⟩
    have I1 : Inv X pins σ (upd H s.heap.objs.size (.tup [.int (i : Nat), x])) { s with heap := h'', toks := tk + 1 } := by
      refine I.turnedNew (ch := [e, it]) (fun b ob hb q => ?_) hf (Nat.le_refl _) new
      have n1 : b ≠ e := fun z => hb (by simp [z])
      have n2 : b ≠ it := fun z => hb (by simp [z])
      exact (sb.2 b n1).trans (hk b ob n1 n2 q)
    refine ⟨.ref s.heap.objs.size, _, I1, rfl, ⟨_, x, rfl, fresh, rfl, fun ys hy => ?_⟩, ⟨⟨u', ?_⟩, ?_, hne⟩, fun b hb => ?_⟩
    · rw [I.tuple_inj hy hq]
      exact hx
    · have e1 : ((i + 1 : Nat) : Int) = (i : Int) + 1 := by omega
      rw [e1]
      exact he'
    · exact hst.1.at fun o q => (sb.2 it (Ne.symm hne)).trans q
    · have hb' : b < s.heap.objs.size := by
        rcases List.mem_cons.mp hb with rfl | hb
        · exact hel
        · obtain rfl := List.mem_singleton.mp hb
          exact hil
      rw [upd_ne (Nat.ne_of_lt hb')]
      exact (hf b hb).1
  done := by
    intro X hP hw hK hc i pins s σ H E I hf st hg
    subst hP hw hK
    obtain ⟨⟨old, he⟩, hit, hne⟩ := st
    obtain ⟨xs, hq, hx⟩ := hg
    obtain ⟨its, rv, p, hz⟩ := I.tuple hq
    obtain ⟨f0, f1, f2, f3, f4, f5⟩ := hf it (by simp)
    have hl := rv.length
    have p' : s.heap.IsTuple a its.toArray := p
    have hin : its.toArray.size = i := by
      simp only [List.size_toArray]
      omega
    refine wpAny_pyNext_enum_endD (Draws.tuple (A := X.A.in1) (I.ok.hd hc) it a hai its.toArray) he (by rw [hin]; exact ⟨hit, p'⟩) fun h' eb => ⟨rfl, ?_⟩
    exact I.turned (t' := s.toks) (fun b o hb q => eb b o hb q) f0 f1 f3 f4 f5
  self := by
    rintro A i s Q E ⟨⟨_, he⟩, _⟩ h
    exact wpAny_pyIter_enum he h
/-- a def's list or tuple that is walked with its places -/
def iEnumA (K : PySem.W.Frag) (ta : TA) : TI := fun σ H R => ta σ H fun vs H1 => ∃ a xs, vs = [.ref a] ∧ ((SqL K H1 a xs ∧ R (Ite K a) H1) ∨ (SqT K H1 a xs ∧ R (IteT K a) H1))
theorem pi_enumA {X : Cx} {e : Expr} {ta : TA} {p pos tpos : Pos} {elts : List Expr} {kk : Nat} (hg : Gl X "enumerate") (hm : X.mg "enumerate" = none) (ha : PA X [e] ta) (hs : starEach [e] X.env = [(false, eval e X.env)] := by rfl) :
    PI X (.Tuple elts kk tpos) (.Call (.Name "enumerate" p) [e] [] pos) (iEnumA X.K ta) := by
  constructor
  intro pins s σ H R I h
  refine Call_ (ld_blt I hg hm boot_enumerate (PyProof.Rows.callWith_type1 (thn (ha.run pos pins s σ H _ I h) ?_) hs rfl))
  rintro us s1 ⟨vs, H1, I1, r1, a, xs, rfl, q⟩
  cases r1 with
  | cons r rr =>
    cases rr
    cases r
    have fr : ∀ b, b ∈ [s1.heap.objs.size + 1, s1.heap.objs.size] → FpOk X pins H1 b := by
      intro b hb
      have le : s1.heap.objs.size ≤ b := by
        rcases List.mem_cons.mp hb with rfl | hb
        · omega
        · obtain rfl := List.mem_singleton.mp hb
          omega
      exact I1.fpOk le (I1.hok.fresh le)
    rcases q with ⟨hq, q⟩ | ⟨hq, q⟩
    · obtain ⟨its, rv, p', hz⟩ := I1.list hq
      refine call_enumerate_list p'.isList fun h' he hit hsz hk => wpAny_pyIter_enum he ?_
      have I2 : Inv X pins σ H1 { s1 with heap := h' } := I1.kept (t' := s1.toks) hk
      exact ⟨s1.heap.objs.size + 1, [s1.heap.objs.size + 1, s1.heap.objs.size], _, _, H1, rfl, I2, turn_enum a _ s1.heap.objs.size, ⟨⟨.none, he⟩, hit, Nat.succ_ne_self _⟩, fr, q⟩
    · obtain ⟨its, rv, p', hz⟩ := I1.tuple hq
      obtain ⟨o, ho, _⟩ := id p'
      have la : a < s1.heap.objs.size := Heap.lt_size ho
      refine ck_enum_begins (begins_tuple a its.toArray) (show s1.heap.IsTuple a its.toArray from p') fun h' he hit hsz hk => wpAny_pyIter_enum he ?_
      have I2 : Inv X pins σ H1 { s1 with heap := h' } := I1.kept (t' := s1.toks) hk
      exact ⟨s1.heap.objs.size + 1, [s1.heap.objs.size + 1, s1.heap.objs.size], _, _, H1, rfl, I2, turn_enumT a _ s1.heap.objs.size (Nat.ne_of_lt la) (Nat.ne_of_lt (Nat.lt_succ_of_lt la)), ⟨⟨.none, he⟩, ⟨_, hit, rfl, rfl⟩, Nat.succ_ne_self _⟩, fr, q⟩
/-- a list or a tuple that is walked -/
def iSeqA (K : PySem.W.Frag) (tl : TE) : TI := fun σ H R => tl σ H fun x H1 => ∃ a, x = .ref a ∧ (((∃ xs, SqL K H1 a xs) ∧ R (Itl K a) H1) ∨ ((∃ xs, SqT K H1 a xs) ∧ R (Itt K a) H1))
theorem pi_seqA {X : Cx} {tg l : Expr} {tl : TE} (hl : PE X l tl) : PI X tg l (iSeqA X.K tl) := by
  constructor
  intro pins s σ H R I h
  refine thn (hl.run pins s σ H _ I h) ?_
  rintro v s1 ⟨x, H1, I1, r1, a, rfl, q⟩
  cases r1
  have fr : ∀ b ∈ [s1.heap.objs.size], FpOk X pins H1 b := by
    intro b hb
    obtain rfl := List.mem_singleton.mp hb
    exact I1.fpOk (Nat.le_refl _) (I1.hok.fresh (Nat.le_refl _))
  rcases q with ⟨⟨xs, hq⟩, q⟩ | ⟨⟨xs, hq⟩, q⟩
  · obtain ⟨its, rv, p, hz⟩ := I1.list hq
    refine wpAny_pyIter_list p.isList ⟨s1.heap.objs.size, [s1.heap.objs.size], _, _, H1, rfl, ?_, turn_list a _, ⟨_, Heap.get?_push_size _ rfl, rfl, rfl⟩, fr, q⟩
    exact I1.kept (t' := s1.toks) fun b o e => Heap.get?_push_of_some _ e
  · obtain ⟨its, rv, p, hz⟩ := I1.tuple hq
    refine wpAny_pyIter_tuple (show s1.heap.IsTuple a its.toArray from p) ⟨s1.heap.objs.size, [s1.heap.objs.size], _, _, H1, rfl, ?_, turn_tuple a _, ⟨_, Heap.get?_push_size _ rfl, rfl, rfl⟩, fr, q⟩
    exact I1.kept (t' := s1.toks) fun b o e => Heap.get?_push_of_some _ e

/-! ### what is walked, over data -/
section
variable {Ω : Type}
def seqD : Dt → Option (List Dt)
  | .lst l => some l
  | .tup l => some l
  | _ => none
def rngD (lo : Int) (n : Nat) : List Dt := (List.range n).map fun (i : Nat) => Dt.int (lo + i)
def enumD (l : List Dt) : List Dt := l.mapIdx fun i d => Dt.tup [.int (i : Nat), d]
def zipD (l r : List Dt) : List Dt := List.zipWith (fun a b => Dt.tup [a, b]) l r
def wiSeq (p : DE Ω) : DI Ω := fun sl w C => p sl w fun d fl w' => fl = .cl ∧ ∃ l, seqD d = some l ∧ C l w'
def wiR1 (p : DE Ω) : DI Ω := fun sl w C => p sl w fun d _ w' => ∃ n, d = .int n ∧ -(2 ^ 62) ≤ n ∧ n < 2 ^ 62 ∧ C (rngD 0 n.toNat) w'
def wiR2 (p q : DE Ω) : DI Ω := fun sl w C => p sl w fun d _ w1 => q sl w1 fun e _ w2 => ∃ a b, d = .int a ∧ e = .int b ∧ (-(2 ^ 62) ≤ a ∧ a < 2 ^ 62 ∧ -(2 ^ 62) ≤ b ∧ b < 2 ^ 62) ∧ C (rngD a (b - a).toNat) w2
def wiEnum (p : DE Ω) : DI Ω := fun sl w C => p sl w fun d fl w' => fl = .cl ∧ ∃ l, seqD d = some l ∧ C (enumD l) w'
def wiZip (p q : DE Ω) : DI Ω := fun sl w C => p sl w fun d fl w1 => fl = .cl ∧ q sl w1 fun e fl2 w2 => fl2 = .cl ∧ ∃ l r, ((d = .lst l ∧ e = .lst r) ∨ (d = .tup l ∧ e = .tup r)) ∧ C (zipD l r) w2
end
section
variable {Ω : Type} {X : Cx} {W : Wd Ω} {e e2 tg : Expr} {p q : DE Ω} {K : PySem.W.Frag} {F : Hp} {a b : Addr} {vs us : List V} {l r : List Dt}
theorem same2 {H1 H2 H3 : Hp} (e : Same H1 H2) (e2 : Same H2 H3) : Same H1 H3 := e.trans e2
theorem yl_list (h : F a = some (.lst vs)) (d : DrL K F vs l) : YlOk K F (Itl K a) l := by
  refine ⟨fun F1 H1 e1 e2 i d hd => ?_, fun F1 H1 e1 e2 => ⟨vs, .of (e2 _ _ (e1 _ _ h)), Nat.le_of_eq d.len⟩⟩
  rename_i dl
  obtain ⟨v, hv, dv⟩ := dl.at hd
  refine ⟨⟨vs, v, .of (e2 _ _ (e1 _ _ h)), hv⟩, fun x H' ⟨z1, z2⟩ => ⟨F1, .inl ⟨rfl, z1, ?_⟩⟩⟩
  have z3 := z2 vs (.of (e2 _ _ (e1 _ _ h)))
  rw [hv] at z3
  cases z3
  exact dv.mono e1
theorem yl_tup (h : SqT K F a vs) (d : DrL K F vs l) : YlOk K F (Itt K a) l := by
  refine ⟨fun F1 H1 e1 e2 i d hd => ?_, fun F1 H1 e1 e2 => ⟨vs, sameSeqT e2 (sameSeqT e1 h), Nat.le_of_eq d.len⟩⟩
  rename_i dl
  obtain ⟨v, hv, dv⟩ := dl.at hd
  refine ⟨⟨vs, v, sameSeqT e2 (sameSeqT e1 h), hv⟩, fun x H' ⟨z1, z2⟩ => ⟨F1, .inl ⟨rfl, z1, ?_⟩⟩⟩
  have z3 := z2 vs (sameSeqT e2 (sameSeqT e1 h))
  rw [hv] at z3
  cases z3
  exact dv.mono e1
theorem rng_len (lo : Int) (n : Nat) : (rngD lo n).length = n := by simp [rngD]
theorem rng_at {lo : Int} {n i : Nat} {d : Dt} (h : (rngD lo n)[i]? = some d) : i < n ∧ d = .int (lo + i) := by
  unfold rngD at h
  rw [List.getElem?_map, Option.map_eq_some_iff] at h
  obtain ⟨j, h1, h2⟩ := h
  have := List.getElem?_eq_some_iff.mp h1
  obtain ⟨h3, h4⟩ := this
  simp only [List.length_range] at h3
  simp only [List.getElem_range] at h4
  subst h4
  exact ⟨h3, h2.symm⟩
theorem yl_rng {lo : Int} {n : Nat} : YlOk K F (Itr lo n) (rngD lo n) := by
  refine ⟨fun F1 H1 e1 e2 i d hd => ?_, fun F1 H1 e1 e2 => Nat.le_of_eq (rng_len lo n).symm⟩
  obtain ⟨h1, rfl⟩ := rng_at hd
  exact ⟨h1, fun x H' ⟨z1, z2⟩ => ⟨F1, .inl ⟨rfl, z1, by rw [z2]; exact .int _⟩⟩⟩
theorem enum_at {l : List Dt} {i : Nat} {d : Dt} (h : (enumD l)[i]? = some d) : ∃ e, l[i]? = some e ∧ d = .tup [.int (i : Nat), e] := by
  unfold enumD at h
  rw [List.getElem?_mapIdx, Option.map_eq_some_iff] at h
  obtain ⟨e, h1, h2⟩ := h
  exact ⟨e, h1, h2.symm⟩
theorem enum_len (l : List Dt) : (enumD l).length = l.length := by simp [enumD]
theorem pairNew {F1 H1 : Hp} {T : Addr} {x y : V} {d e : Dt} (hT : H1 T = none) (e2 : Same F1 H1) (hx : Dr K F1 x d) (hy : Dr K F1 y e) : Ext K F1 H1 (upd F1 T (.tup [x, y])) (upd H1 T (.tup [x, y])) (.ref T) (.tup [d, e]) :=
  .tup hT e2 (.cons hx (.cons hy .nil))
theorem yl_enumL (h : F a = some (.lst vs)) (d : DrL K F vs l) : YlOk K F (Ite K a) (enumD l) := by
  refine ⟨fun F1 H1 e1 e2 i d hd => ?_, fun F1 H1 e1 e2 => ⟨vs, .of (e2 _ _ (e1 _ _ h)), by rw [enum_len]; exact Nat.le_of_eq d.len⟩⟩
  rename_i dl
  obtain ⟨e, he, rfl⟩ := enum_at hd
  obtain ⟨v, hv, dv⟩ := dl.at he
  refine ⟨⟨vs, v, .of (e2 _ _ (e1 _ _ h)), hv⟩, fun x H' ⟨T, y, z1, z2, z3, z4⟩ => ⟨upd F1 T (.tup [.int (i : Nat), y]), ?_⟩⟩
  have z5 := z4 vs (.of (e2 _ _ (e1 _ _ h)))
  rw [hv] at z5
  cases z5
  subst z1 z3
  exact pairNew z2 e2 (.int _) (dv.mono e1)
theorem yl_enumT (h : SqT K F a vs) (d : DrL K F vs l) : YlOk K F (IteT K a) (enumD l) := by
  refine ⟨fun F1 H1 e1 e2 i d hd => ?_, fun F1 H1 e1 e2 => ⟨vs, sameSeqT e2 (sameSeqT e1 h), by rw [enum_len]; exact d.len⟩⟩
  rename_i dl
  obtain ⟨e, he, rfl⟩ := enum_at hd
  obtain ⟨v, hv, dv⟩ := dl.at he
  refine ⟨⟨vs, v, sameSeqT e2 (sameSeqT e1 h), hv⟩, fun x H' ⟨T, y, z1, z2, z3, z4⟩ => ⟨upd F1 T (.tup [.int (i : Nat), y]), ?_⟩⟩
  have z5 := z4 vs (sameSeqT e2 (sameSeqT e1 h))
  rw [hv] at z5
  cases z5
  subst z1 z3
  exact pairNew z2 e2 (.int _) (dv.mono e1)
theorem zip_at {l r : List Dt} {i : Nat} {d : Dt} (h : (zipD l r)[i]? = some d) : ∃ x y, l[i]? = some x ∧ r[i]? = some y ∧ d = .tup [x, y] := by
  unfold zipD at h
  rw [List.getElem?_zipWith] at h
  split at h
  · rename_i x y h1 h2
    exact ⟨x, y, h1, h2, (Option.some.inj h).symm⟩
  · cases h
theorem yl_zipL (h : F a = some (.lst vs)) (d : DrL K F vs l) (h' : F b = some (.lst us)) (d' : DrL K F us r) : YlOk K F (Itz K a b) (zipD l r) := by
  refine ⟨fun F1 H1 e1 e2 i c hd => ?_, fun F1 H1 e1 e2 => ⟨vs, us, .of (e2 _ _ (e1 _ _ h)), .of (e2 _ _ (e1 _ _ h')), ?_⟩⟩
  · obtain ⟨x, y, hx, hy, rfl⟩ := zip_at hd
    obtain ⟨v, hv, dv⟩ := d.at hx
    obtain ⟨u, hu, du⟩ := d'.at hy
    have s1 : SqL K H1 a vs := .of (e2 _ _ (e1 _ _ h))
    have s2 : SqL K H1 b us := .of (e2 _ _ (e1 _ _ h'))
    refine ⟨⟨vs, us, v, u, s1, s2, hv, hu⟩, fun x H' ⟨T, x1, y1, z1, z2, z3, z4, z5⟩ => ⟨upd F1 T (.tup [x1, y1]), ?_⟩⟩
    have z6 := z4 vs s1
    have z7 := z5 us s2
    rw [hv] at z6
    rw [hu] at z7
    cases z6
    cases z7
    subst z1 z3
    exact pairNew z2 e2 (dv.mono e1) (du.mono e1)
  · have : (zipD l r).length = min l.length r.length := by simp [zipD]
    rw [this, d.len, d'.len]
    omega
theorem yl_zipT (h : SqT K F a vs) (d : DrL K F vs l) (h' : SqT K F b us) (d' : DrL K F us r) : YlOk K F (RZ.ItzT K a b) (zipD l r) := by
  refine ⟨fun F1 H1 e1 e2 i c hd => ?_, fun F1 H1 e1 e2 => ⟨vs, us, sameSeqT e2 (sameSeqT e1 h), sameSeqT e2 (sameSeqT e1 h'), ?_⟩⟩
  · obtain ⟨x, y, hx, hy, rfl⟩ := zip_at hd
    obtain ⟨v, hv, dv⟩ := d.at hx
    obtain ⟨u, hu, du⟩ := d'.at hy
    have s1 : SqT K H1 a vs := sameSeqT e2 (sameSeqT e1 h)
    have s2 : SqT K H1 b us := sameSeqT e2 (sameSeqT e1 h')
    refine ⟨⟨vs, us, v, u, s1, s2, hv, hu⟩, fun x H' ⟨T, x1, y1, z1, z2, z3, z4, z5⟩ => ⟨upd F1 T (.tup [x1, y1]), ?_⟩⟩
    have z6 := z4 vs s1
    have z7 := z5 us s2
    rw [hv] at z6
    rw [hu] at z7
    cases z6
    cases z7
    subst z1 z3
    exact pairNew z2 e2 (dv.mono e1) (du.mono e1)
  · have : (zipD l r).length = min l.length r.length := by simp [zipD]
    rw [this, d.len, d'.len]
    omega
theorem seq_cases {H : Hp} {d : Dt} {v : V} (h : Dr K F v d) (e : seqD d = some l) : (∃ a vs, v = .ref a ∧ F a = some (.lst vs) ∧ DrL K F vs l) ∨ ∃ a vs, v = .ref a ∧ SqT K F a vs ∧ DrL K F vs l := by
  cases d with
  | lst m =>
    cases e
    cases h with | lst q r => exact .inl ⟨_, _, rfl, q, r⟩
  | tup m =>
    cases e
    cases h with
    | tup q r => exact .inr ⟨_, _, rfl, SqT.of q, r⟩
    | tupK q => exact .inr ⟨_, [], rfl, .inr q, .nil⟩
  | _ => simp [seqD] at e
theorem di_seq (h : PD X W e p) : PDI X W tg e (wiSeq p) := by
  refine ⟨pi_imp (pi_seqA h.run) fun σ H R ⟨B, F, G, w, sl, r, z⟩ => ?_, fun sl w C C' hC z => h.mono _ _ _ _ (fun d fl w1 ⟨z0, l, z1, z2⟩ => ⟨z0, l, z1, hC _ _ z2⟩) z⟩
  refine ⟨B, F, G, w, sl, r, h.mono _ _ _ _ (fun d fl w1 ⟨z0, l, z1, z2⟩ v F1 G1 H1 r1 e1 f1 => ?_) z⟩
  subst z0
  rcases seq_cases (H := H1) f1 z1 with ⟨a, vs, rfl, q, dl⟩ | ⟨a, vs, rfl, q, dl⟩
  · exact ⟨a, rfl, .inl ⟨⟨vs, .of (r1.hr.f _ _ q)⟩, z2 _ F1 G1 H1 r1 e1 (yl_list q dl)⟩⟩
  · exact ⟨a, rfl, .inr ⟨⟨vs, sameSeqT r1.hr.f q⟩, z2 _ F1 G1 H1 r1 e1 (yl_tup q dl)⟩⟩
theorem di_r1 {pp pos : Pos} (hg : Gl X "range") (hm : X.mg "range" = none) (h : PD X W e p) (hs : starEach [e] X.env = [(false, eval e X.env)] := by rfl) : PDI X W tg (.Call (.Name "range" pp) [e] [] pos) (wiR1 p) := by
  refine ⟨pi_imp (pi_range1 hg hm (pa_cons h.run pa_nil hs) hs) fun σ H R ⟨B, F, G, w, sl, r, z⟩ => ?_, fun sl w C C' hC z => h.mono _ _ _ _ (fun d fl w1 ⟨n, z0, z1, z2, z3⟩ => ⟨n, z0, z1, z2, hC _ _ z3⟩) z⟩
  refine ⟨B, F, G, w, sl, r, h.mono _ _ _ _ (fun d fl w1 ⟨n, z0, z1, z2, z3⟩ v F1 G1 H1 r1 e1 f1 => ?_) z⟩
  subst z0
  have := (f1.da r1).int
  subst this
  exact ⟨n, rfl, z1, z2, z3 _ F1 G1 H1 r1 e1 yl_rng⟩
theorem di_r2 {pp pos : Pos} (hg : Gl X "range") (hm : X.mg "range" = none) (h : PD X W e p) (h2 : PD X W e2 q) (hs : starEach [e, e2] X.env = [(false, eval e X.env), (false, eval e2 X.env)] := by rfl)
    (hs2 : starEach [e2] X.env = [(false, eval e2 X.env)] := by rfl) (hs3 : starEach (e :: [e2]) X.env = (false, eval e X.env) :: starEach [e2] X.env := by rfl) : PDI X W tg (.Call (.Name "range" pp) [e, e2] [] pos) (wiR2 p q) := by
  refine ⟨pi_imp (pi_range2 hg hm (pa_cons h.run (pa_cons h2.run pa_nil hs2) hs3) hs hs2) fun σ H R ⟨B, F, G, w, sl, r, z⟩ => ?_,
    fun sl w C C' hC z => h.mono _ _ _ _ (fun d fl w1 z => h2.mono _ _ _ _ (fun d2 fl2 w2 ⟨a, b, z0, z1, z2, z3⟩ => ⟨a, b, z0, z1, z2, hC _ _ z3⟩) z) z⟩
  refine ⟨B, F, G, w, sl, r, h.mono _ _ _ _ (fun d fl w1 z v F1 G1 H1 r1 e1 f1 => ?_) z⟩
  refine ⟨B, F1, G1, w1, sl, r1, h2.mono _ _ _ _ (fun d2 fl2 w2 ⟨a, b, z0, z1, z2, z3⟩ v2 F2 G2 H2 r2 e2 f2 => ?_) z⟩
  subst z0 z1
  have := ((f1.mono e2).da r2).int
  subst this
  have := (f2.da r2).int
  subst this
  exact ⟨a, b, rfl, z2, z3 _ F2 G2 H2 r2 (e1.trans e2) yl_rng⟩
theorem di_enum {pp pos tpos : Pos} {elts : List Expr} {kk : Nat} (hg : Gl X "enumerate") (hm : X.mg "enumerate" = none) (h : PD X W e p) (hs : starEach [e] X.env = [(false, eval e X.env)] := by rfl) : PDI X W (.Tuple elts kk tpos) (.Call (.Name "enumerate" pp) [e] [] pos) (wiEnum p) := by
  refine ⟨pi_imp (pi_enumA hg hm (pa_cons h.run pa_nil hs) hs) fun σ H R ⟨B, F, G, w, sl, r, z⟩ => ?_, fun sl w C C' hC z => h.mono _ _ _ _ (fun d fl w1 ⟨z0, l, z1, z2⟩ => ⟨z0, l, z1, hC _ _ z2⟩) z⟩
  refine ⟨B, F, G, w, sl, r, h.mono _ _ _ _ (fun d fl w1 ⟨z0, l, z1, z2⟩ v F1 G1 H1 r1 e1 f1 => ?_) z⟩
  subst z0
  rcases seq_cases (H := H1) f1 z1 with ⟨a, vs, rfl, q, dl⟩ | ⟨a, vs, rfl, q, dl⟩
  · exact ⟨a, vs, rfl, .inl ⟨.of (r1.hr.f _ _ q), z2 _ F1 G1 H1 r1 e1 (yl_enumL q dl)⟩⟩
  · exact ⟨a, vs, rfl, .inr ⟨sameSeqT r1.hr.f q, z2 _ F1 G1 H1 r1 e1 (yl_enumT q dl)⟩⟩
theorem di_zip {pp pos tpos : Pos} {elts : List Expr} {kk : Nat} (hg : Gl X "zip") (hm : X.mg "zip" = none) (h : PD X W e p) (h2 : PD X W e2 q) (hs : starEach [e, e2] X.env = (false, eval e X.env) :: starEach [e2] X.env := by rfl)
    (hs2 : starEach [e2] X.env = [(false, eval e2 X.env)] := by rfl) (hpl : (backTo pos (starEach [e2] X.env)).any (·.1) = false := by rfl) : PDI X W (.Tuple elts kk tpos) (.Call (.Name "zip" pp) [e, e2] [] pos) (wiZip p q) := by
  refine ⟨pi_imp (RZ.pi_zipA hg hm (pa_cons h.run (pa_cons h2.run pa_nil hs2) hs) hs hpl) fun σ H R ⟨B, F, G, w, sl, r, z⟩ => ?_,
    fun sl w C C' hC z => h.mono _ _ _ _ (fun d fl w1 ⟨z0, z⟩ => ⟨z0, h2.mono _ _ _ _ (fun d2 fl2 w2 ⟨z1, l, r, z2, z3⟩ => ⟨z1, l, r, z2, hC _ _ z3⟩) z⟩) z⟩
  refine ⟨B, F, G, w, sl, r, h.mono _ _ _ _ (fun d fl w1 ⟨z0, z⟩ v F1 G1 H1 r1 e1 f1 => ?_) z⟩
  subst z0
  refine ⟨B, F1, G1, w1, sl, r1, h2.mono _ _ _ _ (fun d2 fl2 w2 ⟨z1, l, m, z2, z3⟩ v2 F2 G2 H2 r2 e2 f2 => ?_) z⟩
  subst z1
  have f1' := f1.mono e2
  rcases z2 with ⟨rfl, rfl⟩ | ⟨rfl, rfl⟩
  · cases f1' with
    | lst q1 d1 =>
      cases f2 with
      | lst q2 d2 => exact ⟨_, _, _, _, rfl, .inl ⟨.of (r2.hr.f _ _ q1), .of (r2.hr.f _ _ q2), z3 _ F2 G2 H2 r2 (e1.trans e2) (yl_zipL q1 d1 q2 d2)⟩⟩
  · obtain ⟨a1, vs1, rfl, q1, d1, _⟩ := (show Da X.K F2 H2 v _ from .inl f1').tupS
    obtain ⟨a2, vs2, rfl, q2, d2, _⟩ := (show Da X.K F2 H2 v2 _ from .inl f2).tupS
    exact ⟨_, _, _, _, rfl, .inr ⟨sameSeqT r2.hr.f q1, sameSeqT r2.hr.f q2, z3 _ F2 G2 H2 r2 (e1.trans e2) (yl_zipT q1 d1 q2 d2)⟩⟩
end
end Ck
namespace Ck
open PySem PySem.Spec PyProof.Rows L2

/-! ### list comprehensions -/
def wipeD (sl : Sl) : List Nat → Sl
  | [] => sl
  | v :: vs => (wipeD sl vs).set v none
def noOwnB (sl : Sl) (vs : List Nat) : Bool := vs.all fun v => match sl[v]? with
  | some (some (.mine _)) => false
  | _ => true
def Tg.ix : Tg → List Nat
  | .one i => [i]
  | .many is => is
section
variable {Ω : Type}
def lcLoop (tg : Tg) (t : DT Ω) (pe : DE Ω) (sl0 : Sl) : List Dt → Ω → (List Dt → Ω → Prop) → Prop
  | [], w, C => C [] w
  | x :: xs, w, C => ∃ sl', bindTg tg x sl0 = some sl' ∧ t sl' w fun b w1 => if b = true then pe sl' w1 fun d fl w2 => fl = .cl ∧ lcLoop tg t pe sl0 xs w2 fun r w3 => C (d :: r) w3 else lcLoop tg t pe sl0 xs w1 C
def wLc (vs : List Nat) (tg : Tg) (pit : DI Ω) (t : DT Ω) (pe : DE Ω) : DL Ω := fun sl w C => pit sl w fun xs w' => xs.length ≤ sizeLine ∧ noOwnB sl vs = true ∧ lcLoop tg t pe (wipeD sl vs) xs w' C
def wYes : DT Ω := fun _ w C => C true w
end
theorem wipeD_out {sl : Sl} {i : Nat} : ∀ {vs : List Nat}, i ∉ vs → (wipeD sl vs)[i]? = sl[i]?
  | [], _ => rfl
  | v :: vs, h => by
    unfold wipeD
    rw [List.getElem?_set_ne fun e => h (by rw [e]; exact List.mem_cons_self)]
    exact wipeD_out fun z => h (List.mem_cons_of_mem _ z)
theorem wipeD_in {sl : Sl} {i : Nat} {x : Sv} : ∀ {vs : List Nat}, (wipeD sl vs)[i]? = some (some x) → i ∉ vs ∧ sl[i]? = some (some x)
  | [], h => ⟨by simp, h⟩
  | v :: vs, h => by
    unfold wipeD at h
    rw [List.getElem?_set] at h
    by_cases e : v = i
    · rw [if_pos e] at h
      split at h <;> cases h
    · rw [if_neg e] at h
      obtain ⟨h1, h2⟩ := wipeD_in h
      exact ⟨fun z => by
        rcases List.mem_cons.mp z with z | z
        · exact e z.symm
        · exact h1 z, h2⟩
theorem wipeD_len (sl : Sl) : ∀ vs : List Nat, (wipeD sl vs).length = sl.length
  | [] => rfl
  | v :: vs => by
    unfold wipeD
    rw [List.length_set, wipeD_len sl vs]
theorem wipe_idem (σ : L2.St) (vs : List Nat) : wipe (wipe σ vs) vs = wipe σ vs := by
  have key : ∀ (us : List Nat), (∀ u ∈ us, u ∈ vs) → wipe (wipe σ vs) us = wipe σ vs := by
    intro us
    induction us with
    | nil => intro _; rfl
    | cons u us ih =>
      intro h
      show (L2.wipe (L2.wipe σ vs) us).set u none = L2.wipe σ vs
      rw [ih fun x hx => h x (List.mem_cons_of_mem _ hx)]
      have hu := h u List.mem_cons_self
      apply List.ext_getElem?
      intro j
      rw [List.getElem?_set]
      by_cases e : u = j
      · subst e
        rw [if_pos rfl]
        by_cases hl : u < (wipe σ vs).length
        · rw [if_pos hl]
          cases q : (wipe σ vs)[u]? with
          | none =>
            rw [List.getElem?_eq_getElem hl] at q
            cases q
          | some o =>
            cases o with
            | none => rfl
            | some v => exact absurd hu (wipe_some q).2
        · rw [if_neg hl, List.getElem?_eq_none (by omega)]
      · rw [if_neg e]
  exact key vs fun _ h => h
theorem setAll_out {i : Nat} : ∀ {is : List Nat} {ds : List Dt} {sl sl' : Sl}, setAll is ds sl = some sl' → i ∉ is → sl'[i]? = sl[i]?
  | [], [], sl, sl', h, _ => by
    simp only [setAll, Option.some.injEq] at h
    rw [h]
  | [], _ :: _, _, _, h, _ => by simp [setAll] at h
  | _ :: _, [], _, _, h, _ => by simp [setAll] at h
  | j :: is, d :: ds, sl, sl', h, hi => by
    simp only [setAll] at h
    rw [setAll_out h fun z => hi (List.mem_cons_of_mem _ z), List.getElem?_set_ne fun e => hi (by rw [e]; exact List.mem_cons_self)]
theorem bindTg_out {tg : Tg} {d : Dt} {sl sl' : Sl} {i : Nat} (h : bindTg tg d sl = some sl') (hi : i ∉ tg.ix) : sl'[i]? = sl[i]? := by
  cases tg with
  | one j =>
    simp only [bindTg, Option.some.injEq] at h
    subst h
    exact List.getElem?_set_ne fun e => hi (by simp [Tg.ix, e])
  | many is =>
    cases d with
    | tup ds => exact setAll_out h hi
    | _ => simp [bindTg] at h
section
variable {Ω : Type} {K : PySem.W.Frag} {W : Wd Ω} {B F F' G G' H H' : Hp} {w w' : Ω} {σ σ' : L2.St} {sl sl' : Sl} {D : Addr} {o o' : HO}
theorem SR.wipe (r : SR K W B F G H w σ sl) (vs : List Nat) : SR K W B F G H w (L2.wipe σ vs) (wipeD sl vs) := by
  refine ⟨r.hr, by rw [wipeD_len, wipe_length]; exact r.len, fun i x h => ?_, fun i j v l m h1 h2 h3 h4 => ?_⟩
  · obtain ⟨h1, h2⟩ := wipeD_in h
    rw [wipe_out h1]
    exact r.s i x h2
  · obtain ⟨a1, a2⟩ := wipeD_in h1
    obtain ⟨b1, b2⟩ := wipeD_in h2
    rw [wipe_out a1] at h3
    rw [wipe_out b1] at h4
    exact r.o i j v l m a2 b2 h3 h4
/-- a new object that others hold -/
theorem SR.addB (r : SR K W B F G H w σ sl) (hD : H D = none) : SR K W (upd B D o) F G (upd H D o) w σ sl := by
  have hF : F D = none := r.hr.f.free hD
  have hG : G D = none := r.hr.g.free hD
  refine ⟨⟨fun a x e => ?_, r.hr.f.trans (sameUpd hD), r.hr.g.trans (sameUpd hD), r.hr.d, r.hr.w, W.monoB _ _ (sameUpd (r.fresh hD).1) r.hr.k⟩, r.len, fun i x h => ?_, r.o⟩
  · by_cases ha : a = D
    · subst ha
      rw [upd_same] at e ⊢
      exact ⟨e, .inl hF, .inl hG⟩
    · rw [upd_ne ha] at e ⊢
      exact r.hr.b a x e
  · obtain ⟨v, h1, h2⟩ := r.s i x h
    refine ⟨v, h1, ?_⟩
    cases x with
    | dat d => exact h2
    | mine l =>
      obtain ⟨a, us, rfl, q1, q2, q3, q4, q5⟩ := h2
      have hn : a ≠ D := ne_of_none q4 hD
      exact ⟨a, us, rfl, by rw [upd_ne hn]; exact q1, q2, q3, by rw [upd_ne hn]; exact q4, q5⟩
theorem SR.bump (r : SR K W (upd B D o) F G H w σ sl) (ht : ¬ IsTp o) (hk : W.bk B) (hB : B D = none) : SR K W (upd B D o') F G (upd H D o') w σ sl := by
  obtain ⟨hH, hF, hG⟩ := r.hr.b D o upd_same
  have hF := hF.resolve_right ht
  have hG := hG.resolve_right ht
  refine ⟨⟨fun a x e => ?_, fun a x e => ?_, fun a x e => ?_, r.hr.d, r.hr.w, W.monoB _ _ (sameUpd hB) hk⟩, r.len, fun i x h => ?_, r.o⟩
  · by_cases ha : a = D
    · subst ha
      rw [upd_same] at e ⊢
      exact ⟨e, .inl hF, .inl hG⟩
    · rw [upd_ne ha] at e ⊢
      exact r.hr.b a x (by rw [upd_ne ha]; exact e)
  · rw [upd_ne (ne_of_none e hF)]
    exact r.hr.f _ _ e
  · rw [upd_ne (ne_of_none e hG)]
    exact r.hr.g _ _ e
  · obtain ⟨v, h1, h2⟩ := r.s i x h
    refine ⟨v, h1, ?_⟩
    cases x with
    | dat d => exact h2
    | mine l =>
      obtain ⟨a, us, rfl, q1, q2, q3, q4, q5⟩ := h2
      have hn : a ≠ D := fun z => by
        subst z
        rw [upd_same] at q1
        cases q1
      exact ⟨a, us, rfl, by rw [upd_ne hn] at q1 ⊢; exact q1, q2, q3, by rw [upd_ne hn]; exact q4, q5⟩
theorem SR.dropB (r : SR K W (upd B D o) F G H w σ sl) (hB : B D = none) (hk : W.bk B) : SR K W B F G H w σ sl := by
  refine ⟨⟨fun a x e => r.hr.b a x (by rw [upd_ne (ne_of_none e hB)]; exact e), r.hr.f, r.hr.g, r.hr.d, r.hr.w, hk⟩, r.len, fun i x h => ?_, r.o⟩
  obtain ⟨v, h1, h2⟩ := r.s i x h
  refine ⟨v, h1, ?_⟩
  cases x with
  | dat d => exact h2
  | mine l =>
    obtain ⟨a, us, rfl, q1, q2, q3, q4, q5⟩ := h2
    have hn : a ≠ D := fun z => by
      subst z
      rw [upd_same] at q1
      cases q1
    exact ⟨a, us, rfl, by rw [upd_ne hn] at q1; exact q1, q2, q3, q4, q5⟩
/-- back to other slots, that share the own lists -/
theorem SR.swap (r : SR K W B F G H w σ sl) (r' : SR K W B F' G' H' w' σ' sl') (e : Same F F') (ho : ∀ (i : Nat) (l : Ow), sl[i]? = some (some (.mine l)) → sl'[i]? = some (some (.mine l)) ∧ σ'[i]? = σ[i]?) : SR K W B F' G' H' w' σ sl := by
  refine ⟨r'.hr, r.len, fun i x h => ?_, r.o⟩
  obtain ⟨v, h1, h2⟩ := r.s i x h
  refine ⟨v, h1, ?_⟩
  cases x with
  | dat d => exact Dr.mono e h2
  | mine l =>
    obtain ⟨k1, k2⟩ := ho i l h
    obtain ⟨u, g1, g2⟩ := r'.s i _ k1
    rw [k2, h1] at g1
    cases g1
    exact g2
end
structure PDTs {Ω : Type} (X : Cx) (W : Wd Ω) (ifs : List Expr) (t : DT Ω) : Prop where
  run : PTs X ifs (lftT X.K W t)
  mono : ∀ sl w (C C' : Bool → Ω → Prop), (∀ d w', C d w' → C' d w') → t sl w C → t sl w C'
section
variable {Ω : Type} {X : Cx} {W : Wd Ω} {e c : Expr} {t : DT Ω} {pe : DE Ω} {pl : DL Ω}
theorem dts_nil : PDTs X W [] (wYes : DT Ω) := ⟨⟨fun pins s σ H Q I ⟨B, F, G, w, sl, r, z⟩ => pts_nil.run pins s σ H Q I (z F G H r (Same.refl F))⟩, fun sl w C C' hC z => hC _ _ z⟩
theorem dts_one (h : PDT X W c t) : PDTs X W [c] t := ⟨pts_one h.run, h.mono⟩
theorem imp_L (hm : ∀ sl w (C C' : List Dt → Ω → Prop), (∀ d w', C d w' → C' d w') → pl sl w C → pl sl w C') : ∀ σ H Q, lft X.K W (wL pl) σ H Q → lftL X.K W pl σ H Q := by
  intro σ H Q ⟨B, F, G, w, sl, r, k⟩
  refine ⟨B, F, G, w, sl, r, hm _ _ _ _ (fun l w' z a vs F' G' H' r' e' hB hn hH hF hG hD => ?_) k⟩
  have e2 : Same F' (upd F' a (.lst vs)) := sameUpd hF
  refine z (.ref a) (upd F' a (.lst vs)) G' H' (r'.to (r'.hr.frz hB hF hG hH) e2 fun i l' c us s1 s2 s3 s4 s5 s6 _ => ?_) (e'.trans e2) (.lst upd_same (hD.mono e2))
  have hne : c ≠ a := fun z => by
    subst z
    exact hn i l' s1 s2
  exact ⟨s3, by rw [upd_ne hne]; exact s5, s6⟩
theorem lc_mono {tg : Tg} {sl0 : Sl} (ht : ∀ sl w (C C' : Bool → Ω → Prop), (∀ d w', C d w' → C' d w') → t sl w C → t sl w C') (he : ∀ sl w (C C' : Dt → Fl → Ω → Prop), (∀ d fl w', C d fl w' → C' d fl w') → pe sl w C → pe sl w C') :
    ∀ (xs : List Dt) (w : Ω) (C C' : List Dt → Ω → Prop), (∀ d w', C d w' → C' d w') → lcLoop tg t pe sl0 xs w C → lcLoop tg t pe sl0 xs w C'
  | [], w, C, C', hC, z => hC _ _ z
  | x :: xs, w, C, C', hC, ⟨sl', z0, z⟩ => by
    refine ⟨sl', z0, ht _ _ _ _ (fun b w1 z => ?_) z⟩
    cases b with
    | true => exact he _ _ _ _ (fun d fl w2 ⟨z1, z2⟩ => ⟨z1, lc_mono ht he xs _ _ _ (fun r w3 => hC _ _) z2⟩) z
    | false => exact lc_mono ht he xs _ _ _ hC z
theorem imp_lc {it tgE elt : Expr} {ifs : List Expr} {scope : Scope} {own : List (Str × Nat)} {g : TG} {tg : Tg} {pit : DI Ω} (hi : PDI X W tgE it pit)
    (hg : ∀ (s : Shared) (H : Hp) (C : Addr) (cl : List (Str × Addr)) (fp : List Addr), PGD (X.blk s H scope (compEnvC scope cl C X.env) fp) tgE g tg)
    (ht : ∀ (s : Shared) (H : Hp) (C : Addr) (cl : List (Str × Addr)) (fp : List Addr), PDTs (X.blk s H scope (compEnvC scope cl C X.env) fp) W ifs t)
    (he : ∀ (s : Shared) (H : Hp) (C : Addr) (cl : List (Str × Addr)) (fp : List Addr), PD (X.blk s H scope (compEnvC scope cl C X.env) fp) W elt pe) (hx : ∀ i ∈ tg.ix, i ∈ own.map (·.2)) :
    ∀ σ H Q, lftL X.K W (wLc (own.map (·.2)) tg pit t pe) σ H Q → tLc (lftI X.K W pit) g (lftT X.K W t) (lft X.K W pe) (own.map (·.2)) σ H Q := by
  intro σ H Q ⟨B, F, G, w, sl, r, z⟩
  generalize hvs : own.map (·.2) = vs at z hx ⊢
  have hg0 := hg X.s_0 (fun _ => none) 0 [] []
  have ht0 := (ht X.s_0 (fun _ => none) 0 [] []).mono
  have he0 := (he X.s_0 (fun _ => none) 0 [] []).mono
  refine ⟨B, F, G, w, sl, r, hi.mono _ _ _ _ (fun xs w1 ⟨zn, zo, z⟩ J F1 G1 H1 r1 e1 hy D hD => ?_) z⟩
  have hB : B D = none := (r1.fresh hD).1
  refine ⟨fun i m H => m = xs.length - i ∧ i ≤ xs.length ∧ ∃ F' G' w' acc accd, SR X.K W (upd B D (.lst acc)) F' G' H w' σ sl ∧ Same F1 F' ∧ acc.length ≤ i ∧ DrL X.K F' acc accd ∧ lcLoop tg t pe (wipeD sl vs) (xs.drop i) w' fun l w' => ∀ a us F' G' H', SR X.K W B F' G' H' w' σ sl → Same F F' → B a = none → NoOwn σ sl a → H' a = some (.lst us) → F' a = none → G' a = none → DrL X.K F' us (accd ++ l) → Q (.ref a) H',
    ⟨xs.length, by simp, Nat.zero_le _, F1, G1, w1, [], [], r1.addB hD, Same.refl _, Nat.le_refl _, .nil, z⟩, ?_⟩
  rintro i m H' ⟨rfl, hi', F', G', w', acc, accd, r', e', hacc, hda, z'⟩
  by_cases hlt : i < xs.length
  · right
    have hd : xs[i]? = some xs[i] := List.getElem?_eq_getElem hlt
    obtain ⟨g1, g2⟩ := hy.go F' H' e' r'.hr.f i _ hd
    rw [List.drop_eq_getElem_cons hlt] at z'
    obtain ⟨sl2, b1, b2⟩ := z'
    refine ⟨g1, fun H2 => ∃ F' G' w' acc accd, SR X.K W (upd B D (.lst acc)) F' G' H2 w' σ sl ∧ Same F1 F' ∧ acc.length ≤ i + 1 ∧ DrL X.K F' acc accd ∧ lcLoop tg t pe (wipeD sl vs) (xs.drop (i + 1)) w' fun l w' => ∀ a us F' G' H', SR X.K W B F' G' H' w' σ sl → Same F F' → B a = none → NoOwn σ sl a → H' a = some (.lst us) → F' a = none → G' a = none → DrL X.K F' us (accd ++ l) → Q (.ref a) H',
      fun H2 k => ⟨xs.length - (i + 1), by omega, rfl, hlt, k⟩, fun x H2 y => ?_⟩
    obtain ⟨F2, ext⟩ := g2 x H2 y
    obtain ⟨r2, e2, k2⟩ := ext.use r'
    refine hg0.run (r2.wipe vs) k2 b1 fun σ3 r3 hw => ?_
    have hw3 : L2.wipe σ3 vs = L2.wipe σ vs := by
      rw [hw vs (by cases tg <;> exact hx)]
      exact wipe_idem σ vs
    refine ⟨hw3, ?_⟩
    have owns : ∀ (j : Nat) (l : Ow), sl[j]? = some (some (.mine l)) → sl2[j]? = some (some (.mine l)) ∧ σ3[j]? = σ[j]? := fun j l hj => by
      have hjv : j ∉ vs := fun hm => by
        have := List.all_eq_true.mp zo j hm
        rw [hj] at this
        cases this
      refine ⟨?_, ?_⟩
      · rw [bindTg_out b1 fun hm => hjv (hx j hm), wipeD_out hjv]
        exact hj
      · rw [← wipe_out (σ := σ3) hjv, hw3, wipe_out hjv]
    refine ⟨upd B D (.lst acc), F2, G', w', sl2, r3, ht0 _ _ _ _ (fun b w3 z3 F3 G3 H3 r4 e3 => ?_) b2⟩
    cases b with
    | false => exact ⟨F3, G3, w3, acc, accd, r2.swap r4 e3 owns, (e'.trans e2).trans e3, by omega, hda.mono (e2.trans e3), z3⟩
    | true =>
      refine ⟨upd B D (.lst acc), F3, G3, w3, sl2, r4, he0 _ _ _ _ (fun d fl w4 ⟨z4, z5⟩ v F4 G4 H4 r5 e4 f5 => ?_) z3⟩
      subst z4
      obtain ⟨q1, q2, q3⟩ := r5.hr.b D _ upd_same
      refine ⟨acc, q1, Nat.lt_of_le_of_lt hacc (Nat.lt_of_lt_of_le hlt zn), F4, G4, w4, acc ++ [v], accd ++ [d], (r2.swap r5 (e3.trans e4) owns).bump (fun z => nomatch z) r1.hr.k hB, ((e'.trans e2).trans e3).trans e4, ?_, ?_, ?_⟩
      · rw [List.length_append]
        exact Nat.add_le_add_right hacc 1
      · exact (hda.mono ((e2.trans e3).trans e4)).app (.cons f5 .nil)
      · refine lc_mono ht0 he0 _ _ _ _ (fun l w5 k a us F' G' H' k1 k2 k3 k4 k5 k6 k7 k8 => k a us F' G' H' k1 k2 k3 k4 k5 k6 k7 ?_) z5
        rw [List.append_assoc] at k8
        exact k8
  · left
    have e : i = xs.length := by omega
    subst e
    rw [List.drop_length] at z'
    obtain ⟨q1, q2, q3⟩ := r'.hr.b D _ upd_same
    have q2 := q2.resolve_right fun z => nomatch z
    have q3 := q3.resolve_right fun z => nomatch z
    refine ⟨hy.stop F' H' e' r'.hr.f, z' D acc F' G' H' (r'.dropB hB r1.hr.k) (e1.trans e') hB (r1.fresh hD).2 q1 q2 q3 ?_⟩
    rw [List.append_nil]
    exact hda
theorem mono_lc {it tgE : Expr} {vs : List Nat} {tg : Tg} {pit : DI Ω} (hi : PDI X W tgE it pit) (ht : ∀ sl w (C C' : Bool → Ω → Prop), (∀ d w', C d w' → C' d w') → t sl w C → t sl w C') (he : ∀ sl w (C C' : Dt → Fl → Ω → Prop), (∀ d fl w', C d fl w' → C' d fl w') → pe sl w C → pe sl w C') :
    ∀ sl w (C C' : List Dt → Ω → Prop), (∀ d w', C d w' → C' d w') → wLc vs tg pit t pe sl w C → wLc vs tg pit t pe sl w C' := fun sl w C C' hC z => hi.mono _ _ _ _ (fun xs w1 ⟨z0, z1, z2⟩ => ⟨z0, z1, lc_mono ht he _ _ _ _ hC z2⟩) z
theorem dl_lc {it tgE elt : Expr} {ifs : List Expr} {scope : Scope} (own : List (Str × Nat)) {g : TG} {tg : Tg} {pit : DI Ω} {pos : Pos} (hc : X.calm = true) (hN : X.N.Nodup) (ok : BlkOk X.N X.env.scope scope own) (hi : PDI X W tgE it pit)
    (hg : ∀ (s : Shared) (H : Hp) (C : Addr) (cl : List (Str × Addr)) (fp : List Addr), PGD (X.blk s H scope (compEnvC scope cl C X.env) fp) tgE g tg)
    (ht : ∀ (s : Shared) (H : Hp) (C : Addr) (cl : List (Str × Addr)) (fp : List Addr), PDTs (X.blk s H scope (compEnvC scope cl C X.env) fp) W ifs t)
    (he : ∀ (s : Shared) (H : Hp) (C : Addr) (cl : List (Str × Addr)) (fp : List Addr), PD (X.blk s H scope (compEnvC scope cl C X.env) fp) W elt pe) (hx : ∀ i ∈ tg.ix, i ∈ own.map (·.2)) (hs : ∀ x, foldedSetIterable it X.env x = pure x := by intro _; rfl) :
    PDL X W (.ListComp elt [⟨tgE, it, ifs, 0⟩] scope pos) (wLc (own.map (·.2)) tg pit t pe) :=
  ⟨pe_imp (pe_lc hc hN hi.run ok (fun s H C cl fp => (hg s H C cl fp).pg) (fun s H C cl fp => (ht s H C cl fp).run) (fun s H C cl fp => (he s H C cl fp).run) hs) (imp_lc hi hg ht he hx), mono_lc hi (ht X.s_0 (fun _ => none) 0 [] []).mono (he X.s_0 (fun _ => none) 0 [] []).mono⟩
section
variable {it tgE elt : Expr} {ifs : List Expr} {scope : Scope} {own : List (Str × Nat)} {g : TG} {tg : Tg} {pit : DI Ω} {pos spos py : Pos} {i : Nat} {y : Str}
theorem ps_lcE (hc : X.calm = true) (hN : X.N.Nodup) (hy : X.N[i]? = some y) (hyl : X.env.scope.names.lookup y = some .local)
    (hsw : swapsWith (.ListComp elt [⟨tgE, it, ifs, 0⟩] scope pos) (some (.Name y py)) spos.line X.env = pure true) (ok : BlkOk X.N X.env.scope scope own) (hi : PDI X W tgE it pit)
    (hg : ∀ (s : Shared) (H : Hp) (C : Addr) (cl : List (Str × Addr)) (fp : List Addr), PGD (X.blk s H scope (compEnvC scope cl C X.env) fp) tgE g tg)
    (ht : ∀ (s : Shared) (H : Hp) (C : Addr) (cl : List (Str × Addr)) (fp : List Addr), PDTs (X.blk s H scope (compEnvC scope cl C X.env) fp) W ifs t)
    (he : ∀ (s : Shared) (H : Hp) (C : Addr) (cl : List (Str × Addr)) (fp : List Addr), PD (X.blk s H scope (compEnvC scope cl C X.env) fp) W elt pe) (hs : ∀ x, foldedSetIterable it X.env x = pure x := by intro _; rfl) :
    PS X (.Assign [.Name y py] (.ListComp elt [⟨tgE, it, ifs, 0⟩] scope pos) spos) (tAsg (tLc (lftI X.K W pit) g (lftT X.K W t) (lft X.K W pe) (own.map (·.2))) (gName i)) :=
  ps_setLc hc hN hy hyl hsw hi.run ok (fun s H C cl fp => (hg s H C cl fp).pg) (fun s H C cl fp => (ht s H C cl fp).run) (fun s H C cl fp => (he s H C cl fp).run) hs
theorem ds_setLc (own : List (Str × Nat)) (hc : X.calm = true) (hN : X.N.Nodup) (hy : X.N[i]? = some y) (hyl : X.env.scope.names.lookup y = some .local)
    (hsw : swapsWith (.ListComp elt [⟨tgE, it, ifs, 0⟩] scope pos) (some (.Name y py)) spos.line X.env = pure true) (ok : BlkOk X.N X.env.scope scope own) (hi : PDI X W tgE it pit)
    (hg : ∀ (s : Shared) (H : Hp) (C : Addr) (cl : List (Str × Addr)) (fp : List Addr), PGD (X.blk s H scope (compEnvC scope cl C X.env) fp) tgE g tg)
    (ht : ∀ (s : Shared) (H : Hp) (C : Addr) (cl : List (Str × Addr)) (fp : List Addr), PDTs (X.blk s H scope (compEnvC scope cl C X.env) fp) W ifs t)
    (he : ∀ (s : Shared) (H : Hp) (C : Addr) (cl : List (Str × Addr)) (fp : List Addr), PD (X.blk s H scope (compEnvC scope cl C X.env) fp) W elt pe) (hx : ∀ i ∈ tg.ix, i ∈ own.map (·.2)) (hs : ∀ x, foldedSetIterable it X.env x = pure x := by intro _; rfl) :
    PDS X W (.Assign [.Name y py] (.ListComp elt [⟨tgE, it, ifs, 0⟩] scope pos) spos) (wSet i (wL (wLc (own.map (·.2)) tg pit t pe))) := by
  have hm := mono_lc (vs := own.map (·.2)) (tg := tg) hi (ht X.s_0 (fun _ => none) 0 [] []).mono (he X.s_0 (fun _ => none) 0 [] []).mono
  exact ⟨ps_imp (ps_lcE hc hN hy hyl hsw ok hi hg ht he hs) (imp_set (fun σ H Q z => imp_lc hi hg ht he hx σ H Q (imp_L hm σ H Q z)) fun sl w C C' hC z => hm _ _ _ _ (fun l w' => hC _ _ _) z), mono_set fun sl w C C' hC z => hm _ _ _ _ (fun l w' => hC _ _ _) z⟩
theorem ds_ownLc (own : List (Str × Nat)) (hc : X.calm = true) (hN : X.N.Nodup) (hy : X.N[i]? = some y) (hyl : X.env.scope.names.lookup y = some .local)
    (hsw : swapsWith (.ListComp elt [⟨tgE, it, ifs, 0⟩] scope pos) (some (.Name y py)) spos.line X.env = pure true) (ok : BlkOk X.N X.env.scope scope own) (hi : PDI X W tgE it pit)
    (hg : ∀ (s : Shared) (H : Hp) (C : Addr) (cl : List (Str × Addr)) (fp : List Addr), PGD (X.blk s H scope (compEnvC scope cl C X.env) fp) tgE g tg)
    (ht : ∀ (s : Shared) (H : Hp) (C : Addr) (cl : List (Str × Addr)) (fp : List Addr), PDTs (X.blk s H scope (compEnvC scope cl C X.env) fp) W ifs t)
    (he : ∀ (s : Shared) (H : Hp) (C : Addr) (cl : List (Str × Addr)) (fp : List Addr), PD (X.blk s H scope (compEnvC scope cl C X.env) fp) W elt pe) (hx : ∀ i ∈ tg.ix, i ∈ own.map (·.2)) (hs : ∀ x, foldedSetIterable it X.env x = pure x := by intro _; rfl) :
    PDS X W (.Assign [.Name y py] (.ListComp elt [⟨tgE, it, ifs, 0⟩] scope pos) spos) (wOwn i (wLc (own.map (·.2)) tg pit t pe)) := by
  have hm := mono_lc (vs := own.map (·.2)) (tg := tg) hi (ht X.s_0 (fun _ => none) 0 [] []).mono (he X.s_0 (fun _ => none) 0 [] []).mono
  exact ⟨ps_imp (ps_lcE hc hN hy hyl hsw ok hi hg ht he hs) (imp_own (fun σ H Q z => imp_lc hi hg ht he hx σ H Q z) hm), mono_own hm⟩
end
end
end Ck
namespace Ck
open PySem PySem.Spec PyProof.Rows L2

/-! ### isinstance, repr, list(range(..)) -/
section
variable {Ω : Type} {X : Cx} {W : Wd Ω} {e a b : Expr} {p pa pb : DE Ω} {pos : Pos}
def wIsi (T : String) (p : DE Ω) : DE Ω := fun sl w C => p sl w fun d _ w' => ∃ b, isTy T d = some b ∧ C (.bl b) .cl w'
theorem isTy_op {T : String} {u : V} : isTy T (.opq u) = none := by
  unfold isTy
  split <;> first | rfl | simp_all
theorem isTy_ins {T : String} {c : Addr} {ns : List Str} {l : List Dt} : isTy T (.ins c ns l) = none := by
  unfold isTy
  split <;> first | rfl | simp_all
theorem isTy_dic {T : String} {ks : List (List L2.Key)} {l : List Dt} : isTy T (.dic ks l) = none := by
  unfold isTy
  split <;> first | rfl | simp_all
theorem d_isi {T : String} {tn : Str} {p1 p2 : Pos} (hT : T ∈ ["int", "bool", "tuple", "str", "list"]) (hg : Gl X "isinstance") (hm : X.mg "isinstance" = none) (hgT : Gl X tn) (hmT : X.mg tn = none) (hbT : bootBuiltins tn = some (.type T)) (h : PD X W e p)
    (hb : bootBuiltins "isinstance" = some (.builtin "isinstance") := by decide +kernel) (hs : starEach (e :: [.Name tn p2]) X.env = (false, eval e X.env) :: starEach [.Name tn p2] X.env := by rfl)
    (hs2 : starEach (Expr.Name tn p2 :: []) X.env = (false, eval (.Name tn p2) X.env) :: starEach [] X.env := by rfl) (hpl : (backTo pos (starEach [Expr.Name tn p2] X.env)).any (·.1) = false := by rfl)
    (hn : tn ≠ "__name__" := by decide) (hd : (tn == ("__debug__" : Str)) = false := by decide) : PD X W (.Call (.Name "isinstance" p1) [e, .Name tn p2] [] pos) (wIsi T p) := by
  refine ⟨pe_imp (pe_callB call_isi hg hm hb (pa_cons h.run (pa_cons (pe_bltn hgT hmT hbT (v := .ty T) rfl hn hd) pa_nil hs2) hs) (by decide) (by decide) hs hpl) fun σ H Q ⟨B, F, G, w, sl, r, z⟩ => ?_,
    fun sl w C C' hC z => h.mono _ _ _ _ (fun d fl w1 ⟨b, z0, z1⟩ => ⟨b, z0, hC _ _ _ z1⟩) z⟩
  refine ⟨B, F, G, w, sl, r, h.mono _ _ _ _ (fun d fl w1 ⟨b, z0, z1⟩ v F1 G1 H1 r1 e1 f1 => ?_) z⟩
  have hd : ∀ u, d ≠ .opq u := fun u z => by
    subst z
    rw [isTy_op] at z0
    cases z0
  have hd2 : ∀ c ns l, d ≠ .ins c ns l := fun c ns l z => by
    subst z
    rw [isTy_ins] at z0
    cases z0
  have hd3 : ∀ ks l, d ≠ .dic ks l := fun ks l z => by
    subst z
    rw [isTy_dic] at z0
    cases z0
  exact ⟨v, .ty T, _, _, b, rfl, .ty T, (f1.da r1).ty r1.hr.f hd hd2 hd3, kit_ty T hT d b z0, z1 _ F1 G1 H1 r1 e1 (.bl b)⟩
end
/-! data as it is shown: an empty dict too -/
mutual
def Dt.pr : Dt → Option PyData
  | .non => some .none
  | .bl b => some (.bool b)
  | .int i => some (.int i)
  | .str x => some (.str x)
  | .tup l => (prL l).map .tuple
  | .lst l => (prL l).map .list
  | .emp => some (.dict [])
  | .opq _ => none
  | .dic _ _ => none
  | .ins _ _ _ => none
def prL : List Dt → Option (List PyData)
  | [] => some []
  | d :: l => (d.pr).bind fun p => (prL l).map fun r => p :: r
end
def fRepr : Dt → (Dt → Prop) → Prop := fun d C => ∃ p, d.pr = some p ∧ p.showable = true ∧ p.shown.length ≤ sizeLine ∧ p.depth ≤ 60 ∧ C (.str p.shown)
section
variable {X : Cx} {pins : List (Addr × Obj)} {σ : L2.St} {H : Hp} {s : Shared}
/-- the modules' own dict stands there from the beginning -/
def HasMods (base : Heap) : Prop := ∃ o, base.get? sysModules = some o
theorem noMods (hm : HasMods X.base) (I : Inv X pins σ H s) : H sysModules = none := by
  obtain ⟨o, ho⟩ := hm
  exact (I.bs _ _ ho).2
theorem ref_mods (hm : HasMods X.base) (I : Inv X pins σ H s) {a : Addr} {o : HO} (h : H a = some o) : sysModules ≠ a := fun z => by
  rw [← z, noMods hm I] at h
  cases h
mutual
theorem Dr.reads (hm : HasMods X.base) (I : Inv X pins σ H s) : ∀ (d : Dt) (p : PyData) (v : V) (u : Value), Dr X.K H v d → d.pr = some p → RelV v u → ∃ as, Reads s.heap u p as ∧ sysModules ∉ as
  | .non, p, _, _, h, e, r => by
    simp only [Dt.pr, Option.some.injEq] at e
    subst e
    cases h
    cases r
    exact ⟨_, Reads.none, by simp⟩
  | .bl b, p, _, _, h, e, r => by
    simp only [Dt.pr, Option.some.injEq] at e
    subst e
    cases h
    cases r
    exact ⟨_, Reads.bool b, by simp⟩
  | .int i, p, _, _, h, e, r => by
    simp only [Dt.pr, Option.some.injEq] at e
    subst e
    cases h
    obtain ⟨t, rfl⟩ := r
    exact ⟨_, Reads.int i t, by simp⟩
  | .str x, p, _, _, h, e, r => by
    simp only [Dt.pr, Option.some.injEq] at e
    subst e
    cases h
    obtain ⟨t, rfl⟩ := r
    exact ⟨_, Reads.str x t, by simp⟩
  | .lst l, p, _, _, h, e, r => by
    simp only [Dt.pr, Option.map_eq_some_iff] at e
    obtain ⟨ps, e1, rfl⟩ := e
    cases h with
    | lst hs ha =>
      cases r
      obtain ⟨its, rv, ⟨o, n, ho, hc, _, hd⟩, _⟩ := I.list (SqL.of hs)
      obtain ⟨as, hr, hn⟩ := DrL.reads hm I l ps _ its ha e1 rv
      refine ⟨_, Reads.list ho hc hd hr, ?_⟩
      rw [List.mem_cons, not_or]
      exact ⟨ref_mods hm I hs, hn⟩
  | .tup l, p, _, _, h, e, r => by
    simp only [Dt.pr, Option.map_eq_some_iff] at e
    obtain ⟨ps, e1, rfl⟩ := e
    cases h with
    | tup hs ha =>
      cases r
      obtain ⟨its, rv, ⟨o, ho, hc, n, hd⟩, _⟩ := I.tuple (SqT.of hs)
      obtain ⟨as, hr, hn⟩ := DrL.reads hm I l ps _ its ha e1 rv
      exact ⟨_, Reads.tuple ho hc hd hr, hn⟩
    | tupK hs =>
      cases r
      obtain ⟨its, rv, ⟨o, ho, hc, n, hd⟩, _⟩ := I.tuple (.inr hs)
      obtain ⟨as, hr, hn⟩ := DrL.reads hm I [] ps _ its .nil e1 rv
      exact ⟨_, Reads.tuple ho hc hd hr, hn⟩
  | .emp, p, _, _, h, e, r => by
    simp only [Dt.pr, Option.some.injEq] at e
    subst e
    cases h with
    | emp hs =>
      cases r
      obtain ⟨_, _, vs, kv, o, es, ep, ho, hx, hd, _, hps, _⟩ := dk_of I.hok hs
      cases kv
      have hes : es.toList = [] := by
        cases q : es.toList with
        | nil => rfl
        | cons y ys => rw [q] at hps; cases hps
      refine ⟨_, Reads.dict (kvs := []) ho hx.1 hd (by rw [hes]; exact .nil) (by rw [hes]; exact .nil), ?_⟩
      simp only [List.append_nil, List.mem_cons, List.not_mem_nil, or_false]
      exact ref_mods hm I hs
  | .opq _, p, _, _, _, e, _ => by simp only [Dt.pr] at e; cases e
  | .dic _ _, p, _, _, _, e, _ => by simp only [Dt.pr] at e; cases e
  | .ins _ _ _, p, _, _, _, e, _ => by simp only [Dt.pr] at e; cases e
theorem DrL.reads (hm : HasMods X.base) (I : Inv X pins σ H s) : ∀ (l : List Dt) (ps : List PyData) (vs : List V) (us : List Value), DrL X.K H vs l → prL l = some ps → Vals vs us → ∃ as, ReadsAll s.heap us ps as ∧ sysModules ∉ as
  | [], ps, _, _, h, e, r => by
    simp only [prL, Option.some.injEq] at e
    subst e
    cases h
    cases r
    exact ⟨_, ReadsAll.nil, by simp⟩
  | d :: l, ps, _, _, h, e, r => by
    simp only [prL, Option.bind_eq_some_iff, Option.map_eq_some_iff] at e
    obtain ⟨p, e1, qs, e2, rfl⟩ := e
    cases h with
    | cons h1 h2 =>
      cases r with
      | cons r1 r2 =>
        obtain ⟨as, q1, n1⟩ := Dr.reads hm I d p _ _ h1 e1 r1
        obtain ⟨bs, q2, n2⟩ := DrL.reads hm I l qs _ _ h2 e2 r2
        refine ⟨_, ReadsAll.cons q1 q2, ?_⟩
        rw [List.mem_append, not_or]
        exact ⟨n1, n2⟩
end
end
def rRepr (K : PySem.W.Frag) : List V → Hp → VK → Prop := fun xs H Q => ∃ v d p, xs = [v] ∧ Dr K H v d ∧ d.pr = some p ∧ p.showable = true ∧ p.shown.length ≤ sizeLine ∧ p.depth ≤ 60 ∧ Q (.str p.shown) H
theorem call_repr {X : Cx} (hm : HasMods X.base) (hgu : X.A.guards = some []) (hu : X.A.units + 64 < cLine) : CallR X (.builtin "repr") (rRepr X.K) := by
  intro pins s σ H xs us Q I r h
  obtain ⟨v, d, p, rfl, hd, hp, h1, h2, h3, q⟩ := h
  obtain ⟨u, rfl, ru⟩ := Vals.one r
  have fin : ∀ t, EP X pins σ Q (.str p.shown t) { s with toks := s.toks + 1 } := fun t => ⟨.str p.shown, H, I.tok _, ⟨_, rfl⟩, q⟩
  obtain ⟨as, hr, hsm⟩ := Dr.reads hm I d p v u hd hp ru
  have key : ∀ a, u = .ref a → wpAny (model X.prog X.w) X.A (call (.builtin "repr") [u]) (EP X pins σ Q) X.xe s := by
    rintro a rfl
    refine repr_of_reads' (h₀ := s.heap) hr h1 (fun z => hsm) hgu (by omega) (fun b o e => e) (fun h' u tk hk => ?_) h2
    exact ⟨.str p.shown, H, I.kept (t' := tk) hk, ⟨_, rfl⟩, q⟩
  cases hd with
  | non =>
    cases ru
    simp only [Dt.pr, Option.some.injEq] at hp
    subst hp
    exact PySem.P.repr_of_none (fin _)
  | bl b =>
    cases ru
    simp only [Dt.pr, Option.some.injEq] at hp
    subst hp
    exact PySem.P.repr_of_bool (fin _)
  | int i =>
    obtain ⟨t, rfl⟩ := ru
    simp only [Dt.pr, Option.some.injEq] at hp
    subst hp
    simp only [PyData.showable, decide_eq_true_eq] at h1
    exact PySem.P.repr_of_int h1 (fin _)
  | str x =>
    obtain ⟨t, rfl⟩ := ru
    simp only [Dt.pr, Option.some.injEq] at hp
    subst hp
    exact PySem.P.repr_of_str (fin _) h2
  | lst _ _ =>
    cases ru
    exact key _ rfl
  | tup _ _ =>
    cases ru
    exact key _ rfl
  | tupK _ =>
    cases ru
    exact key _ rfl
  | emp _ =>
    cases ru
    exact key _ rfl
  | opq _ => simp only [Dt.pr] at hp; cases hp
  | dic _ _ => simp only [Dt.pr] at hp; cases hp
  | ins _ _ _ => simp only [Dt.pr] at hp; cases hp
theorem fd_repr {K : PySem.W.Frag} : FnD K (rRepr K) fRepr := by
  refine ⟨fun F H xv x Q C e hx h q => ?_, fun x C C' hC ⟨p, h1, h2, h3, h4, h5⟩ => ⟨p, h1, h2, h3, h4, hC _ h5⟩⟩
  obtain ⟨p, h1, h2, h3, h4, h5⟩ := h
  exact ⟨xv, x, p, rfl, hx.now e, h1, h2, h3, h4, q _ _ F H h5 (.refl (.str _))⟩
section
variable {Ω : Type} {X : Cx} {W : Wd Ω} {e a b : Expr} {p pa pb : DE Ω} {pos : Pos}
def wLr1 (p : DE Ω) : DL Ω := fun sl w C => p sl w fun d _ w' => ∃ n, d = .int n ∧ RgOk 0 n ∧ C (rngD 0 n.toNat) w'
def wLr2 (pa pb : DE Ω) : DL Ω := fun sl w C => pa sl w fun d _ w1 => pb sl w1 fun e _ w2 => ∃ i j, d = .int i ∧ e = .int j ∧ RgOk i j ∧ C (rngD i (j - i).toNat) w2
theorem rgV_D {K : PySem.W.Frag} {F : Hp} (i j : Int) : DrL K F (rgV i j) (rngD i (j - i).toNat) := by
  unfold rgV rngD
  generalize List.range (j - i).toNat = l
  induction l with
  | nil => exact .nil
  | cons x l ih =>
    rw [List.map_cons, List.map_cons]
    exact .cons (.int _) ih
theorem dl_r1 {p1 p2 pos2 : Pos} (hc : X.calm = true) (hg : Gl X "list") (hm : X.mg "list" = none) (hg2 : Gl X "range") (hm2 : X.mg "range" = none) (h : PD X W a pa) (na : starEach [a] X.env = (false, eval a X.env) :: starEach [] X.env := by rfl)
    (na2 : starEach [Expr.Call (.Name "range" p2) [a] [] pos2] X.env = (false, eval (Expr.Call (.Name "range" p2) [a] [] pos2) X.env) :: starEach [] X.env := by rfl) : PDL X W (.Call (.Name "list" p1) [.Call (.Name "range" p2) [a] [] pos2] [] pos) (wLr1 pa) := by
  refine ⟨pe_imp (pe_listRg hc hg hm (prg_1 hg2 hm2 h.run na) na2) fun σ H Q ⟨B, F, G, w, sl, r, z⟩ => ?_, fun sl w C C' hC z => h.mono _ _ _ _ (fun d fl w1 ⟨n, z0, z1, z2⟩ => ⟨n, z0, z1, hC _ _ z2⟩) z⟩
  refine ⟨B, F, G, w, sl, r, h.mono _ _ _ _ (fun d fl w1 ⟨n, z0, z1, z2⟩ v F1 G1 H1 r1 e1 f1 => ?_) z⟩
  subst z0
  have := (f1.da r1).int
  subst this
  refine ⟨n, rfl, z1, fun q hq => z2 q _ F1 G1 _ (r1.newOwn hq) e1 (r1.fresh hq).1 (r1.fresh hq).2 upd_same (r1.hr.f.free hq) (r1.hr.g.free hq) ?_⟩
  have := rgV_D (K := X.K) (F := F1) 0 n
  rw [Int.sub_zero] at this
  exact this
theorem dl_r2 {p1 p2 pos2 : Pos} (hc : X.calm = true) (hg : Gl X "list") (hm : X.mg "list" = none) (hg2 : Gl X "range") (hm2 : X.mg "range" = none) (h : PD X W a pa) (h2 : PD X W b pb) (na : starEach [a, b] X.env = (false, eval a X.env) :: starEach [b] X.env := by rfl)
    (nb : starEach [b] X.env = (false, eval b X.env) :: starEach [] X.env := by rfl) (hpl : (backTo pos2 (starEach [b] X.env)).any (·.1) = false := by rfl)
    (na2 : starEach [Expr.Call (.Name "range" p2) [a, b] [] pos2] X.env = (false, eval (Expr.Call (.Name "range" p2) [a, b] [] pos2) X.env) :: starEach [] X.env := by rfl)
    (hrg : PRg X (.Call (.Name "range" p2) [a, b] [] pos2) (tRg2 (lft X.K W pa) (lft X.K W pb))) : PDL X W (.Call (.Name "list" p1) [.Call (.Name "range" p2) [a, b] [] pos2] [] pos) (wLr2 pa pb) := by
  refine ⟨pe_imp (pe_listRg hc hg hm hrg na2) fun σ H Q ⟨B, F, G, w, sl, r, z⟩ => ?_, fun sl w C C' hC z => h.mono _ _ _ _ (fun d fl w1 z => h2.mono _ _ _ _ (fun d2 fl2 w2 ⟨i, j, z0, z1, z2, z3⟩ => ⟨i, j, z0, z1, z2, hC _ _ z3⟩) z) z⟩
  refine ⟨B, F, G, w, sl, r, h.mono _ _ _ _ (fun d fl w1 z v F1 G1 H1 r1 e1 f1 => ?_) z⟩
  refine ⟨B, F1, G1, w1, sl, r1, h2.mono _ _ _ _ (fun d2 fl2 w2 ⟨i, j, z0, z1, z2, z3⟩ v2 F2 G2 H2 r2 e2 f2 => ?_) z⟩
  subst z0 z1
  have := ((f1.mono e2).da r2).int
  subst this
  have := (f2.da r2).int
  subst this
  exact ⟨i, j, rfl, rfl, z2, fun q hq => z3 q _ F2 G2 _ (r2.newOwn hq) (e1.trans e2) (r2.fresh hq).1 (r2.fresh hq).2 upd_same (r2.hr.f.free hq) (r2.hr.g.free hq) (rgV_D i j)⟩
end

/-! ### a def by its body, over data -/
def startD (n : Nat) (ds : List Dt) : Sl := ds.map (fun d => some (.dat d)) ++ List.replicate (n - ds.length) none
theorem start_ok {Ω : Type} {K : PySem.W.Frag} {W : Wd Ω} {B F G H : Hp} {w : Ω} {N : List Str} {vs : List V} {ds : List Dt} (h : HR W B F G H w) (d : DrL K F vs ds) : SR K W B F G H w (L2.start N vs) (startD N.length ds) := by
  have hl := d.len
  have get : ∀ (i : Nat) (x : Sv), (startD N.length ds)[i]? = some (some x) → ∃ e, ds[i]? = some e ∧ x = .dat e := fun i x q => by
    unfold startD at q
    rw [List.getElem?_append] at q
    split at q
    · rw [List.getElem?_map, Option.map_eq_some_iff] at q
      obtain ⟨e, h1, h2⟩ := q
      cases h2
      exact ⟨e, h1, rfl⟩
    · rw [List.getElem?_replicate] at q
      split at q <;> cases q
  refine ⟨h, ?_, fun i x q => ?_, fun i j v l m q => ?_⟩
  · unfold startD L2.start
    rw [List.length_append, List.length_map, List.length_replicate, List.length_append, List.length_map, List.length_replicate, hl]
  · obtain ⟨e, h1, rfl⟩ := get i x q
    obtain ⟨v, h2, h3⟩ := d.at h1
    refine ⟨v, ?_, h3⟩
    unfold L2.start
    have hi : i < vs.length := (List.getElem?_eq_some_iff.mp h2).1
    rw [List.getElem?_append_left (by rw [List.length_map]; exact hi), List.getElem?_map, h2]
    rfl
  · obtain ⟨e, _, h2⟩ := get i _ q
    cases h2
/-- THE RULE: a def of the text does what S says, if its body does so over data -/
theorem FnG.body {Ω : Type} {W : Wd Ω} {P : Program} {w : World} {K : PySem.W.Frag} {mg : Str → Option Value} {base : Heap} {CX : CXT} {k : Nat} {f : Addr} {fd : FuncData} {ps N : List Str} {x qual : Str} {st : Stmt} {S : Spc Ω}
    (F : L2.Fun K x qual st f fd) (sc : FnScope N ps (defScope st)) (len : ∀ ds w C, S.run ds w C → ds.length = ps.length)
    (hb : ∀ (cdv : Value) (A : Around) (outer : List Env) (s : Shared) (H : Hp) (E : XK), A.guards = some [] → Room k (A.deeper (envOfC qual (defScope st) s.heap.objs.size f cdv)) →
      ∃ p, PDB (cxOf CX P w K mg base N qual (defScope st) f cdv A outer s H E) W (defBody st) p ∧ ∀ ds w C, S.run ds w C → p { nx := fun _ w' => C .non w', rt := C, bk := fun _ _ => False, ct := fun _ _ => False } (startD N.length ds) w) :
    FnG P w K mg base CX (k + 1) f fd ps (spOf K W S) := by
  refine FnG.of F sc (fun vs H Q E h => ?_) fun cdv A outer s H vs Q E hgu hr h => ?_
  · obtain ⟨B, F', G, w', ds, h1, h2, h3⟩ := h
    rw [h2.len]
    exact len _ _ _ h3
  · obtain ⟨p, h1, h2⟩ := hb cdv A outer s H E hgu hr
    obtain ⟨B, F', G, w', ds, q1, q2, q3⟩ := h
    refine ⟨_, h1.run, B, F', G, w', _, start_ok q1 q2, h1.mono _ _ ?_ _ _ (h2 _ _ _ q3)⟩
    refine ⟨fun sl w z σ' F'' G' H' r e => ?_, fun d w z => z, fun _ _ z => z.elim, fun _ _ z => z.elim⟩
    exact z .non F'' G' H' r.hr e .non
end Ck
namespace Ck
open PySem PySem.Spec PyProof.Rows L2

/-! ### the end: the law's own call -/
section
variable {P : Program} {w : World} {K : PySem.W.Frag} {mg mb : Str → Option Value} {CX : CXT} {k : Nat} {fa a : Addr} {fd : FuncData} {x : Str} {sp : Sp} {s1 : Shared} {vs : List Value} {zs : List Int}
def EndOk (s1 : Shared) (r : Result) (s' : Shared) : Prop := r = .ok (.ret (.bool true)) ∧ OldK s1.heap s'.heap ∧ s'.os = s1.os ∧ AllBare s'.gens
/-- from an abstract heap that tracks at most the script -/
theorem call_core (KX : K.In s1.heap) (hns : s1.heap.Ns mainGlobals mg) (hb : s1.heap.Ns builtinsNs mb) (hbb : ∀ x : Str, x ≠ "__name__" → mb x = bootBuiltins x) (lim : s1.heap.NoLimit) (hg : s1.gens = #[])
    (ha : s1.heap.get? a = some ⟨.type "list", none, .seq vs.toArray 0, #[]⟩) (hr : Room k callerA)
    (hmod : ∃ mm, s1.heap.Ns sysModules mm) (F : ∀ base : Heap, K.In base → base.Ns mainGlobals mg → HasMods base → FnG P w K mg base CX k fa fd [x] sp) (hbind : ∀ (s : Shared) (u : Value), BindsTo s fd ⟨[u], []⟩ [(x, u)])
    (hCX : ∀ H e s', ¬ CX [] H s1 (fun _ _ _ => False) e s') (H : Hp) (hO : Only H) (hS : sp [.ref a] H (fun v _ => v = .bl true) fun _ _ _ => False) (ok : HOk P w H s1.heap) (hA : ∀ b, H b ≠ none → b = a) (hK : H a ≠ none → K.lookup a = none) :
    codeAny (model P w) callerA (.call (.ref fa) ⟨[.ref a], []⟩) (EndOk s1) s1 := by
  have stays : ∀ {b : Addr} {o : Obj}, s1.heap.get? b = some o → H b = none → (hidT s1.heap H).get? b = some o := fun e n => hidT_get e n
  have noDict : ∀ {b : Addr} {o : Obj} {es : Array DictEntry} {ep : Nat}, s1.heap.get? b = some o → o.data = .dict es ep → H b = none := by
    intro b o es ep e d
    cases q : H b with
    | none => rfl
    | some u =>
      obtain rfl := hA b (by rw [q]; simp)
      rw [ha] at e
      cases e
      cases d
  have nsT : ∀ {b : Addr} {m : Str → Option Value}, s1.heap.Ns b m → (hidT s1.heap H).Ns b m := by
    rintro b m ⟨o, es, ep, e, d, r⟩
    exact ⟨o, es, ep, stays e (noDict e d), d, r⟩
  have kT : K.In (hidT s1.heap H) := by
    intro b o e
    refine stays (KX b o e) ?_
    cases q : H b with
    | none => rfl
    | some u =>
      obtain rfl := hA b (by rw [q]; simp)
      rw [hK (by rw [q]; simp)] at e
      cases e
  have limT : (hidT s1.heap H).NoLimit := by
    obtain ⟨mc, h1, h2⟩ := lim
    exact ⟨mc, nsT h1, h2⟩
  have modT : HasMods (hidT s1.heap H) := by
    obtain ⟨mm, hm⟩ := hmod
    obtain ⟨o, _, _, e, _⟩ := nsT hm
    exact ⟨o, e⟩
  have e0 : Env0 P w K mg (hidT s1.heap H) callerA [] s1 H := by
    refine ⟨rfl, ⟨kT, nsT hns, ⟨mb, nsT hb, hbb⟩, limT⟩, fun b o e => of_hidT e, Nat.le_of_eq (hidT_size _ _), trivial, ?_, ok, .of_eq hg⟩
    intro b hb
    cases (show b ∈ ([] : List Addr) from hb)
  refine codeAny_mono ((F _ kT (nsT hns) modT).run callerA [] s1 H ⟨[.ref a], []⟩ [.ref a] [.ref a] _ _ rfl hr e0 (hbind s1 (.ref a)) (.cons rfl .nil) hS) ?_
  intro r s' h
  match r, h with
  | .error e, h => exact (hCX H e s' h).elim
  | .ok .next, h => exact h.elim
  | .ok .brk, h => exact h.elim
  | .ok .cont, h => exact h.elim
  | .ok (.ret u), h =>
    obtain ⟨v, H', os, bare, un, ok', rv, q⟩ := h
    obtain rfl : v = .bl true := q
    obtain rfl : u = Value.bool true := rv
    refine ⟨rfl, OldK.of_keep fun b o e => ?_, os, bare⟩
    cases q : H b with
    | none => exact un.keep b o e q (by intro z; cases (show b ∈ ([] : List Addr) from z)) (by simp)
    | some u =>
      rcases hO b with z | ⟨ob, ys, z⟩
      · rw [q] at z
        cases z
      · have z2 := un.frzs b ob _ z
        have e1 := (ok b _ z).1
        have e2 := (ok' b _ z2).1
        rw [e] at e1
        cases e1
        exact e2
theorem call_law (KX : K.In s1.heap) (hns : s1.heap.Ns mainGlobals mg) (hb : s1.heap.Ns builtinsNs mb) (hbb : ∀ x : Str, x ≠ "__name__" → mb x = bootBuiltins x) (lim : s1.heap.NoLimit) (hg : s1.gens = #[])
    (ha : s1.heap.get? a = some ⟨.type "list", none, .seq vs.toArray 0, #[]⟩) (hi : IntsAre vs zs) (hl : zs.length ≤ sizeLine) (hr : Room k callerA)
    (hmod : ∃ mm, s1.heap.Ns sysModules mm) (F : ∀ base : Heap, K.In base → base.Ns mainGlobals mg → HasMods base → FnG P w K mg base CX k fa fd [x] sp) (hbind : ∀ (s : Shared) (u : Value), BindsTo s fd ⟨[u], []⟩ [(x, u)])
    (hsp : ∀ H : Hp, Only H → SqL K H a (zs.map V.int) → sp [.ref a] H (fun v _ => v = .bl true) fun _ _ _ => False) (hCX : ∀ H e s', ¬ CX [] H s1 (fun _ _ _ => False) e s') :
    codeAny (model P w) callerA (.call (.ref fa) ⟨[.ref a], []⟩) (EndOk s1) s1 := by
  have rv := vals_ints hi
  have core := fun H hO hS => call_core (sp := sp) KX hns hb hbb lim hg ha hr hmod F hbind hCX H hO (hsp H hO hS)
  cases hk : K.lookup a with
  | some o =>
    have e := (KX a o hk).symm.trans ha
    cases e
    refine core (fun _ => none) (fun _ => .inl rfl) (.inr ⟨_, vs.toArray, _, hk, rfl, rfl, rfl, ?_, ?_⟩) ?_ (fun b z => absurd rfl z) fun z => absurd rfl z
    · rw [List.size_toArray, hi.length]
      exact hl
    · simpa using rv
    · intro b u z
      cases (show (none : Option HO) = some u from z)
  | none =>
    refine core (fun b => if b = a then some (.frz ⟨.type "list", none, .seq vs.toArray 0, #[]⟩ (.lst (zs.map V.int))) else none) ?_ (.inl (.inr ⟨⟨.type "list", none, .seq vs.toArray 0, #[]⟩, if_pos rfl⟩)) ?_ ?_ fun _ => hk
    · intro b
      by_cases h : b = a
      · exact .inr ⟨_, _, if_pos h⟩
      · exact .inl (if_neg h)
    · intro b u z
      by_cases h : b = a
      · subst h
        have z' := (if_pos rfl).symm.trans z
        cases z'
        exact ⟨ha, by rw [List.length_map]; exact hl, vs, _, rv, ha⟩
      · have z' := (if_neg h).symm.trans z
        cases z'
    · intro b z
      by_cases h : b = a
      · exact h
      · exact absurd (if_neg h) z
end
theorem walk_G {l : PySem.W.OpenLaw} {n k : Nat} {q : Program} {loose : List Str} {XP : (Str → Option Value) → Heap → Prop} {YP : World → Heap → Prop} {d : DefRec} {K : Params → PySem.W.Frag} {CX : World → CXT} {sp : World → Sp} {x : Str}
    (hseer : PyProof.Rows.importsNone q = true) (hn : l.most = some n) (hn2 : n ≤ sizeLine) (hdf : d.params.defaults = []) (hr : Room k callerA) (hY : ∀ (w : World) (h : Heap), YP w h → (K w.params).In h)
    (F : ∀ (w : World) (mg : Str → Option Value) (fa : Addr) (h : Heap), (K w.params).In h → h.Ns mainGlobals mg → mg d.name = some (.ref fa) →
      ∃ fd : FuncData, (∀ (s : Shared) (u : Value), BindsTo s fd ⟨[u], []⟩ [(x, u)]) ∧ ∀ base : Heap, (K w.params).In base → base.Ns mainGlobals mg → HasMods base → FnG l.prog w (K w.params) mg base (CX w) k fa fd [x] (sp w))
    (hsp : ∀ (w : World) (H : Hp) (a : Addr) (zs : List Int), zs.length ≤ n → (∀ z ∈ zs, Builtin.Int.intBits z ≤ 1048576) → Only H → SqL (K w.params) H a (zs.map V.int) → sp w [.ref a] H (fun v _ => v = .bl true) fun _ _ _ => False)
    (hCX : ∀ (w : World) (H : Hp) (s : Shared) (e : Value) (s' : Shared), ¬ CX w [] H s (fun _ _ _ => False) e s') : PySem.W.WalkO q loose XP YP l.row.toRowW d [] (fun f vs => PySem.call f vs) := by
  refine Att.attach_callB hn hdf ?_
  intro w s0 s1 mg mb fa o pm cd doc a vs zs G Y ho hd hcd hmg hobj hints hlen hbits hg
  have KX := hY w _ Y
  obtain ⟨fd, hb, hF⟩ := F w mg fa _ KX G.T.g hmg
  refine call_law KX G.T.g G.T.b G.T.builtins G.T.nolimit hg hobj hints (Nat.le_trans hlen hn2) hr (let ⟨mm, hm, _⟩ := (G.T.seer hseer).mods; ⟨mm, hm⟩) hF hb (fun H hO hS => ?_) (fun H e s' => hCX w H s1 e s')
  exact hsp w H a zs hlen hbits hO hS

/-! ### a block that is reached in several ways -/
theorem pss_ex {X : Cx} {sts : List Stmt} {ι : Type} {t : ι → TS} (h : ∀ i, PSs X sts (t i)) : PSs X sts (fun D σ H => ∃ i, t i D σ H) := ⟨fun pins s σ H D I ⟨i, z⟩ => (h i).run pins s σ H D I z⟩

/-! ### the deck of draws -/
structure Dw where
  p : Addr
  n : Nat
structure DeckAt (G : Hp) (p c r : Addr) (cells rests : List Int) (t : Int) : Prop where
  hp : G p = some (.lst [.ref c, .int t, .ref r])
  hc : G c = some (.lst (cells.map V.int))
  hr : G r = some (.lst (rests.map V.int))
  pc : p ≠ c
  pr : p ≠ r
  cr : c ≠ r
  len : rests.length = cells.length
  pos : 0 < cells.length
  few : cells.length ≤ 63
def DeckW : Wd Dw where
  ok := fun w _ G => ∃ c r cells rests t, DeckAt G w.p c r cells rests t ∧ 0 ≤ t ∧ t + (w.n : Int) ≤ 2 ^ 40
  bk := fun _ => True
  monoF := fun _ _ _ _ _ h => h
  monoB := fun _ _ _ h => h
/-- a number drawn below another one -/
def sDraw : Spc Dw where
  run ds w C := ∃ n : Int, ds = [.opq (.ref w.p), .int n] ∧ 0 < n ∧ n < 2 ^ 60 ∧ 1 ≤ w.n ∧ ∀ (i : Int) (m : Nat), 0 ≤ i → i < n → w.n ≤ m + 1 → C (.int i) ⟨w.p, m⟩
  mono := fun ds w C C' hC ⟨n, h1, h2, h3, h4, h5⟩ => ⟨n, h1, h2, h3, h4, fun i m a b c => hC _ _ (h5 i m a b c)⟩
end Ck
namespace Ck
open PySem PySem.Spec PyProof.Rows L2
/-- a world of which nothing is asked -/
def Wd.all : Wd Unit := ⟨fun _ _ _ => True, fun _ => True, fun _ _ _ _ _ _ => trivial, fun _ _ _ _ => trivial⟩
/-- one of the world's own objects changes -/
theorem HR.setG {Ω Ω' : Type} {W : Wd Ω} {W' : Wd Ω'} {B F G H : Hp} {w : Ω} {w' : Ω'} {a : Addr} {o o' : HO} (r : HR W B F G H w) (h : G a = some o) (ht : ¬ IsTp o) (hw : W'.ok w' F (upd G a o')) (hk : W'.bk B) : HR W' B F (upd G a o') (upd H a o') w' := by
  have hB : B a = none := by
    cases q : B a with
    | none => rfl
    | some u =>
      have h1 := r.b a u q
      have h2 := r.g a o h
      rw [h1.1] at h2
      cases h2
      have := h1.2.2.resolve_right ht
      rw [h] at this
      cases this
  have hF : F a = none := by
    cases q : F a with
    | none => rfl
    | some u =>
      have h1 := r.f a u q
      have h2 := r.g a o h
      rw [h1] at h2
      cases h2
      have := (r.d a _ q).resolve_right ht
      rw [h] at this
      cases this
  refine ⟨fun b x e => ?_, fun b x e => ?_, fun b x e => ?_, fun b x e => ?_, hw, hk⟩
  · obtain ⟨h1, h2, h3⟩ := r.b b x e
    have hn : b ≠ a := ne_of_none e hB
    rw [upd_ne hn, upd_ne hn]
    exact ⟨h1, h2, h3⟩
  · rw [upd_ne (ne_of_none e hF)]
    exact r.f _ _ e
  · by_cases hb : b = a
    · subst hb
      rw [upd_same] at e ⊢
      exact e
    · rw [upd_ne hb] at e ⊢
      exact r.g _ _ e
  · rw [upd_ne (ne_of_none e hF)]
    exact r.d _ _ e
end Ck
namespace Ck
open PySem PySem.Spec PyProof.Rows L2

/-! ### defs that others call -/
structure Callee {Ω : Type} (P : Program) (w : World) (K : PySem.W.Frag) (mg : Str → Option Value) (base : Heap) (k : Nat) (x : Str) (ps : List Str) (W : Wd Ω) (S : Spc Ω) : Prop where
  ex : ∃ (f : Addr) (fd : FuncData), FnG P w K mg base CX0 k f fd ps (spOf K W S) ∧ mg x = some (.ref f) ∧ PySem.W.keepIn K (.ref f) = true ∧ Binds K fd ps []
structure Has (K : PySem.W.Frag) (mg : Str → Option Value) (x : Str) (st : Stmt) : Prop where
  ex : ∃ (f : Addr) (fd : FuncData), L2.Fun K x x st f fd ∧ mg x = some (.ref f)
theorem has_mk {K : PySem.W.Frag} {mg : Str → Option Value} {h : Heap} {x : Str} {st : Stmt} {f : Addr} {od an : Option Addr} {sl : Array (Option Value)} {oc kV dc pm cd ct : Value} (X : K.In h) (G : h.Ns mainGlobals mg)
    (a : PySem.W.nsIn K mainGlobals x = some (some (.ref f))) (l : K.lookup f = some ⟨oc, od, .func (PySem.W.fnOf x x (defArgs st) (defBody st) (defScope st) .none kV dc pm an cd ct), sl⟩) (c : PySem.W.codeIn K cd x = true) (k : PySem.W.keepIn K (.ref f) = true) : Has K mg x st :=
  ⟨f, _, L2.fun_mk l c k, PySem.W.mg_of X G a⟩
theorem PDB.nox {Ω : Type} {X : Cx} {W : Wd Ω} {sts : List Stmt} {p : DS Ω} (h : PDB X.nox W sts p) : PDB X W sts p := ⟨PSs.nox (X := X) h.run, h.mono⟩
section
variable {Ω : Type} {P : Program} {w : World} {K : PySem.W.Frag} {mg : Str → Option Value} {base : Heap} {k : Nat} {x : Str} {ps N : List Str} {W : Wd Ω} {S : Spc Ω} {st : Stmt} {p : DS Ω}
def endD (C : Dt → Ω → Prop) : DD Ω := { nx := fun _ w' => C .non w', rt := C, bk := fun _ _ => False, ct := fun _ _ => False }
theorem Callee.mk' (h : Has K mg x st) (sc : FnScope N ps (defScope st))
    (hbd : ∀ (kV doc pm : Value) (an : Option Addr) (cdv ct : Value) (us : List Value), us.length = ps.length → bindArgs (PySem.W.fnOf x x (defArgs st) (defBody st) (defScope st) .none kV doc pm an cdv ct) ⟨us, []⟩ = pure (ps.zip us))
    (len : ∀ ds w C, S.run ds w C → ds.length = ps.length)
    (hb : ∀ (f : Addr) (cdv : Value) (A : Around) (outer : List Env) (s : Shared) (H : Hp) (E : XK), A.guards = some [] → Room k (A.deeper (envOfC x (defScope st) s.heap.objs.size f cdv)) →
      PDB (cxOf CX0 P w K mg base N x (defScope st) f cdv A outer s H E).nox W (defBody st) p)
    (m : ∀ ds w C, S.run ds w C → p (endD C) (startD N.length ds) w) : Callee P w K mg base (k + 1) x ps W S := by
  obtain ⟨f, fd, F, hm⟩ := h.ex
  exact ⟨f, fd, FnG.body F sc len fun cdv A outer s H E hgu hr => ⟨p, (hb f cdv A outer s H E hgu hr).nox, m⟩, hm, F.kp, F.binds hbd⟩
end
section
variable {Ω : Type} {X : Cx} {W : Wd Ω} {e a b : Expr} {es : List Expr} {S : Spc Ω} {pa : DL Ω} {p : DE Ω} {x : Str} {q pos : Pos} {k j : Nat} {ps : List Str}
theorem d_calle (c : Callee X.prog X.w X.K X.mg X.base j x ps W S) (hgu : X.A.guards = some []) (hr : Room k X.A) (hjk : j ≤ k) (hg : Gl X x) (ha : PDA X W (e :: es) pa) (hdb : (x == ("__debug__" : Str)) = false := by decide)
    (he : starEach (e :: es) X.env = (false, eval e X.env) :: starEach es X.env := by rfl) (hpl : (backTo pos (starEach es X.env)).any (·.1) = false := by rfl) : PD X W (.Call (.Name x q) (e :: es) [] pos) (wCall S pa) := by
  have pass : Passes CX0 X E0 := pass0
  have H := c.ex
  constructor
  · constructor
    intro pins s σ H0 Q I z
    obtain ⟨f, fd, g, hm, hk, hb⟩ := H
    exact (d_call g hgu (hr.mono hjk) hg hm hk hb pass ha hdb he hpl).run.run pins s σ H0 Q I z
  · intro sl w C C' hC z
    exact ha.mono _ _ _ _ (fun ds w1 z1 => S.mono _ _ _ _ (fun d w2 => hC _ _ _) z1) z
def wNeg (p : DE Ω) : DE Ω := fun sl w C => p sl w fun d _ w' => ∃ i, d = .int i ∧ C (.int (-i)) .cl w'
theorem d_neg (h : PD X W e p) : PD X W (.UnaryOp .USub e pos) (wNeg p) := by
  refine ⟨pe_imp (pe_un un_neg h.run) fun σ H Q ⟨B, F, G, w, sl, r, z⟩ => ?_, fun sl w C C' hC z => h.mono _ _ _ _ (fun d fl w1 ⟨i, z0, z1⟩ => ⟨i, z0, hC _ _ _ z1⟩) z⟩
  refine ⟨B, F, G, w, sl, r, h.mono _ _ _ _ (fun d fl w1 ⟨i, z0, z1⟩ v F1 G1 H1 r1 e1 f1 => ?_) z⟩
  subst z0
  have := (f1.da r1).int
  subst this
  exact ⟨i, rfl, z1 _ F1 G1 H1 r1 e1 (.int _)⟩
theorem d_gint {v : Int} (hg : Gl X x) (h : ∃ t, X.mg x = some (.int v t)) (hdb : (x == ("__debug__" : Str)) = false := by decide) : PD X W (.Name x pos) (wC (.int v)) := by
  constructor
  · constructor
    intro pins s σ H Q I z
    obtain ⟨t, hm⟩ := h
    exact (d_glob (W := W) (d := .int v) hg hm (r := ⟨t, rfl⟩) (v := .int v) (fun _ => .int v) hdb).run.run pins s σ H Q I z
  · intro sl w C C' hC z
    exact hC _ _ _ z
end

/-! ### forms of what a def does -/
/-- data alone: arguments by a label i, where it is asked for, what comes back -/
def pureS {Ω : Type} {ι : Type} (args : ι → List Dt) (ok : ι → Prop) (res : ι → Dt) : Spc Ω where
  run ds w C := ∃ i, ds = args i ∧ ok i ∧ C (res i) w
  mono := fun ds w C C' hC ⟨i, h1, h2, h3⟩ => ⟨i, h1, h2, hC _ _ h3⟩
/-- with draws: the deck first; at most so many draws; one of some answers -/
def drawS {ι : Type} (args : ι → List Dt) (ok : ι → Prop) (cost : ι → Nat) (post : ι → Dt → Prop) : Spc Dw where
  run ds w C := ∃ i, ds = .opq (.ref w.p) :: args i ∧ ok i ∧ cost i ≤ w.n ∧ ∀ d m, post i d → w.n ≤ m + cost i → C d ⟨w.p, m⟩
  mono := fun ds w C C' hC ⟨i, h1, h2, h3, h4⟩ => ⟨i, h1, h2, h3, fun d m a b => hC _ _ (h4 d m a b)⟩
end Ck
namespace Ck
open PySem PySem.Spec PyProof.Rows L2

/-! ### set(xs) of a list of ints -/
abbrev fset (w : World) : Obj := { cls := .type "set", dict := none, data := .set #[] 0 (.fresh 0 0 (!w.params.followText "set-order")) }
section
variable {P : Program} {w : World} {A : Around} {E : Value → Shared → Prop} {s : Shared}
set_option maxHeartbeats 8000000 in
theorem set_of_ints {l : Addr} {items : Array Value} (ns : List Int) {Q : Value → Shared → Prop} (hh : A.handled = none) (hl : s.heap.IsList l items) (hit : IntsAre items.toList ns) (hb : ns.length + 1 < scanBound)
    (h : ∀ (h' : Heap) (tk c : Nat), SetR w h' s.heap.objs.size (fun j => decide (j ∈ ns)) c → c ≤ ns.length → (∀ b o, s.heap.get? b = some o → h'.get? b = some o) → Q (.ref s.heap.objs.size) { s with heap := h', toks := tk }) : wpAny (model P w) A (call (.type "set") [.ref l]) Q E s := by
  have nI : items.size = ns.length := by
    have q := IntsAre.length hit
    rwa [Array.length_toList] at q
  obtain ⟨c0, tl0, m0⟩ := F.called_set.mro
  have a1 := F.called_set.made
  have a2 := F.called_set.sub
  refine wpAny_call (codeAny_of_tree ?_)
  show wpAny _ _ (callAny (.type "set") _) _ _ _
  refine wpAny_pure ⟨Code.quiet_builtin _ (by decide +kernel), codeAny_builtin F.entry_type_call ?_⟩
  rw [Around.under_plain (weight_type_call_type "set" [.ref l] []) rfl]
  have a3 := F.called_set.notType
  have a4 := F.called_set.canCreate
  have a5 := F.typeCall_set_1 (.ref l)
  repeat (any_goals (first | assumption | wp_step))
  refine codeAny_mono (code_set_led1 (.ref l) (E := E) (Q₁ := fun obj s₁ => obj = .ref s.heap.objs.size ∧ s₁ = { s with heap := s.heap.push (fset w) }) ⟨rfl, rfl⟩) fun r s₁ hr => ?_
  cases r with
  | error e => exact hr
  | ok fl =>
    cases fl with
    | ret obj =>
      obtain ⟨rfl, rfl⟩ := hr
      have hS : (s.heap.push (fset w)).get? s.heap.objs.size = some (fset w) := Heap.get?_push_size _ rfl
      have hT : Shared.TypeIs { s with heap := s.heap.push (fset w) } (.ref s.heap.objs.size) "set" := ⟨_, hS, rfl⟩
      have b1 := F.called_set.init.lookup
      have b2 := F.called_set.init.bind (.ref s.heap.objs.size)
      repeat (any_goals (first | assumption | wp_step))
      refine codeAny_mono (codeAny_call_builtin (R := wants (fun r s₂ => r = .none ∧ ∃ h' tk c, s₂ = { s with heap := h', toks := tk } ∧ SetR w h' s.heap.objs.size (fun j => decide (j ∈ ns)) c ∧ c ≤ ns.length ∧
          (∀ b o, s.heap.get? b = some o → h'.get? b = some o)) E) F.called_set.init.plain F.entry_set_init (check_set_init_1 hT ?_)) fun r₂ s₂ hr₂ => ?_
      · obtain ⟨ol, hol, hcl, nl, hdl⟩ := hl
        obtain ⟨ocls, odict, odata, oslots⟩ := ol
        simp only at hcl hdl
        subst hcl; subst hdl
        have hol' : (s.heap.push (fset w)).get? l = some { cls := .type "list", dict := odict, data := .seq items nl, slots := oslots } := Heap.get?_push_of_some _ hol
        have c1 := F.sub_list_set
        have c2 := F.sub_list_frozenset
        have c3 : (Value.type "list" == Value.type "dict") = false := by decide
        have hl1 : (s.heap.push (fset w)).IsList l items := ⟨_, hol', rfl, nl, rfl⟩
        unfold Builtin.«set.__init__» noKeywords Builtin.Frozenset.updateFrom
        generalize hPI : pyIter = PI
        wp_walk
        subst hPI
        refine wpAny_pyIter_list hl1 ?_
        refine wpAny_bind (wpAny_runValue ?_)
        have hlS : l < s.heap.objs.size := Heap.lt_size hol
        have hh3 : A.in1.in1.in1.handled = none := by simp [hh]
        have hneI : l ≠ (s.heap.push (fset w)).objs.size := by
          rw [Heap.size_push]; exact Nat.ne_of_lt (Nat.lt_succ_of_lt hlS)
        have hSf : s.heap.objs.size ∉ [(s.heap.push (fset w)).objs.size, l] := by
          rw [Heap.size_push]
          simp only [List.mem_cons, List.not_mem_nil, or_false, not_or]
          exact ⟨Nat.ne_of_lt (Nat.lt_succ_self _), Nat.ne_of_gt hlS⟩
        have hval : ∀ (i : Nat) (v : Value), items[i]? = some v → ∃ k t, ns[i]? = some k ∧ v = .int k t := fun i v hv => by
          have hi : i < ns.length := by rw [← nI]; exact (Array.getElem?_eq_some_iff.mp hv).1
          obtain ⟨t, e⟩ := PyProof.Rows.IntsAre.int_at hit i v (by rw [Array.getElem?_toList]; exact hv)
          refine ⟨ns[i], t, List.getElem?_eq_getElem hi, ?_⟩
          rw [e, List.getD_eq_getElem?_getD, List.getElem?_eq_getElem hi] <;> rfl
        refine set_update_ints ((Walks.list hh3 _ l hneI items).toS) s.heap.objs.size hSf ns nI hb hval (items.size - 0) 0 _ (by omega) (Nat.zero_le _) ⟨⟨_, Heap.get?_push_size _ rfl, rfl, rfl⟩, (hl1.push _)⟩ ?hS0 ?hR
        case hS0 => exact ⟨0, Nat.le_refl 0, setR_new_at (Heap.get?_push_of_some _ hS)⟩
        case hR =>
          intro s' c' hm hc' hS'
          obtain ⟨h', g2, d', tk', os'⟩ := s'
          have eg : g2 = s.gens := hm.gens
          have ed : d' = s.drawn := hm.drawn
          have eo : os' = s.os := hm.os
          subst eg; subst ed; subst eo
          show wpAny _ _ _ _ _ _
          refine wpAny_pure ?_
          show wpAny _ _ (ret Value.none) _ _ _
          rw [nI] at hc'
          refine wpAny_pure ⟨rfl, h', tk', c', rfl, hS', hc', fun b o e => ?_⟩
          have hb0 : b < s.heap.objs.size := Heap.lt_size e
          refine hm.heap b o ?_ (Heap.get?_push_of_some _ (Heap.get?_push_of_some _ e))
          simp only [List.mem_cons, List.not_mem_nil, or_false, not_or]
          refine ⟨Nat.ne_of_lt hb0, ?_⟩
          show b ≠ (s.heap.push (fset w)).objs.size
          rw [Heap.size_push]
          exact Nat.ne_of_lt (Nat.lt_succ_of_lt hb0)
      · cases r₂ with
        | error e => exact hr₂
        | ok fl₂ =>
          cases fl₂ with
          | ret r =>
            obtain ⟨rfl, h', tk, c', rfl, hS', hc', hk'⟩ := hr₂
            repeat (any_goals (first | assumption | wp_step))
            exact h _ _ _ hS' hc' hk'
          | _ => exact hr₂.elim
    | _ => exact hr.elim
end

/-! ### sorted(set(xs)) -/
def tSortSet (K : PySem.W.Frag) (ta : TE) : TE := fun σ H Q => ta σ H fun x H1 => ∃ (l : Addr) (ns ms : List Int), x = V.ref l ∧ SqL K H1 l (ns.map V.int) ∧ ns.length + 1 < scanBound ∧ ms.length < 64 ∧ (∀ k ∈ ns, k ∈ ms) ∧
  ∀ (us : List Int) (p : Addr), us.Pairwise (· < ·) → (∀ k : Int, k ∈ us ↔ k ∈ ns) → H1 p = none → Q (.ref p) (upd H1 p (.lst (us.map V.int)))
theorem nodup_le {α : Type} [BEq α] [LawfulBEq α] : ∀ {l m : List α}, l.Nodup → (∀ k ∈ l, k ∈ m) → l.length ≤ m.length
  | [], _, _, _ => Nat.zero_le _
  | a :: l, m, h, hs => by
    have ha : a ∈ m := hs a List.mem_cons_self
    have hn := List.nodup_cons.mp h
    have ih := nodup_le (l := l) (m := m.erase a) hn.2 fun k hk => by
      have hne : k ≠ a := fun z => hn.1 (z ▸ hk)
      exact (List.mem_erase_of_ne hne).mpr (hs k (List.mem_cons_of_mem _ hk))
    rw [List.length_erase_of_mem ha] at ih
    have := List.length_pos_of_mem ha
    rw [List.length_cons]
    omega
theorem setR_count {w : World} {h : Heap} {a : Addr} {S : Int → Bool} {c : Nat} {ms : List Int} (R : SetR w h a S c) (hm : ∀ k, S k = true → k ∈ ms) : c ≤ ms.length := by
  obtain ⟨o, es, ep, t, _, _, _, _, nd, hmem, _, _, hn, _⟩ := R
  have q := nodup_le nd fun k hk => hm k ((hmem k).mpr hk)
  rw [List.length_map, Array.length_toList] at q
  omega
theorem boot_set' : bootBuiltins "set" = some (.type "set") := by decide +kernel
theorem boot_sorted' : bootBuiltins "sorted" = some (.builtin "sorted") := by decide +kernel
theorem ints_of {ns : List Int} {us : List Value} (h : Vals (ns.map V.int) us) : IntsAre us ns := by
  induction ns generalizing us with
  | nil => cases h; exact .nil
  | cons n ns ih =>
    cases h with
    | cons r t =>
      obtain ⟨k, rfl⟩ := r
      exact .cons n k (ih t)
theorem pe_sortSet {X : Cx} {a : Expr} {ta : TE} {p p2 q pos : Pos} (hg : Gl X "sorted") (hm : X.mg "sorted" = none) (hg2 : Gl X "set") (hm2 : X.mg "set" = none) (ha : PE X a ta) (hc : X.calm = true := by rfl)
    (na : starEach [a] X.env = (false, eval a X.env) :: starEach [] X.env := by rfl) (na2 : starEach [.Call (.Name "set" p2) [a] [] q] X.env = (false, eval (.Call (.Name "set" p2) [a] [] q) X.env) :: starEach [] X.env := by rfl) :
    PE X (.Call (.Name "sorted" p) [.Call (.Name "set" p2) [a] [] q] [] pos) (tSortSet X.K ta) := by
  refine ⟨fun pins s σ H Q I h => ?_⟩
  refine Call_ (ld_blt I hg hm boot_sorted' ?_)
  refine PyProof.Rows.callWith_builtin1 (PyProof.Rows.args_cons ?_ na2) rfl rfl
  refine Call_ (ld_blt I hg2 hm2 boot_set' ?_)
  refine PyProof.Rows.callWith_type1 (PyProof.Rows.args_cons (thn (ha.run pins s σ H _ I h) fun v s1 ⟨x, H1, I1, r1, q1⟩ => PyProof.Rows.args_nil ?_) na) na rfl
  obtain ⟨l, ns, ms, rfl, hq, hl, hml, hms, q1⟩ := q1
  cases r1
  obtain ⟨its, r, pl, hz⟩ := I1.list hq
  have hlen : its.length = ns.length := by rw [← r.length, List.length_map]
  refine set_of_ints ns (I1.ok.hd hc) pl.isList (by simpa using ints_of r) hl fun h' tk c R hcn hk => ?_
  refine PyProof.Rows.args_nil ?_
  have hcm : c ≤ ms.length := setR_count R fun k hk => hms k (of_decide_eq_true hk)
  have I2 : Inv X pins σ H1 { s1 with heap := h', toks := tk } := I1.kept hk
  refine sorted_set (s := { s1 with heap := h', toks := tk }) R (I2.ok.hd hc) (by omega) fun s' p out c' us k g o hp hgt hi hs hmm hll => ?_
  have hus : (us.map V.int).length ≤ sizeLine := by rw [List.length_map, hll, sizeLine_eq]; omega
  have hn : H1 p = none := I2.hok.fresh hp
  have J : Inv X pins σ (upd H1 p (.lst (us.map V.int))) { ({ s1 with heap := h', toks := tk } : Shared) with heap := s'.heap, gens := s'.gens, drawn := s'.drawn, toks := s'.toks } :=
    I2.call (ch := []) (Un.laid k hp hn) (I2.hok.laid k hp ⟨hus, out.toList, c', vals_of_ints hi, hgt⟩) (by rw [g]; exact I2.bare) (fun _ z => nomatch z)
  have e : s' = { s1 with heap := s'.heap, gens := s'.gens, drawn := s'.drawn, toks := s'.toks } := by
    cases s'
    cases s1
    cases o
    rfl
  rw [e]
  exact ⟨.ref p, _, J, rfl, q1 us p hs (fun k => by rw [hmm k]; simp) hn⟩
section
variable {Ω : Type} {X : Cx} {W : Wd Ω} {a : Expr} {p : DE Ω}
def wSortSet (p : DE Ω) : DL Ω := fun sl w C => p sl w fun d _ w' => ∃ ns ms : List Int, d = .lst (ns.map .int) ∧ ns.length ≤ 4000 ∧ ms.length < 64 ∧ (∀ k ∈ ns, k ∈ ms) ∧
  ∀ us : List Int, us.Pairwise (· < ·) → (∀ k, k ∈ us ↔ k ∈ ns) → C (us.map .int) w'
theorem dl_sortSet {p1 p2 q pos : Pos} (hg : Gl X "sorted") (hm : X.mg "sorted" = none) (hg2 : Gl X "set") (hm2 : X.mg "set" = none) (ha : PD X W a p) (hc : X.calm = true := by rfl)
    (na : starEach [a] X.env = (false, eval a X.env) :: starEach [] X.env := by rfl) (na2 : starEach [.Call (.Name "set" p2) [a] [] q] X.env = (false, eval (.Call (.Name "set" p2) [a] [] q) X.env) :: starEach [] X.env := by rfl) :
    PDL X W (.Call (.Name "sorted" p1) [.Call (.Name "set" p2) [a] [] q] [] pos) (wSortSet p) := by
  refine ⟨pe_imp (pe_sortSet hg hm hg2 hm2 ha.run hc na na2) fun σ H Q ⟨B, F, G, w, sl, r, z⟩ => ?_, fun sl w C C' hC z => ha.mono _ _ _ _ (fun d fl w1 ⟨ns, ms, z1, z2, z3, z4, z5⟩ => ⟨ns, ms, z1, z2, z3, z4, fun us u1 u2 => hC _ _ (z5 us u1 u2)⟩) z⟩
  refine ⟨B, F, G, w, sl, r, ha.mono _ _ _ _ (fun d fl w1 ⟨ns, ms, z1, z2, z3, z4, z5⟩ v F1 G1 H1 r1 e1 f1 => ?_) z⟩
  subst z1
  obtain ⟨c, vs, rfl, hH, hD⟩ := (f1.da r1).lst r1.hr.f
  have ev := hD.ints
  subst ev
  refine ⟨c, ns, ms, rfl, SqL.of hH, by unfold scanBound; omega, z3, z4, fun us q hs hk hn => ?_⟩
  exact z5 us hs hk q _ F1 G1 _ (r1.newOwn hn) e1 (r1.fresh hn).1 (r1.fresh hn).2 upd_same (r1.hr.f.free hn) (r1.hr.g.free hn) (DrL.ofInts us)
end
end Ck
namespace Ck
open PySem PySem.Spec PyProof.Rows L2

/-! ### t[::-1] of a tuple -/
section
variable {prog : Program} {w : World} {A : Around} {E : Value → Shared → Prop} {s : Shared}
theorem slice_rev {sl : Addr} {vs : Value} {n : Nat} {Q : Int × Int × Nat → Shared → Prop} (hs : s.heap.IsSliceOf sl .none .none vs) (ps : IsPart vs (some (-1))) (h : Q ((n : Int) - 1, -1, n) s) : wpAny (model prog w) A (Builtin.Slice.sliceApplied (.ref sl) (pure (n : Int))) Q E s := by
  obtain ⟨os, hos, hcs, hds⟩ := id hs
  unfold Builtin.Slice.sliceApplied Builtin.Slice.sliceFields
  refine wpAny_bind (wpAny_bind (wpAny_field hos hds (x := .none) rfl (wpAny_bind (wpAny_field hos hds (x := .none) rfl (wpAny_bind (wpAny_field hos hds (x := vs) rfl (wpAny_pure ?_)))))))
  refine wpAny_bind (HT.slicePart_ ps ?_)
  show wpAny _ _ (if ((-1 : Int) == 0) = true then _ else _) _ _ s
  rw [if_neg (by decide)]
  refine wpAny_bind (PyProof.Rows.slicePart_none (wpAny_bind (PyProof.Rows.slicePart_none (wpAny_bind (wpAny_pure ?_)))))
  have e1 : Builtin.Slice.sliceAdjust none none (-1) (n : Int) = ((n : Int) - 1, -1) := by
    unfold Builtin.Slice.sliceAdjust
    simp
  have e2 : Builtin.Slice.slicePlaces ((n : Int) - 1) (-1) (-1) = n := by
    unfold Builtin.Slice.slicePlaces
    simp
    omega
  show wpAny _ _ (match Builtin.Slice.sliceAdjust none none (-1) (n : Int) with | (lo, hi) => pure (lo, (-1 : Int), Builtin.Slice.slicePlaces lo hi (-1))) _ _ s
  rw [e1]
  show wpAny _ _ (pure ((n : Int) - 1, (-1 : Int), Builtin.Slice.slicePlaces ((n : Int) - 1) (-1) (-1))) _ _ s
  rw [e2]
  exact wpAny_pure h
theorem pick_rev {α : Type} (xs : Array α) : ((List.range xs.size).filterMap fun (m : Nat) => xs[((xs.size : Int) - 1 + (m : Int) * (-1)).toNat]?) = xs.toList.reverse := by
  have e : (fun (m : Nat) => xs[((xs.size : Int) - 1 + (m : Int) * (-1)).toNat]?) = (fun x => xs[x]?) ∘ fun m => xs.size - 1 - m := by
    funext m
    show xs[((xs.size : Int) - 1 + (m : Int) * (-1)).toNat]? = xs[xs.size - 1 - m]?
    congr 1
    omega
  rw [e, ← List.filterMap_map, PySem.W.krv_range, List.filterMap_reverse, PySem.W.krv_all]
theorem getItem_tuple_rev {t sl : Addr} {items : Array Value} {vs : Value} {Q : Value → Shared → Prop} (ht : IsTup s.heap t items) (hs : s.heap.IsSliceOf sl .none .none vs) (ps : IsPart vs (some (-1)))
    (h : Q (.ref s.heap.objs.size) { s with heap := s.heap.push { cls := .type "tuple", data := .seq items.toList.reverse.toArray } }) (hsz : items.size ≤ sizeLine) : wpAny (model prog w) A (getItem (.ref t) (.ref sl)) Q E s := by
  have hok : sizeOk (.seq items.toList.reverse.toArray) := by
    show items.toList.reverse.toArray.size ≤ sizeLine
    rw [List.size_toArray, List.length_reverse, Array.length_toList]
    exact hsz
  obtain ⟨os, hos, hcs, hds⟩ := id hs
  have hTs : s.TypeIs (.ref sl) "slice" := ⟨os, hos, hcs⟩
  unfold getItem
  try with_reducible refine wpAny_holding ?_
  first | refine wpAny_bind (wpAny_pure ?_) | skip
  refine wpAny_bind (wpAny_sequenceKey ht.typeIs (by decide) ?_)
  refine wpAny_bind (wpAny_callSpecial?_slot (name := Str.ofString "__getitem__") ht.typeIs PyProof.Rows.slot_tuple_getitem (wpAny_call_entry PyProof.Rows.slot_tuple_getitem ht.typeIs PyProof.Rows.entry_tuple_getitem ?_ (PyProof.Rows.args_tuple_getitem _ _)))
  show wpAny _ _ (Builtin.Tuple.tupleItemsOf (.ref t) >>= _) _ _ s
  refine wpAny_bind (PyProof.Rows.tupleItemsOf_ ht ?_)
  refine wpAny_bind (wpAny_typeOf hTs ?_)
  rw [if_pos (by decide)]
  refine wpAny_bind (slice_rev hs ps ?_)
  have hno : ¬ (((items.size : Int) - 1 == 0 && (-1 : Int) == 1 && items.size == items.size) = true) := by
    rw [show ((-1 : Int) == 1) = false by decide, Bool.and_false, Bool.false_and]
    exact Bool.false_ne_true
  show wpAny _ _ (if (((items.size : Int) - 1 == 0 && (-1 : Int) == 1 && items.size == items.size) = true) then _ else _) _ _ s
  rw [if_neg hno, pick_rev]
  first
    | exact wpAny_bind (m := Builtin.Tuple.tupleExact _) (wpAny_newObj_type (wpAny_pure ⟨_, rfl, wpAny_pure h⟩) hok)
    | exact wpAny_bind (m := Builtin.Tuple.tupleExact _) (wpAny_newObj_type (wpAny_bind (wpAny_pure (wpAny_pure ⟨_, rfl, wpAny_pure h⟩))) hok)
    | exact wpAny_bind (wpAny_bind (m := Builtin.Tuple.tupleExact _) (wpAny_newObj_type (wpAny_pure (wpAny_pure ⟨_, rfl, wpAny_pure h⟩)) hok))
    | exact wpAny_bind (wpAny_bind (m := Builtin.Tuple.tupleExact _) (wpAny_newObj_type (wpAny_pure ⟨_, rfl, wpAny_pure h⟩) hok))
end
def tRevT (K : PySem.W.Frag) (te : TE) : TE := fun σ H Q => te σ H fun x H1 => ∃ a xs, x = .ref a ∧ SqT K H1 a xs ∧ ∀ p, H1 p = none → Q (.ref p) (upd H1 p (.tup xs.reverse))
theorem pe_revT {X : Cx} {e : Expr} {te : TE} {k : Nat} {p1 p2 p3 pos : Pos} (he : PE X e te) : PE X (.Subscript e (.Slice none none (some (.UnaryOp .USub (.Constant (.int 1) k p1) p2)) p3) pos) (tRevT X.K te) := by
  refine ⟨fun pins s σ H Q I h => ?_⟩
  refine Subscript_ (thn (he.run pins s σ H _ I h) fun v s1 ⟨x, H1, I1, r1, q1⟩ => ?_)
  obtain ⟨a, xs, ex, hx, q⟩ := q1
  subst ex
  cases r1
  have hst : PO X (some (.UnaryOp .USub (.Constant (.int 1) k p1) p2)) (tPart (tUn (rU fun i => .int (-i)) (tC (.int 1)))) := po_some (pe_un un_neg pe_int)
  refine wpAny_Slice (thn (po_none.run pins s1 σ H1 (fun o H2 => o = none ∧ H2 = H1) I1 ⟨rfl, rfl⟩) fun vl s2 ⟨l, H2, I2, pl, el, e2⟩ => ?_)
  subst el e2
  refine thn (po_none.run pins s2 σ H2 (fun o H3 => o = none ∧ H3 = H2) I2 ⟨rfl, rfl⟩) fun vu s3 ⟨u, H3, I3, pu, eu, e3⟩ => ?_
  subst eu e3
  refine thn (hst.run pins s3 σ H3 (fun o H4 => o = some (-1) ∧ H4 = H3) I3 ⟨1, rfl, -1, rfl, rfl, rfl⟩) fun vs s4 ⟨o, H4, I4, ps, eo, e4⟩ => ?_
  subst eo e4
  cases pl
  cases pu
  have I5 : Inv X pins σ H4 { s4 with heap := s4.heap.push { cls := .type "slice", data := .fields #[.none, .none, vs] } } := I4.kept (t' := s4.toks) fun b ob q => Heap.get?_push_of_some _ q
  obtain ⟨its, r, ht, hz⟩ := I5.tuple hx
  have hlen := r.length
  show wpAny (model X.prog X.w) X.A (subscriptTail e (.Slice none none (some (.UnaryOp .USub (.Constant (.int 1) k p1) p2)) p3) (.ref a) (.ref s4.heap.objs.size)) (EP X pins σ Q) X.xe { s4 with heap := s4.heap.push { cls := .type "slice", data := .fields #[.none, .none, vs] } }
  refine tail_any (ops := [.ref a, .ref s4.heap.objs.size]) ht.typeIs (PyProof.Rows.slot_tuple_getitem.lookup) ?_ (by with_unfolding_all rfl)
  refine getItem_tuple_rev ht (Heap.IsSliceOf.new _ .none .none vs) ps ?_ (by rw [List.size_toArray]; omega)
  refine ⟨.ref _, _, I5.laid (t' := s4.toks) (o := .tup xs.reverse) (fun b ob q => Heap.get?_push_of_some _ q) (Nat.le_refl _) ?_, rfl, q _ (I5.hok.fresh (Nat.le_refl _))⟩
  exact ⟨by rw [List.length_reverse]; exact hz, its.reverse, r.reverse, ⟨_, Heap.get?_push_size _ rfl, rfl, _, rfl⟩⟩
section
variable {Ω : Type} {X : Cx} {W : Wd Ω} {a : Expr} {p : DE Ω} {k : Nat} {p1 p2 p3 pos : Pos}
def wRevL (p : DE Ω) : DL Ω := fun sl w C => p sl w fun d _ w' => ∃ l, d = .lst l ∧ C l.reverse w'
def wRevT (p : DE Ω) : DE Ω := fun sl w C => p sl w fun d _ w' => ∃ l, d = .tup l ∧ C (.tup l.reverse) .cl w'
theorem dl_revL (ha : PD X W a p) : PDL X W (.Subscript a (.Slice none none (some (.UnaryOp .USub (.Constant (.int 1) k p1) p2)) p3) pos) (wRevL p) := by
  refine ⟨pe_imp (pe_revL ha.run) fun σ H Q ⟨B, F, G, w, sl, r, z⟩ => ?_, fun sl w C C' hC z => ha.mono _ _ _ _ (fun d fl w1 ⟨l, z1, z2⟩ => ⟨l, z1, hC _ _ z2⟩) z⟩
  refine ⟨B, F, G, w, sl, r, ha.mono _ _ _ _ (fun d fl w1 ⟨l, z1, z2⟩ v F1 G1 H1 r1 e1 f1 => ?_) z⟩
  subst z1
  obtain ⟨c, vs, rfl, hH, hD⟩ := (f1.da r1).lst r1.hr.f
  refine ⟨c, vs, rfl, SqL.of hH, fun q hn => ?_⟩
  exact z2 q vs.reverse F1 G1 _ (r1.newOwn hn) e1 (r1.fresh hn).1 (r1.fresh hn).2 upd_same (r1.hr.f.free hn) (r1.hr.g.free hn) hD.rev
theorem d_revT (ha : PD X W a p) : PD X W (.Subscript a (.Slice none none (some (.UnaryOp .USub (.Constant (.int 1) k p1) p2)) p3) pos) (wRevT p) := by
  refine ⟨pe_imp (pe_revT ha.run) fun σ H Q ⟨B, F, G, w, sl, r, z⟩ => ?_, fun sl w C C' hC z => ha.mono _ _ _ _ (fun d fl w1 ⟨l, z1, z2⟩ => ⟨l, z1, hC _ _ _ z2⟩) z⟩
  refine ⟨B, F, G, w, sl, r, ha.mono _ _ _ _ (fun d fl w1 ⟨l, z1, z2⟩ v F1 G1 H1 r1 e1 f1 => ?_) z⟩
  subst z1
  obtain ⟨c, vs, rfl, hT, hD⟩ := (f1.da r1).tup
  refine ⟨c, vs, rfl, sameSeqT r1.hr.f hT, fun q hn => ?_⟩
  have e2 : Same F1 (upd F1 q (.tup vs.reverse)) := sameUpd (r1.hr.f.free hn)
  exact z2 (.ref q) _ G1 _ (r1.new hn) (e1.trans e2) (.tup upd_same (hD.rev.mono e2))
end

/-! ### list(zip(xs, ys)) -/
def ZS (h : Heap) (a b z TI TO i1 i2 S : Addr) (i : Nat) : Prop := (∃ o, h.get? TO = some o) ∧ IsPair h TI (.ref i1) (.ref i2) ∧ h.IsListIter i1 a i ∧ h.IsListIter i2 b i ∧
  ((IsZip h z TI TO .none ∧ ∃ x y, IsPair h TO x y) ∨ ∃ T f oT, IsZipHeld h z TI TO T f ∧ h.get? T = some oT ∧ T ≠ z ∧ T ≠ i1 ∧ T ≠ i2 ∧ T ≠ S)
theorem ZS.keep {h h' : Heap} {a b z TI TO i1 i2 S : Addr} {i : Nat} (x : ZS h a b z TI TO i1 i2 S i) (hz : z ≠ S) (hTI : TI ≠ S) (hTO : TO ≠ S) (h1 : i1 ≠ S) (h2 : i2 ≠ S) (k : ∀ c o, c ≠ S → h.get? c = some o → h'.get? c = some o) : ZS h' a b z TI TO i1 i2 S i := by
  obtain ⟨⟨o0, p0⟩, p1, p2, p3, p4⟩ := x
  refine ⟨⟨o0, k _ _ hTO p0⟩, k _ _ hTI p1, p2.at fun o e => k _ o h1 e, p3.at fun o e => k _ o h2 e, ?_⟩
  rcases p4 with ⟨q1, x, y, q2⟩ | ⟨T, f, oT, q1, q2, q3, q4, q5, q6⟩
  · exact .inl ⟨k _ _ hz q1, x, y, k _ _ hTO q2⟩
  · exact .inr ⟨T, f, oT, k _ _ hz q1, k _ _ q6 q2, q3, q4, q5, q6⟩
/-- the pairs at ts -/
def Prs (H : Hp) (xs ys : List V) (ts : List Addr) : Prop := ∀ (j : Nat) (t : Addr), ts[j]? = some t → ∃ x y, xs[j]? = some x ∧ ys[j]? = some y ∧ H t = some (.tup [x, y])
theorem zip_drain {H₀ : Hp} {X : Cx} {pins : List (Addr × Obj)} {σ : L2.St} {A : Around} (hh : A.handled = none) {a b z TI TO i1 i2 S : Addr} (D : ZipApart z TI TO i1 i2 a b) (hzS : ∀ c ∈ [z, TI, TO, i1, i2], c ≠ S) {xs ys : List V} {R : Result → Shared → Prop} (res : Value)
    (hR : ∀ s' H' ts, Inv X pins σ H' s' → H' S = some (.lst (ts.map V.ref)) → ts.length = min xs.length ys.length → Prs H' xs ys ts → (∀ c o, c ≠ S → H₀ c = some o → H' c = some o) → (∀ t ∈ ts, H₀ t = none ∧ t ≠ S) → R (.ok (.ret res)) s') :
    ∀ (k i : Nat) (s : Shared) (H : Hp) (ts : List Addr), min xs.length ys.length - i = k → i ≤ min xs.length ys.length → Inv X pins σ H s → (∀ c ∈ [z, TI, TO, i1, i2], FpOk X pins H c) → ZS s.heap a b z TI TO i1 i2 S i →
      SqL X.K H a xs → SqL X.K H b ys → a ≠ S → b ≠ S → H S = some (.lst (ts.map V.ref)) → ts.length = i → Prs H xs ys ts → (∀ c o, c ≠ S → H₀ c = some o → H c = some o) → (∀ t ∈ ts, H₀ t = none ∧ t ≠ S) →
      codeAny (model X.prog X.w) A (.builtin "list.extend.loop" ⟨[.ref S, .ref z, res], []⟩) R s := by
  have seqKeep : ∀ {H H' : Hp} {c : Addr} {us : List V}, SqL X.K H c us → (∀ d o, d ≠ S → H d = some o → H' d = some o) → c ≠ S → SqL X.K H' c us := fun {H H' c us} h k hc => by
    rcases h with (h | ⟨o, h⟩) | h
    · exact .inl (.inl (k _ _ hc h))
    · exact .inl (.inr ⟨o, k _ _ hc h⟩)
    · exact .inr h
  intro k
  induction k with
  | zero =>
    intro i s H ts hk hi I hf st hqx hqy ha hb hS hts hp h0 hw
    refine codeAny_builtin PySem.F.entry_extend_loop ?_
    rw [Around.under_plainId PySem.F.plain_extend_loop _]
    show wpAny _ A.in1 (pyNext (.ref z) >>= _) _ _ s
    obtain ⟨⟨oO, hO⟩, hTI, h1, h2, h4⟩ := st
    obtain ⟨its, rv, p, _⟩ := I.list hqx
    obtain ⟨its2, rv2, p2, _⟩ := I.list hqy
    have l1 := rv.length
    have l2 := rv2.length
    have hend : its.toArray[i]? = none ∨ its2.toArray[i]? = none := by
      rcases Nat.le_total xs.length ys.length with q | q
      · exact .inl (by simp; omega)
      · exact .inr (by simp; omega)
    have fin : ∀ h', (∀ c o, c ≠ z → c ≠ TO → c ≠ i1 → c ≠ i2 → s.heap.get? c = some o → h'.get? c = some o) → R (.ok (.ret res)) { s with heap := h' } := fun h' hk' => by
      have I2 : Inv X pins σ H { s with heap := h' } := I.turnedL (t' := s.toks) (ch := [z, TI, TO, i1, i2]) (fun c o hb q => hk' c o (fun q' => hb (by simp [q'])) (fun q' => hb (by simp [q'])) (fun q' => hb (by simp [q'])) (fun q' => hb (by simp [q'])) q) hf
      exact hR _ H ts I2 hS (by omega) hp h0 hw
    refine wpAny_bind ?_
    rcases h4 with ⟨q1, x, y, q2⟩ | ⟨T, f, oT, q1, q2, q3, q4, q5, q6⟩
    · exact wpAny_pyNext_zip_end hh D q1 hTI q2 h1 h2 p.isList p2.isList hend fun h' hk' => wpAny_pure (fin h' hk')
    · exact wpAny_pyNext_zip_end_held hh D q1 q2 hTI h1 h2 p.isList p2.isList hend fun h' hk' => wpAny_pure (fin h' fun c o c1 c2 c3 c4 => hk' c o c1 c3 c4)
  | succ k ih =>
    intro i s H ts hk hi I hf st hqx hqy ha hb hS hts hp h0 hw
    refine codeAny_builtin PySem.F.entry_extend_loop ?_
    rw [Around.under_plainId PySem.F.plain_extend_loop _]
    show wpAny _ A.in1 (pyNext (.ref z) >>= _) _ _ s
    obtain ⟨⟨oO, hO⟩, hTI, h1, h2, h4⟩ := st
    obtain ⟨its, rv, p, _⟩ := I.list hqx
    obtain ⟨its2, rv2, p2, _⟩ := I.list hqy
    have hx : xs[i]? = some (xs[i]'(by omega)) := List.getElem?_eq_getElem (by omega)
    have hy : ys[i]? = some (ys[i]'(by omega)) := List.getElem?_eq_getElem (by omega)
    obtain ⟨u, hu, ru⟩ := rv.get hx
    obtain ⟨u2, hu2, ru2⟩ := rv2.get hy
    have lt : ∀ {c o}, s.heap.get? c = some o → s.heap.objs.size ≠ c := fun e => Nat.ne_of_gt (Heap.lt_size e)
    have n1 : s.heap.objs.size ≠ i1 := let ⟨_, e, _⟩ := h1; lt e
    have n2 : s.heap.objs.size ≠ i2 := let ⟨_, e, _⟩ := h2; lt e
    have nz : s.heap.objs.size ≠ z := by
      rcases h4 with ⟨q1, _⟩ | ⟨T, f, oT, q1, _⟩
      · exact lt q1
      · exact lt q1
    have nS : s.heap.objs.size ≠ S := by
      obtain ⟨_, its0, n0, _, _, e0⟩ := I.lstM hS
      exact lt e0
    have hn : H s.heap.objs.size = none := I.hok.fresh (Nat.le_refl _)
    have step : ∀ h', IsPair h' s.heap.objs.size u u2 → (∀ c o, c ≠ z → c ≠ TO → c ≠ i1 → c ≠ i2 → s.heap.get? c = some o → h'.get? c = some o) → ZS h' a b z TI TO i1 i2 S (i + 1) →
        wpAny (model X.prog X.w) A.in1 (updateSeq S (·.push (.ref s.heap.objs.size)) >>= fun _ => again (.builtin "list.extend.loop" ⟨[.ref S, .ref z, res], []⟩)) (fun fin s' => match fin with | .done f => R (.ok f) s' | .again c' => c'.quiet = true ∧ codeAny (model X.prog X.w) A c' R s') (fun e s' => R (.error e) s') { s with heap := h' } := fun h' hT hk' st' => by
      have new : ObjOk X.prog X.w (upd H s.heap.objs.size (.tup [xs[i]'(by omega), ys[i]'(by omega)])) h' s.heap.objs.size (.tup [xs[i]'(by omega), ys[i]'(by omega)]) :=
        ⟨by show 2 ≤ sizeLine; decide, [u, u2], .cons ru (.cons ru2 .nil), ⟨_, hT, rfl, _, rfl⟩⟩
      have I1 : Inv X pins σ (upd H s.heap.objs.size (.tup [xs[i]'(by omega), ys[i]'(by omega)])) { s with heap := h' } :=
        I.turnedNew (t' := s.toks) (ch := [z, TI, TO, i1, i2]) (fun c o hb q => hk' c o (fun q' => hb (by simp [q'])) (fun q' => hb (by simp [q'])) (fun q' => hb (by simp [q'])) (fun q' => hb (by simp [q'])) q) hf (Nat.le_refl _) new
      have hS1 : (upd H s.heap.objs.size (.tup [xs[i]'(by omega), ys[i]'(by omega)])) S = some (.lst (ts.map V.ref)) := by rw [upd_ne (Ne.symm nS)]; exact hS
      obtain ⟨zl, itS, nn, rS, hl, eS⟩ := I1.lstM hS1
      have hsz : ts.length < sizeLine := by
        have := (I.list hqx).choose_spec.2.2
        omega
      refine wpAny_bind (wpAny_updateSeq eS rfl (wpAny_pure ⟨plainId_quiet PySem.F.plain_extend_loop _, ?_⟩) (by rw [List.size_toArray]; omega) (by show (itS.toArray.push _).size ≤ sizeLine + 1; rw [Array.size_push, List.size_toArray]; omega))
      have I2 := I1.lset (f := (·.push (Value.ref s.heap.objs.size))) (its' := itS ++ [.ref s.heap.objs.size]) (ys := ts.map V.ref ++ [.ref s.heap.objs.size]) (t' := s.toks) hS1 eS (by simp) (rS.append (.cons (show RelV (.ref s.heap.objs.size) (.ref s.heap.objs.size) from rfl) .nil)) (by rw [List.length_append, List.length_singleton, List.length_map]; omega)
      have ext : ∀ d o, d ≠ S → H d = some o → (upd (upd H s.heap.objs.size (.tup [xs[i]'(by omega), ys[i]'(by omega)])) S (.lst (ts.map V.ref ++ [.ref s.heap.objs.size]))) d = some o := fun d o hd e => by
        rw [upd_ne hd, upd_ne (ne_of_none e hn)]
        exact e
      refine ih (i + 1) _ _ (ts ++ [s.heap.objs.size]) (by omega) (by omega) I2 (fun c hc => ?_) ?_ (seqKeep hqx ext ha) (seqKeep hqy ext hb) ha hb ?_ (by rw [List.length_append, List.length_singleton, hts]) ?_ (fun c o hc e => ext c o hc (h0 c o hc e)) (fun t ht => ?_)
      · have q := hf c hc
        refine ⟨?_, q.2⟩
        have hcz : c < s.heap.objs.size := by
          have e' : c = z ∨ c = TI ∨ c = TO ∨ c = i1 ∨ c = i2 := by simpa using hc
          rcases e' with e | e | e | e | e
          · rw [e]
            rcases h4 with ⟨q1, _⟩ | ⟨T, f, oT, q1, _⟩
            · exact Heap.lt_size q1
            · exact Heap.lt_size q1
          · rw [e]; exact Heap.lt_size hTI
          · rw [e]; exact Heap.lt_size hO
          · rw [e]; obtain ⟨_, e1, _⟩ := h1; exact Heap.lt_size e1
          · rw [e]; obtain ⟨_, e1, _⟩ := h2; exact Heap.lt_size e1
        rw [upd_ne (hzS c hc), upd_ne (Nat.ne_of_lt hcz)]
        exact q.1
      · refine st'.keep (hzS z (by simp)) (hzS TI (by simp)) (hzS TO (by simp)) (hzS i1 (by simp)) (hzS i2 (by simp)) fun c o hc e => ?_
        exact (Heap.get?_update_other _ _ (Ne.symm hc)).trans e
      · rw [upd_same, List.map_append]
        rfl
      · intro j t ht
        by_cases hj : j < ts.length
        · rw [List.getElem?_append_left hj] at ht
          obtain ⟨x, y, k1, k2, k3⟩ := hp j t ht
          refine ⟨x, y, k1, k2, ext t _ ?_ k3⟩
          exact ne_of k3 hS (fun z => nomatch z)
        · rw [List.getElem?_append_right (by omega)] at ht
          have ej : j = ts.length := by
            have := (List.getElem?_eq_some_iff.mp ht).1
            simp at this
            omega
          subst ej
          rw [Nat.sub_self] at ht
          cases ht
          rw [hts]
          exact ⟨_, _, hx, hy, by rw [upd_ne nS, upd_same]⟩
      · rcases List.mem_append.mp ht with z | z
        · exact hw t z
        · rw [List.mem_singleton.mp z]
          refine ⟨?_, nS⟩
          cases q : H₀ s.heap.objs.size with
          | none => rfl
          | some o =>
            have := h0 _ _ nS q
            rw [hn] at this
            cases this
    refine wpAny_bind ?_
    rcases h4 with ⟨q1, x, y, q2⟩ | ⟨T, f, oT, q1, q2, q3, q4, q5, q6⟩
    · refine wpAny_pyNext_zip_item D q1 hTI q2 h1 h2 p.isList p2.isList (x := u) (y := u2) (by simpa using hu) (by simpa using hu2) fun h' a1 a2 a3 a4 a5 a6 hk' => ?_
      exact step h' a5 hk' ⟨⟨_, a2⟩, hk' _ _ D.TIz D.TITO D.TIi1 D.TIi2 hTI, a3, a4, .inr ⟨s.heap.objs.size, false, _, a1, a5, nz, n1, n2, nS⟩⟩
    · refine wpAny_pyNext_zip_item_held D q1 q2 hTI h1 h2 p.isList p2.isList (x := u) (y := u2) (by simpa using hu) (by simpa using hu2) fun h' a1 a3 a4 a5 a6 hk' => ?_
      exact step h' a5 (fun c o c1 c2 c3 c4 => hk' c o c1 c3 c4) ⟨⟨oO, hk' _ _ D.TOz D.TOi1 D.TOi2 hO⟩, hk' _ _ D.TIz D.TIi1 D.TIi2 hTI, a3, a4, .inr ⟨T, true, oT, a1, hk' _ _ q3 q4 q5 q2, q3, q4, q5, q6⟩⟩
theorem zip_no_len : typeLookup (.type "zip") "__len__" = pure none := am_miss_of_fast (by decide +kernel)
theorem zip_no_hint : typeLookup (.type "zip") "__length_hint__" = pure none := am_miss_of_fast (by decide +kernel)
/-- list(z), z a zip of two lists that has not begun -/
theorem list_of_zip {X : Cx} {pins : List (Addr × Obj)} {σ : L2.St} {H : Hp} {s : Shared} {a b z TI TO i1 i2 : Addr} (D : ZipApart z TI TO i1 i2 a b) (hc : X.A.handled = none) {xs ys : List V} (I : Inv X pins σ H s) (hf : ∀ c ∈ [z, TI, TO, i1, i2], FpOk X pins H c)
    (hz : IsZip s.heap z TI TO .none) (hTI : IsPair s.heap TI (.ref i1) (.ref i2)) (hTO : ∃ x y, IsPair s.heap TO x y) (h1 : s.heap.IsListIter i1 a 0) (h2 : s.heap.IsListIter i2 b 0) (hqx : SqL X.K H a xs) (hqy : SqL X.K H b ys) {Q : Value → Shared → Prop} {E : Value → Shared → Prop}
    (hQ : ∀ s' H' p ts, Inv X pins σ H' s' → H p = none → H' p = some (.lst (ts.map V.ref)) → ts.length = min xs.length ys.length → Prs H' xs ys ts → Same H H' → (∀ t ∈ ts, H t = none ∧ t ≠ p) → Q (.ref p) s') : wpAny (model X.prog X.w) X.A (call (.type "list") [.ref z]) Q E s := by
  obtain ⟨x0, y0, hTO⟩ := hTO
  have zl : ∀ c ∈ [z, TI, TO, i1, i2], c < s.heap.objs.size := fun c hc => by
    have e' : c = z ∨ c = TI ∨ c = TO ∨ c = i1 ∨ c = i2 := by simpa using hc
    rcases e' with e | e | e | e | e
    · rw [e]; exact Heap.lt_size hz
    · rw [e]; exact Heap.lt_size hTI
    · rw [e]; exact Heap.lt_size hTO
    · rw [e]; obtain ⟨_, e1, _⟩ := h1; exact Heap.lt_size e1
    · rw [e]; obtain ⟨_, e1, _⟩ := h2; exact Heap.lt_size e1
  have zS : ∀ c ∈ [z, TI, TO, i1, i2], c ≠ s.heap.objs.size := fun c hc => Nat.ne_of_lt (zl c hc)
  have hn : H s.heap.objs.size = none := I.hok.fresh (Nat.le_refl _)
  refine callType_codes (Q₁ := fun obj s₁ => obj = .ref s.heap.objs.size ∧ s₁ = { s with heap := s.heap.push { cls := .type "list", data := .seq #[] } }) PySem.F.called_list (PySem.F.typeCall_list_1 _) PySem.F.entry_list_init (code_list_new _ ⟨rfl, rfl⟩) fun obj s₁ h₁ => ?_
  obtain ⟨rfl, rfl⟩ := h₁
  have hS : (s.heap.push { cls := .type "list", data := .seq #[] }).get? s.heap.objs.size = some { cls := .type "list", data := .seq #[] } := Heap.get?_push_size _ rfl
  refine ⟨⟨_, hS, rfl⟩, PySem.F.args_list_init_2 _ _, ?_⟩
  have I0 : Inv X pins σ (upd H s.heap.objs.size (.lst [])) { s with heap := s.heap.push { cls := .type "list", data := .seq #[] } } :=
    I.laid (t' := s.toks) (o := .lst []) (fun b ob q => Heap.get?_push_of_some _ q) (Nat.le_refl _) ⟨Nat.zero_le _, [], 0, .nil, hS⟩
  show wpAny _ X.A.in1.in1 (do let old ← Builtin.List.listItems (.ref s.heap.objs.size); Builtin.List.listUpdate (.ref s.heap.objs.size) (fun _ => #[]); letGo old.toList.reverse; Builtin.List.listExtendWith (.ref s.heap.objs.size) (.ref z) .none) _ _ _
  refine wpAny_bind ?_
  unfold Builtin.List.listItems
  refine wpAny_bind (wpAny_seqItems hS rfl (wpAny_pure ?_))
  show wpAny _ X.A.in1.in1 (updateSeq s.heap.objs.size (fun _ => #[]) >>= fun _ => letGo (#[] : Array Value).toList.reverse >>= fun _ => Builtin.List.listExtendWith (.ref s.heap.objs.size) (.ref z) .none) _ _ _
  refine wpAny_bind (wpAny_updateSeq hS rfl ?_)
  have I1 := I0.lset (f := fun _ => (#[] : Array Value)) (its := []) (its' := []) (ys := []) (t' := s.toks) upd_same hS rfl .nil (Nat.zero_le _)
  obtain ⟨_, it1, n1, r1, _, hS2⟩ := I1.lstM upd_same
  cases r1
  have keep1 : ∀ c o, s.heap.get? c = some o → ((s.heap.push { cls := .type "list", data := .seq #[] }).update s.heap.objs.size (Obj.mapSeq fun _ => (#[] : Array Value))).get? c = some o := fun c o e =>
    (Heap.get?_update_other _ _ (Ne.symm (Nat.ne_of_lt (Heap.lt_size e)))).trans (Heap.get?_push_of_some _ e)
  refine wpAny_bind (wpAny_letGo ?_)
  unfold Builtin.List.listExtendWith
  refine wpAny_bind (wpAny_typeOf (T := "zip") ⟨_, keep1 _ _ hz, rfl⟩ ?_)
  have q1 : Builtin.List.listSameRef (.ref s.heap.objs.size) (.ref z) = false := by
    have := (zS z (by simp))
    simp [Builtin.List.listSameRef, Ne.symm this]
  have q2 : (Value.type "zip" == Value.type "list") = false := by decide
  have q3 : (Value.type "zip" == Value.type "tuple") = false := by decide
  simp only [q1, q2, q3, Bool.or_false, Bool.false_eq_true, if_false]
  refine wpAny_bind (wpAny_pyIter_zip (keep1 _ _ hz) ?_)
  refine wpAny_bind (wpAny_holding ?_)
  unfold Builtin.List.listLengthHint
  refine wpAny_bind (wpAny_specialOf (T := "zip") ⟨_, keep1 _ _ hz, rfl⟩ zip_no_len ?_)
  show wpAny _ _ (specialOf (Value.ref z) (Str.ofString "__length_hint__") >>= _) _ _ _
  refine wpAny_bind (wpAny_specialOf (T := "zip") ⟨_, keep1 _ _ hz, rfl⟩ zip_no_hint ?_)
  refine wpAny_pure ?_
  show wpAny _ X.A.in1.in1 (rule "list.extend.makes-room" >>= fun _ => Builtin.List.listTouch (.ref s.heap.objs.size) >>= fun _ => again (.builtin "list.extend.loop" ⟨[.ref s.heap.objs.size, .ref z, .none], []⟩)) _ _ _
  refine wpAny_bind (wpAny_rule ?_)
  refine wpAny_bind ?_
  show wpAny _ X.A.in1.in1 (updateSeq s.heap.objs.size (·.push .none) >>= fun _ => updateSeq s.heap.objs.size (·.pop)) _ _ _
  refine wpAny_bind (wpAny_updateSeq hS2 rfl ?_)
  have I2 := I1.lset (f := (·.push Value.none)) (its' := [Value.none]) (ys := [.non]) (t' := s.toks) upd_same hS2 (by simp) (.cons rfl .nil) (by rw [List.length_singleton, sizeLine_eq]; decide)
  obtain ⟨_, it3, n3, r3, _, hS3⟩ := I2.lstM upd_same
  obtain ⟨u3, rfl, ru3⟩ := r3.one
  refine wpAny_updateSeq hS3 rfl ?_ (by show 1 ≤ sizeLine; rw [sizeLine_eq]; decide) (by show 0 ≤ sizeLine + 1; exact Nat.zero_le _)
  have I3 := I2.lset (f := (·.pop)) (its := [u3]) (its' := []) (ys := []) (t' := s.toks) upd_same hS3 (by rfl) .nil (Nat.zero_le _)
  rw [upd_upd, upd_upd, upd_upd] at I3
  refine wpAny_pure ⟨plainId_quiet PySem.F.plain_extend_loop _, ?_⟩
  have keep3 : ∀ c o, c ≠ s.heap.objs.size → s.heap.get? c = some o → ((((s.heap.push { cls := .type "list", data := .seq #[] }).update s.heap.objs.size (Obj.mapSeq fun _ => (#[] : Array Value))).update s.heap.objs.size (Obj.mapSeq (·.push Value.none))).update s.heap.objs.size (Obj.mapSeq (·.pop))).get? c = some o := fun c o hc e =>
    (Heap.get?_update_other _ _ (Ne.symm hc)).trans ((Heap.get?_update_other _ _ (Ne.symm hc)).trans (keep1 c o e))
  have qa : ∀ {c : Addr} {us : List V}, SqL X.K H c us → SqL X.K (upd H s.heap.objs.size (.lst [])) c us := fun {c us} h => by
    rcases h with (h | ⟨o, h⟩) | h
    · exact .inl (.inl (by rw [upd_ne (ne_of_none h hn)]; exact h))
    · exact .inl (.inr ⟨o, by rw [upd_ne (ne_of_none h hn)]; exact h⟩)
    · exact .inr h
  have ne : ∀ {c : Addr} {us : List V}, SqL X.K H c us → c ≠ s.heap.objs.size := fun {c us} h => by
    obtain ⟨its, r, p, _⟩ := I.list h
    exact Nat.ne_of_lt p.lt
  refine zip_drain (H₀ := H) (A := X.A.in1) hc D zS (xs := xs) (ys := ys) .none (fun s' H' ts J k1 k2 k3 k4 k5 => ?_) _ 0 _ (upd H s.heap.objs.size (.lst [])) [] rfl (Nat.zero_le _) I3 (fun c hc => ?_) ?_ (qa hqx) (qa hqy) (ne hqx) (ne hqy) upd_same rfl (fun j t h => by simp at h) (fun c o hcS e => by rw [upd_ne hcS]; exact e) (fun t ht => nomatch ht)
  · exact ⟨rfl, hQ s' H' _ ts J hn k1 k2 k3 (fun c o e => k4 c o (ne_of_none e hn) e) k5⟩
  · refine ⟨by rw [upd_ne (zS c hc)]; exact (hf c hc).1, (hf c hc).2⟩
  · exact ⟨⟨_, keep3 _ _ (zS TO (by simp)) hTO⟩, keep3 _ _ (zS TI (by simp)) hTI, h1.at fun o e => keep3 _ o (zS i1 (by simp)) e, h2.at fun o e => keep3 _ o (zS i2 (by simp)) e, .inl ⟨keep3 _ _ (zS z (by simp)) hz, x0, y0, keep3 _ _ (zS TO (by simp)) hTO⟩⟩
end Ck
namespace Ck
open PySem PySem.Spec PyProof.Rows L2

/-! ### small lemmas about what is done over data -/
theorem size1M {n : Nat} (h : n ≤ 1000000) : n ≤ sizeLine := by
  rw [sizeLine_eq]
  omega
theorem mulx60 {i j : Int} (h1 : -(2 ^ 60) < i) (h2 : i < 2 ^ 60) (h3 : -(2 ^ 60) < j) (h4 : j < 2 ^ 60) : CMulX i j := mulx_ok (a := 60) (b := 60) (by omega) (by omega) (by decide)
theorem divw60 {i j : Int} (h1 : 0 < j) (h2 : j < 2 ^ 60) : CDivW i j := wide_div (b := 60) h1 (by omega) (by decide) (by decide)
theorem atI_ofNat {α : Type} {l : List α} {i : Nat} {d : α} (h : l[i]? = some d) : L2.atI l (i : Int) = some d := atI_nat h
theorem atI_int {α : Type} {l : List α} {i : Int} {d : α} (h0 : 0 ≤ i) (h : l[i.toNat]? = some d) : L2.atI l i = some d := by
  have e : i = (i.toNat : Int) := (Int.toNat_of_nonneg h0).symm
  rw [e]
  exact atI_nat h
section
variable {Ω : Type} {tg : Tg} {t : DT Ω} {pe : DE Ω} {sl0 : Sl}
/-- a comprehension over data without draws -/
theorem lc_typed {α : Type} (enc : α → Dt) (b : α → Bool) (f : α → Dt) {w : Ω} : ∀ (ys : List α) {C : List Dt → Ω → Prop},
    (∀ y ∈ ys, ∃ sl', bindTg tg (enc y) sl0 = some sl' ∧ (∀ C : Bool → Ω → Prop, C (b y) w → t sl' w C) ∧ (b y = true → ∀ C : Dt → Fl → Ω → Prop, C (f y) .cl w → pe sl' w C)) → C ((ys.filter b).map f) w → lcLoop tg t pe sl0 (ys.map enc) w C
  | [], C, _, hC => hC
  | y :: ys, C, h, hC => by
    obtain ⟨sl', h1, h2, h3⟩ := h y List.mem_cons_self
    have ih := fun C => lc_typed enc b f (C := C) ys fun z hz => h z (List.mem_cons_of_mem _ hz)
    refine ⟨sl', h1, h2 _ ?_⟩
    cases hb : b y with
    | false =>
      rw [List.filter_cons, hb] at hC
      exact ih _ hC
    | true =>
      rw [List.filter_cons, hb] at hC
      exact h3 hb _ ⟨rfl, ih _ hC⟩
theorem lc_map {α : Type} (enc : α → Dt) (f : α → Dt) {w : Ω} (ys : List α) {C : List Dt → Ω → Prop} (h : ∀ y ∈ ys, ∃ sl', bindTg tg (enc y) sl0 = some sl' ∧ ∀ C : Dt → Fl → Ω → Prop, C (f y) .cl w → pe sl' w C) (hC : C (ys.map f) w) : lcLoop tg wYes pe sl0 (ys.map enc) w C :=
  lc_typed enc (fun _ => true) f ys (fun y hy => let ⟨sl', h1, h2⟩ := h y hy; ⟨sl', h1, fun C z => z, fun _ => h2⟩) (by rw [List.filter_eq_self.mpr (fun _ _ => rfl)]; exact hC)
end
/-- one with draws: each turn at most c of them, each item as P says -/
theorem lc_draw {tg : Tg} {pe : DE Dw} {sl0 : Sl} {α : Type} (enc : α → Dt) (P : α → Dt → Prop) (c : Nat) {p : Addr} : ∀ (ys : List α) {n : Nat} {C : List Dt → Dw → Prop},
    (∀ y ∈ ys, ∃ sl', bindTg tg (enc y) sl0 = some sl' ∧ ∀ (n : Nat) (C : Dt → Fl → Dw → Prop), c ≤ n → (∀ d m, P y d → n ≤ m + c → C d .cl ⟨p, m⟩) → pe sl' ⟨p, n⟩ C) → ys.length * c ≤ n →
    (∀ ds m, ds.length = ys.length → (∀ d ∈ ds, ∃ y ∈ ys, P y d) → n ≤ m + ys.length * c → C ds ⟨p, m⟩) → lcLoop tg wYes pe sl0 (ys.map enc) ⟨p, n⟩ C
  | [], n, C, _, _, hC => hC [] n rfl (by simp) (by simp)
  | y :: ys, n, C, h, hn, hC => by
    obtain ⟨sl', h1, h2⟩ := h y List.mem_cons_self
    rw [List.length_cons, Nat.add_mul] at hn
    refine ⟨sl', h1, ?_⟩
    show pe sl' ⟨p, n⟩ _
    refine h2 n _ (by omega) fun d m hd hm => ⟨rfl, ?_⟩
    refine lc_draw enc P c ys (fun z hz => h z (List.mem_cons_of_mem _ hz)) (by omega) fun ds k hl hds hk => ?_
    refine hC (d :: ds) k (by rw [List.length_cons, hl, List.length_cons]) (fun x hx => ?_) (by rw [List.length_cons, Nat.add_mul]; omega)
    rcases List.mem_cons.mp hx with rfl | hx
    · exact ⟨y, List.mem_cons_self, hd⟩
    · obtain ⟨z, hz, q⟩ := hds x hx
      exact ⟨z, List.mem_cons_of_mem _ hz, q⟩
/-- a for loop with draws that keeps what J says of the slots: each turn at most c draws -/
theorem loop_draw {tg : Tg} {body : DS Dw} {D : DD Dw} {α : Type} (enc : α → Dt) (c : Nat) {p : Addr} (J : Nat → Sl → Prop) : ∀ (ys : List α) {n i : Nat} {sl : Sl},
    (∀ (i : Nat) (y : α) (sl : Sl), y ∈ ys → J i sl → ∃ sl', bindTg tg (enc y) sl = some sl' ∧ ∀ (n : Nat) (N : Sl → Dw → Prop), c ≤ n → (∀ s m, J (i + 1) s → n ≤ m + c → N s ⟨p, m⟩) → body { D with nx := N, ct := N, bk := D.nx } sl' ⟨p, n⟩) →
    J i sl → ys.length * c ≤ n → (∀ s m, J (i + ys.length) s → n ≤ m + ys.length * c → D.nx s ⟨p, m⟩) → wLoop tg body D (ys.map enc) sl ⟨p, n⟩
  | [], n, i, sl, _, hj, _, hC => hC sl n hj (by simp)
  | y :: ys, n, i, sl, h, hj, hn, hC => by
    rw [List.length_cons, Nat.add_mul] at hn
    obtain ⟨sl', h1, h2⟩ := h i y sl List.mem_cons_self hj
    refine ⟨sl', h1, ?_⟩
    refine h2 n _ (by omega) fun s m hs hm => ?_
    refine loop_draw enc c J ys (i := i + 1) (fun i z sl hz => h i z sl (List.mem_cons_of_mem _ hz)) hs (by omega) fun s k hk hkm => ?_
    refine hC s k ?_ (by rw [List.length_cons, Nat.add_mul]; omega)
    rw [List.length_cons, Nat.add_comm ys.length 1, ← Nat.add_assoc]
    exact hk
theorem loop_drawA {tg : Tg} {body : DS Dw} {D : DD Dw} {α : Type} (enc : α → Dt) (c : Nat) {p : Addr} (J : Nat → Sl → Prop) (zs : List α)
    (h : ∀ (i : Nat) (y : α) (sl : Sl), zs[i]? = some y → J i sl → ∃ sl', bindTg tg (enc y) sl = some sl' ∧ ∀ (n : Nat) (N : Sl → Dw → Prop), c ≤ n → (∀ s m, J (i + 1) s → n ≤ m + c → N s ⟨p, m⟩) → body { D with nx := N, ct := N, bk := D.nx } sl' ⟨p, n⟩) : ∀ (ys : List α) {n i : Nat} {sl : Sl},
    (∀ j, zs[i + j]? = ys[j]?) → J i sl → ys.length * c ≤ n → (∀ s m, J (i + ys.length) s → n ≤ m + ys.length * c → D.nx s ⟨p, m⟩) → wLoop tg body D (ys.map enc) sl ⟨p, n⟩
  | [], n, i, sl, _, hj, _, hC => hC sl n hj (by simp)
  | y :: ys, n, i, sl, e, hj, hn, hC => by
    rw [List.length_cons, Nat.add_mul] at hn
    obtain ⟨sl', h1, h2⟩ := h i y sl (by simpa using e 0) hj
    refine ⟨sl', h1, ?_⟩
    refine h2 n _ (by omega) fun s m hs hm => ?_
    refine loop_drawA enc c J zs h ys (i := i + 1) (fun j => by have := e (j + 1); rw [List.getElem?_cons_succ] at this; rw [← this]; congr 1; omega) hs (by omega) fun s k hk hkm => ?_
    refine hC s k ?_ (by rw [List.length_cons, Nat.add_mul]; omega)
    rw [List.length_cons, Nat.add_comm ys.length 1, ← Nat.add_assoc]
    exact hk
/-- a for loop with draws: each turn at most c of them; J, what holds of the slots behind so many turns -/
theorem loop_drawN {tg : Tg} {body : DS Dw} {D : DD Dw} {α : Type} (enc : α → Dt) (c : Nat) {p : Addr} (J : Nat → Sl → Prop) (zs : List α) {n : Nat} {sl : Sl}
    (h : ∀ (i : Nat) (y : α) (sl : Sl), zs[i]? = some y → J i sl → ∃ sl', bindTg tg (enc y) sl = some sl' ∧ ∀ (n : Nat) (N : Sl → Dw → Prop), c ≤ n → (∀ s m, J (i + 1) s → n ≤ m + c → N s ⟨p, m⟩) → body { D with nx := N, ct := N, bk := D.nx } sl' ⟨p, n⟩)
    (h0 : J 0 sl) (hn : zs.length * c ≤ n) (hC : ∀ s m, J zs.length s → n ≤ m + zs.length * c → D.nx s ⟨p, m⟩) : wLoop tg body D (zs.map enc) sl ⟨p, n⟩ :=
  loop_drawA enc c J zs h zs (fun j => by rw [Nat.zero_add]) h0 hn (fun s m hj hm => hC s m (by rwa [Nat.zero_add] at hj) hm)
section
variable {Ω : Type} {tg : Tg} {body : DS Ω} {D : DD Ω} {w : Ω}
/-- a loop without draws that looks at its items one after another: R i, the i-th one ends it; J, what holds of the slots -/
theorem loop_any (J : Nat → Sl → Prop) (R : Nat → Bool) : ∀ (xs : List Dt) (k : Nat) (sl : Sl),
    (∀ (i : Nat) (d : Dt) (sl : Sl), xs[i]? = some d → (∀ j, j < k + i → R j = false) → J (k + i) sl → ∃ sl', bindTg tg d sl = some sl' ∧ ∀ N : Sl → Ω → Prop, (R (k + i) = false → ∀ s, J (k + i + 1) s → N s w) → body { D with nx := N, ct := N, bk := D.nx } sl' w) →
    (∀ j, j < k → R j = false) → J k sl → ((∀ j, j < k + xs.length → R j = false) → ∀ s, J (k + xs.length) s → D.nx s w) → wLoop tg body D xs sl w
  | [], k, sl, _, hk, hj, hC => hC hk sl hj
  | x :: xs, k, sl, h, hk, hj, hC => by
    obtain ⟨sl', h1, h2⟩ := h 0 x sl rfl hk hj
    refine ⟨sl', h1, ?_⟩
    refine h2 _ fun hR s hs => ?_
    refine loop_any J R xs (k + 1) s (fun i d sl hd hb hj => ?_) (fun j hj => ?_) hs (fun hb s hj => ?_)
    · have e : k + 1 + i = k + (i + 1) := by omega
      rw [e] at hb hj ⊢
      exact h (i + 1) d sl hd hb hj
    · rcases Nat.lt_succ_iff_lt_or_eq.mp hj with z | z
      · exact hk j z
      · rw [z]
        exact hR
    · have e : k + 1 + xs.length = k + (x :: xs).length := by
        rw [List.length_cons]
        omega
      rw [e] at hb hj
      exact hC hb s hj
theorem loop_map {α : Type} (enc : α → Dt) (ys : List α) (J : Nat → Sl → Prop) (R : Nat → Bool) {sl : Sl}
    (h : ∀ (i : Nat) (y : α) (sl : Sl), ys[i]? = some y → (∀ j, j < i → R j = false) → J i sl → ∃ sl', bindTg tg (enc y) sl = some sl' ∧ ∀ N : Sl → Ω → Prop, (R i = false → ∀ s, J (i + 1) s → N s w) → body { D with nx := N, ct := N, bk := D.nx } sl' w)
    (h0 : J 0 sl) (hC : (∀ j, j < ys.length → R j = false) → ∀ s, J ys.length s → D.nx s w) : wLoop tg body D (ys.map enc) sl w := by
  refine loop_any J R _ 0 sl (fun i d sl hd hb hj => ?_) (fun j hj => absurd hj (Nat.not_lt_zero j)) h0 (fun hb s hj => ?_)
  · rw [List.getElem?_map, Option.map_eq_some_iff] at hd
    obtain ⟨y, hy, rfl⟩ := hd
    rw [Nat.zero_add] at hb hj ⊢
    exact h i y sl hy hb hj
  · rw [Nat.zero_add, List.length_map] at hb hj
    exact hC hb s hj
theorem loop_enum {α : Type} (enc : α → Dt) (ys : List α) (J : Nat → Sl → Prop) (R : Nat → Bool) {sl : Sl}
    (h : ∀ (i : Nat) (y : α) (sl : Sl), ys[i]? = some y → (∀ j, j < i → R j = false) → J i sl → ∃ sl', bindTg tg (.tup [.int (i : Nat), enc y]) sl = some sl' ∧ ∀ N : Sl → Ω → Prop, (R i = false → ∀ s, J (i + 1) s → N s w) → body { D with nx := N, ct := N, bk := D.nx } sl' w)
    (h0 : J 0 sl) (hC : (∀ j, j < ys.length → R j = false) → ∀ s, J ys.length s → D.nx s w) : wLoop tg body D (enumD (ys.map enc)) sl w := by
  refine loop_any J R _ 0 sl (fun i d sl hd hb hj => ?_) (fun j hj => absurd hj (Nat.not_lt_zero j)) h0 (fun hb s hj => ?_)
  · obtain ⟨e, he, rfl⟩ := enum_at hd
    rw [List.getElem?_map, Option.map_eq_some_iff] at he
    obtain ⟨y, hy, rfl⟩ := he
    rw [Nat.zero_add] at hb hj ⊢
    exact h i y sl hy hb hj
  · rw [Nat.zero_add, enum_len, List.length_map] at hb hj
    exact hC hb s hj
end
abbrev rngN (lo : Int) (i : Nat) : Dt := .int (lo + i)
theorem rngD_eq (lo : Int) (n : Nat) : rngD lo n = (List.range n).map (rngN lo) := rfl

/-! ### draws -/
abbrev S_law_draw := sDraw
structure L1 where
  l : List Dt
def S_law_one : Spc Dw := drawS (ι := List Dt) (fun l => [.lst l]) (fun l => 0 < l.length ∧ l.length ≤ 1000000) (fun _ => 1) (fun l d => d ∈ l)
/-- the law's slots behind its first line; all draws that it may make -/
def lawSl (n : Nat) (a p : Addr) : Sl := (startD n [.opq (.ref a)]).set 1 (some (.dat (.opq (.ref p))))
def allD : Nat := 1099511627776
end Ck
namespace Ck
open PySem PySem.Spec PyProof.Rows L2
/-! ### what is shown -/
structure Shp (k n : Nat) (p : PyData) : Prop where
  lf : p.leavesShort 20 = true
  sh : p.showable = true
  bk : p.bulk ≤ k
  dp : p.depth ≤ n
structure ShpL (k n : Nat) (p : List PyData) : Prop where
  lf : PyData.leavesShortAll 20 p = true
  sh : PyData.showableAll p = true
  bk : PyData.bulkAll p ≤ k
  dp : PyData.depthAll p ≤ n
/-- d can be shown: k bounds its items, n its depth -/
def Shw (k n : Nat) (d : Dt) : Prop := ∃ p, d.pr = some p ∧ Shp k n p
def ShwL (k n : Nat) (l : List Dt) : Prop := ∃ p, prL l = some p ∧ ShpL k n p
def txt (d : Dt) : Str := match d.pr with
  | some p => p.shown
  | none => Str.empty
theorem Shw.mono {k n k' n' : Nat} {d : Dt} (h : Shw k n d) (hk : k ≤ k') (hn : n ≤ n') : Shw k' n' d := by
  obtain ⟨p, e, a⟩ := h
  exact ⟨p, e, a.lf, a.sh, Nat.le_trans a.bk hk, Nat.le_trans a.dp hn⟩
theorem ShwL.mono {k n k' n' : Nat} {d : List Dt} (h : ShwL k n d) (hk : k ≤ k') (hn : n ≤ n') : ShwL k' n' d := by
  obtain ⟨p, e, a⟩ := h
  exact ⟨p, e, a.lf, a.sh, Nat.le_trans a.bk hk, Nat.le_trans a.dp hn⟩
theorem shw_int {i : Int} (h1 : -(2 ^ 60) < i) (h2 : i < 2 ^ 60) : Shw 0 0 (.int i) := by
  refine ⟨.int i, by simp only [Dt.pr], ?_, ?_, ?_, ?_⟩
  · have e : (10 : Nat) ^ 19 = 10000000000000000000 := by decide
    have hb : i.natAbs < 10 ^ 19 := by
      rw [e]
      omega
    simp only [PyData.leavesShort, decide_eq_true_eq, PyData.shown]
    have h := int_text_length_le10 (a := i) (k := 19) (by decide) hb
    refine decide_eq_true ?_
    rw [PySem.ofString_length]
    exact h
  · simp only [PyData.showable, decide_eq_true_eq]
    have : i.natAbs < 2 ^ 60 := by omega
    exact Nat.lt_trans (PySem.Flt.log2_lt_of (by decide) this) (by decide)
  · simp only [PyData.bulk, Nat.le_refl]
  · simp only [PyData.depth, Nat.le_refl]
theorem shw_bl (b : Bool) : Shw 0 0 (.bl b) := ⟨.bool b, by simp only [Dt.pr], by simp only [PyData.leavesShort], by simp only [PyData.showable], by simp only [PyData.bulk, Nat.le_refl], by simp only [PyData.depth, Nat.le_refl]⟩
theorem shw_non : Shw 0 0 .non := ⟨.none, by simp only [Dt.pr], by simp only [PyData.leavesShort], by simp only [PyData.showable], by simp only [PyData.bulk, Nat.le_refl], by simp only [PyData.depth, Nat.le_refl]⟩
theorem shw_tup {k n : Nat} {l : List Dt} (h : ShwL k n l) : Shw k (n + 1) (.tup l) := by
  obtain ⟨p, e, a⟩ := h
  refine ⟨.tuple p, by simp only [Dt.pr, e, Option.map_some], ?_, ?_, ?_, ?_⟩
  · simpa only [PyData.leavesShort] using a.lf
  · simpa only [PyData.showable] using a.sh
  · simpa only [PyData.bulk] using a.bk
  · have := a.dp
    simp only [PyData.depth]
    omega
theorem shw_lst {k n : Nat} {l : List Dt} (h : ShwL k n l) : Shw k (n + 1) (.lst l) := by
  obtain ⟨p, e, a⟩ := h
  refine ⟨.list p, by simp only [Dt.pr, e, Option.map_some], ?_, ?_, ?_, ?_⟩
  · simpa only [PyData.leavesShort] using a.lf
  · simpa only [PyData.showable] using a.sh
  · simpa only [PyData.bulk] using a.bk
  · have := a.dp
    simp only [PyData.depth]
    omega
theorem shwL_nil {n : Nat} : ShwL 0 n [] := ⟨[], by simp only [prL], by simp only [PyData.leavesShortAll], by simp only [PyData.showableAll], by simp only [PyData.bulkAll, Nat.le_refl], by simp only [PyData.depthAll, Nat.zero_le]⟩
theorem shwL_cons {k k' n : Nat} {d : Dt} {l : List Dt} (h : Shw k n d) (h' : ShwL k' n l) : ShwL (k + 1 + k') n (d :: l) := by
  obtain ⟨p, e, a⟩ := h
  obtain ⟨q, e', b⟩ := h'
  refine ⟨p :: q, by simp only [prL, e, e', Option.bind_some, Option.map_some], ?_, ?_, ?_, ?_⟩
  · simp only [PyData.leavesShortAll, a.lf, b.lf, Bool.and_self]
  · simp only [PyData.showableAll, a.sh, b.sh, Bool.and_self]
  · have h1 := a.bk
    have h2 := b.bk
    simp only [PyData.bulkAll]
    omega
  · have h1 := a.dp
    have h2 := b.dp
    simp only [PyData.depthAll]
    omega
theorem shwL_all {k n : Nat} : ∀ {l : List Dt}, (∀ d ∈ l, Shw k n d) → ShwL (l.length * (k + 1)) n l
  | [], _ => by
    rw [List.length_nil, Nat.zero_mul]
    exact shwL_nil
  | d :: l, h => by
    have := shwL_cons (h d List.mem_cons_self) (shwL_all fun x hx => h x (List.mem_cons_of_mem _ hx))
    refine this.mono ?_ (Nat.le_refl _)
    rw [List.length_cons, Nat.add_mul]
    omega
theorem shwL_map {α : Type} {k n : Nat} {f : α → Dt} {l : List α} (h : ∀ x ∈ l, Shw k n (f x)) : ShwL (l.length * (k + 1)) n (l.map f) := by
  have := shwL_all (k := k) (n := n) (l := l.map f) fun d hd => by
    obtain ⟨x, hx, rfl⟩ := List.mem_map.mp hd
    exact h x hx
  rw [List.length_map] at this
  exact this
theorem repr_ok {k n : Nat} {d : Dt} {C : Dt → Prop} (h : Shw k n d) (hk : k ≤ 700000) (hn : n ≤ 60) (hC : C (.str (txt d))) : fRepr d C := by
  obtain ⟨p, e, a⟩ := h
  refine ⟨p, e, a.sh, ?_, Nat.le_trans a.dp hn, ?_⟩
  · have h1 := PyData.shown_le_bulk 20 (by decide) p a.lf
    have h2 := a.bk
    rw [sizeLine_eq]
    omega
  · unfold txt at hC
    rw [e] at hC
    exact hC
end Ck
namespace Ck
open PySem PySem.Spec PyProof.Rows L2
/-! ### what an operation gives, constructor by constructor (for simp) -/
section
variable {i j : Int} {x y : Str} {l r : List Dt} {b k : Bool} {C : Dt → Prop} {CL : List Dt → Prop} {CB : Bool → Prop} {d e : Dt} {lo hi : Option Int} {v : V}
theorem k_add1 : fAdd (.int i) (.int j) C = C (.int (i + j)) := rfl
theorem k_add2 : fAdd (.str x) (.str y) C = (x.length + y.length ≤ sizeLine ∧ C (.str (x ++ y))) := rfl
theorem k_add3 : fAdd (.lst l) (.lst r) C = (l.length + r.length ≤ sizeLine ∧ C (.lst (l ++ r))) := rfl
theorem k_add4 : fAdd (.tup l) (.tup r) C = (l.length + r.length ≤ sizeLine ∧ C (.tup (l ++ r))) := rfl
theorem k_addL : fAddL (.lst l) (.lst r) CL = (l.length + r.length ≤ sizeLine ∧ CL (l ++ r)) := rfl
theorem k_sub : fSub (.int i) (.int j) C = C (.int (i - j)) := rfl
theorem k_mul1 : fMul (.int i) (.int j) C = (CMulX i j ∧ C (.int (i * j))) := rfl
theorem k_mul2 : fMul (.lst l) (.int j) C = (-(2 ^ 63) ≤ j ∧ j < 2 ^ 63 ∧ l.length * j.toNat ≤ sizeLine ∧ C (.lst (List.replicate j.toNat l).flatten)) := rfl
theorem k_mulL : fMulL (.lst l) (.int j) CL = (-(2 ^ 63) ≤ j ∧ j < 2 ^ 63 ∧ l.length * j.toNat ≤ sizeLine ∧ CL (List.replicate j.toNat l).flatten) := rfl
theorem k_div : fDiv (.int i) (.int j) C = (CDivW i j ∧ C (.int (i / j))) := rfl
theorem k_mod : fMod (.int i) (.int j) C = (0 < j ∧ C (.int (i % j))) := rfl
theorem k_pow : fPow (.int i) (.int j) C = (CPow i j ∧ C (.int (i ^ j.toNat))) := rfl
theorem k_cmp {p : Int → Int → Bool} : fCmp p (.int i) (.int j) C = C (.bl (p i j)) := rfl
theorem k_eq : fEq d e C = eqAns d e fun b => C (.bl b) := rfl
theorem k_ne : fNe d e C = eqAns d e fun b => C (.bl (!b)) := rfl
theorem k_ea1 : eqAns (.int i) (.int j) CB = CB (decide (i = j)) := rfl
theorem k_ea2 : eqAns (.str x) (.str y) CB = CB (decide (x = y)) := rfl
theorem k_ea3 : eqAns (.bl b) (.bl k) CB = CB (decide (b = k)) := rfl
theorem k_ea4 : eqAns (.lst l) (.lst []) CB = CB l.isEmpty := rfl
theorem k_in1 {neg : Bool} : fIn neg (.int i) (.lst l) C = (flatD (.int i) = true ∧ l.all flatD = true ∧ C (.bl (if neg then !inD (.int i) l else inD (.int i) l))) := rfl
theorem k_in2 {neg : Bool} : fIn neg (.int i) (.tup l) C = (flatD (.int i) = true ∧ l.all flatD = true ∧ C (.bl (if neg then !inD (.int i) l else inD (.int i) l))) := rfl
theorem k_in3 {neg : Bool} : fIn neg .non (.tup l) C = (flatD .non = true ∧ l.all flatD = true ∧ C (.bl (if neg then !inD .non l else inD .non l))) := rfl
theorem k_in4 {neg : Bool} : fIn neg .non (.lst l) C = (flatD .non = true ∧ l.all flatD = true ∧ C (.bl (if neg then !inD .non l else inD .non l))) := rfl
theorem k_ix1 : fIx (.lst l) (.int i) C = ∃ d, L2.atI l i = some d ∧ C d := rfl
theorem k_ix2 : fIx (.tup l) (.int i) C = ∃ d, L2.atI l i = some d ∧ C d := rfl
theorem k_ix3 : fIx (.str x) (.int i) C = ∃ c, x.length ≤ sizeLine ∧ L2.atI x.cps.toList i = some c ∧ C (.str ⟨#[c]⟩) := rfl
theorem k_sl1 : fSl (.lst l) lo hi C = C (.lst (cutD l lo hi)) := rfl
theorem k_sl2 : fSl (.tup l) lo hi C = C (.tup (cutD l lo hi)) := rfl
theorem k_len1 : fLen (.lst l) C = C (.int l.length) := rfl
theorem k_len2 : fLen (.tup l) C = C (.int l.length) := rfl
theorem k_len3 : fLen (.str x) C = (x.length ≤ sizeLine ∧ C (.int x.length)) := rfl
theorem k_int1 : fInt (.int i) C = C (.int i) := rfl
theorem k_int2 : fInt (.bl b) C = C (.int (if b then 1 else 0)) := rfl
theorem k_abs : fAbs (.int i) C = C (.int (if i < 0 then -i else i)) := rfl
theorem k_tuple1 : fTuple (.lst l) C = C (.tup l) := rfl
theorem k_tuple2 : fTuple (.tup l) C = C (.tup l) := rfl
theorem k_list1 : fList (.lst l) CL = CL l := rfl
theorem k_list2 : fList (.tup l) CL = CL l := rfl
theorem k_min2 : fMin2 (.int i) (.int j) C = C (.int (if j < i then j else i)) := rfl
theorem k_max2 : fMax2 (.int i) (.int j) C = C (.int (if j > i then j else i)) := rfl
theorem k_non_non : isNon .non = some true := rfl
theorem k_ty_int_non : isTy "int" .non = some false := rfl
theorem k_ty_bool_non : isTy "bool" .non = some false := rfl
theorem k_ty_tuple_non : isTy "tuple" .non = some false := rfl
theorem k_ty_str_non : isTy "str" .non = some false := rfl
theorem k_ty_list_non : isTy "list" .non = some false := rfl
theorem k_non_bl : isNon (.bl b) = some false := rfl
theorem k_ty_int_bl : isTy "int" (.bl b) = some true := rfl
theorem k_ty_bool_bl : isTy "bool" (.bl b) = some true := rfl
theorem k_ty_tuple_bl : isTy "tuple" (.bl b) = some false := rfl
theorem k_ty_str_bl : isTy "str" (.bl b) = some false := rfl
theorem k_ty_list_bl : isTy "list" (.bl b) = some false := rfl
theorem k_non_int : isNon (.int i) = some false := rfl
theorem k_ty_int_int : isTy "int" (.int i) = some true := rfl
theorem k_ty_bool_int : isTy "bool" (.int i) = some false := rfl
theorem k_ty_tuple_int : isTy "tuple" (.int i) = some false := rfl
theorem k_ty_str_int : isTy "str" (.int i) = some false := rfl
theorem k_ty_list_int : isTy "list" (.int i) = some false := rfl
theorem k_non_str : isNon (.str x) = some false := rfl
theorem k_ty_int_str : isTy "int" (.str x) = some false := rfl
theorem k_ty_bool_str : isTy "bool" (.str x) = some false := rfl
theorem k_ty_tuple_str : isTy "tuple" (.str x) = some false := rfl
theorem k_ty_str_str : isTy "str" (.str x) = some true := rfl
theorem k_ty_list_str : isTy "list" (.str x) = some false := rfl
theorem k_non_tup : isNon (.tup l) = some false := rfl
theorem k_ty_int_tup : isTy "int" (.tup l) = some false := rfl
theorem k_ty_bool_tup : isTy "bool" (.tup l) = some false := rfl
theorem k_ty_tuple_tup : isTy "tuple" (.tup l) = some true := rfl
theorem k_ty_str_tup : isTy "str" (.tup l) = some false := rfl
theorem k_ty_list_tup : isTy "list" (.tup l) = some false := rfl
theorem k_non_lst : isNon (.lst l) = some false := rfl
theorem k_ty_int_lst : isTy "int" (.lst l) = some false := rfl
theorem k_ty_bool_lst : isTy "bool" (.lst l) = some false := rfl
theorem k_ty_tuple_lst : isTy "tuple" (.lst l) = some false := rfl
theorem k_ty_str_lst : isTy "str" (.lst l) = some false := rfl
theorem k_ty_list_lst : isTy "list" (.lst l) = some true := rfl
theorem k_non_emp : isNon .emp = some false := rfl
theorem k_ty_int_emp : isTy "int" .emp = some false := rfl
theorem k_ty_bool_emp : isTy "bool" .emp = some false := rfl
theorem k_ty_tuple_emp : isTy "tuple" .emp = some false := rfl
theorem k_ty_str_emp : isTy "str" .emp = some false := rfl
theorem k_ty_list_emp : isTy "list" .emp = some false := rfl
theorem k_seq_non : seqD .non = none := rfl
theorem k_seq_bl : seqD (.bl b) = none := rfl
theorem k_seq_int : seqD (.int i) = none := rfl
theorem k_seq_str : seqD (.str x) = none := rfl
theorem k_seq_tup : seqD (.tup l) = some l := rfl
theorem k_seq_lst : seqD (.lst l) = some l := rfl
theorem k_seq_emp : seqD .emp = none := rfl
end
theorem k_sz0 : (0 ≤ sizeLine) = True := eq_true (size1M (by decide))
theorem k_sz1 : (1 ≤ sizeLine) = True := eq_true (size1M (by decide))
theorem k_sz2 : (2 ≤ sizeLine) = True := eq_true (size1M (by decide))
theorem k_sz3 : (3 ≤ sizeLine) = True := eq_true (size1M (by decide))
theorem k_sz4 : (4 ≤ sizeLine) = True := eq_true (size1M (by decide))
theorem k_sz5 : (5 ≤ sizeLine) = True := eq_true (size1M (by decide))
theorem k_sz6 : (6 ≤ sizeLine) = True := eq_true (size1M (by decide))
theorem k_sz7 : (7 ≤ sizeLine) = True := eq_true (size1M (by decide))
theorem k_sz8 : (8 ≤ sizeLine) = True := eq_true (size1M (by decide))
theorem k_sz9 : (9 ≤ sizeLine) = True := eq_true (size1M (by decide))
theorem k_sz10 : (10 ≤ sizeLine) = True := eq_true (size1M (by decide))
theorem k_sz11 : (11 ≤ sizeLine) = True := eq_true (size1M (by decide))
theorem k_sz12 : (12 ≤ sizeLine) = True := eq_true (size1M (by decide))
theorem k_sz13 : (13 ≤ sizeLine) = True := eq_true (size1M (by decide))
theorem k_sz14 : (14 ≤ sizeLine) = True := eq_true (size1M (by decide))
theorem k_sz15 : (15 ≤ sizeLine) = True := eq_true (size1M (by decide))
theorem k_sz16 : (16 ≤ sizeLine) = True := eq_true (size1M (by decide))
theorem k_sz17 : (17 ≤ sizeLine) = True := eq_true (size1M (by decide))
theorem k_sz18 : (18 ≤ sizeLine) = True := eq_true (size1M (by decide))
theorem k_sz19 : (19 ≤ sizeLine) = True := eq_true (size1M (by decide))
theorem k_sz20 : (20 ≤ sizeLine) = True := eq_true (size1M (by decide))
theorem k_sz21 : (21 ≤ sizeLine) = True := eq_true (size1M (by decide))
theorem k_sz22 : (22 ≤ sizeLine) = True := eq_true (size1M (by decide))
theorem k_sz23 : (23 ≤ sizeLine) = True := eq_true (size1M (by decide))
theorem k_at0 {α : Type} {a : α} {l : List α} : L2.atI (a :: l) 0 = some a := by
  exact atI_nat (j := 0) rfl
theorem k_at1 {α : Type} {a b : α} {l : List α} : L2.atI (a :: b :: l) 1 = some b := by
  exact atI_nat (j := 1) rfl
theorem k_at2 {α : Type} {a b c : α} {l : List α} : L2.atI (a :: b :: c :: l) 2 = some c := by
  exact atI_nat (j := 2) rfl
theorem k_at3 {α : Type} {a b c d : α} {l : List α} : L2.atI (a :: b :: c :: d :: l) 3 = some d := by
  exact atI_nat (j := 3) rfl
theorem k_iteT {A B : Prop} : (if true = true then A else B) = A := if_pos rfl
theorem k_iteF {A B : Prop} : (if false = true then A else B) = B := if_neg (by decide)
theorem k_bt1 {i : Nat} {d : Dt} {sl : Sl} : bindTg (.one i) d sl = some (sl.set i (some (.dat d))) := rfl
theorem k_bt2 {is : List Nat} {ds : List Dt} {sl : Sl} : bindTg (.many is) (.tup ds) sl = setAll is ds sl := rfl
theorem k_sa0 {sl : Sl} : setAll [] [] sl = some sl := rfl
theorem k_sa1 {i : Nat} {is : List Nat} {d : Dt} {ds : List Dt} {sl : Sl} : setAll (i :: is) (d :: ds) sl = setAll is ds (sl.set i (some (.dat d))) := rfl
theorem k_endn {Ω : Type} {C : Dt → Ω → Prop} {sl : Sl} {w : Ω} : (endD C).nx sl w = C .non w := rfl
theorem k_endr {Ω : Type} {C : Dt → Ω → Prop} {d : Dt} {w : Ω} : (endD C).rt d w = C d w := rfl
/-- a name's use, by what its slot holds -/
def varK {Ω : Type} (i : Nat) (o : Option (Option Sv)) (w : Ω) (C : Dt → Fl → Ω → Prop) : Prop := match o with
  | some (some (.dat d)) => C d .cl w
  | some (some (.mine (.lst l))) => C (.lst l) (.br i) w
  | _ => False
theorem k_var {Ω : Type} {i : Nat} {sl : Sl} {w : Ω} {C : Dt → Fl → Ω → Prop} : wVar i sl w C = varK i sl[i]? w C := rfl
theorem k_vk1 {Ω : Type} {i : Nat} {d : Dt} {w : Ω} {C : Dt → Fl → Ω → Prop} : varK i (some (some (.dat d))) w C = C d .cl w := rfl
theorem k_vk2 {Ω : Type} {i : Nat} {l : List Dt} {w : Ω} {C : Dt → Fl → Ω → Prop} : varK i (some (some (.own l))) w C = C (.lst l) (.br i) w := rfl
theorem k_par {a b : Dt} {Q : Dt → Dt → Prop} : (∃ d e, [a, b] = [d, e] ∧ Q d e) = Q a b := by
  refine propext ⟨fun ⟨d, e, h, q⟩ => ?_, fun q => ⟨a, b, rfl, q⟩⟩
  cases h
  exact q
/-- a draw -/
theorem use_draw {p : Addr} {k : Nat} {n : Int} {C : Dt → Dw → Prop} (h0 : 0 < n) (h1 : n < 2 ^ 60) (h2 : 1 ≤ k) (h : ∀ (i : Int) (m : Nat), 0 ≤ i → i < n → k ≤ m + 1 → C (.int i) ⟨p, m⟩) : S_law_draw.run [.opq (.ref p), .int n] ⟨p, k⟩ C := ⟨n, rfl, h0, h1, h2, h⟩
theorem use_one {p : Addr} {k : Nat} {l : List Dt} {C : Dt → Dw → Prop} (h0 : 0 < l.length) (h1 : l.length ≤ 1000000) (h2 : 1 ≤ k) (h : ∀ (d : Dt) (m : Nat), d ∈ l → k ≤ m + 1 → C d ⟨p, m⟩) : S_law_one.run [.opq (.ref p), .lst l] ⟨p, k⟩ C := ⟨l, rfl, ⟨h0, h1⟩, h2, h⟩
theorem use_pure {Ω ι : Type} {args : ι → List Dt} {ok : ι → Prop} {res : ι → Dt} {w : Ω} {C : Dt → Ω → Prop} (i : ι) (h : ok i) (hC : C (res i) w) : (pureS (Ω := Ω) args ok res).run (args i) w C := ⟨i, rfl, h, hC⟩
theorem use_drawS {ι : Type} {args : ι → List Dt} {ok : ι → Prop} {cost : ι → Nat} {post : ι → Dt → Prop} {p : Addr} {k : Nat} {C : Dt → Dw → Prop} (i : ι) (h : ok i) (hk : cost i ≤ k) (hC : ∀ d m, post i d → k ≤ m + cost i → C d ⟨p, m⟩) : (drawS args ok cost post).run (.opq (.ref p) :: args i) ⟨p, k⟩ C := ⟨i, rfl, h, hk, hC⟩
end Ck
namespace Ck
open PySem PySem.Spec PyProof.Rows L2
/-! ### list(zip(a, b)), lists -/
section
variable {B F G H H' : Hp} {p : Addr}
/-- all that is new but p -/
def news (F H H' : Hp) (p : Addr) : Hp := fun a => match F a with
  | some o => some o
  | none => if a = p then none else match H a with
    | some _ => none
    | none => H' a
theorem news_old {a : Addr} {o : HO} (h : F a = some o) : news F H H' p a = some o := by
  unfold news
  rw [h]
theorem news_new {a : Addr} (h : F a = none) (hH : H a = none) (hp : a ≠ p) : news F H H' p a = H' a := by
  unfold news
  rw [h, hH]
  exact if_neg hp
theorem news_cases {a : Addr} {o : HO} (h : news F H H' p a = some o) : F a = some o ∨ (F a = none ∧ H a = none ∧ a ≠ p ∧ H' a = some o) := by
  unfold news at h
  cases hF : F a with
  | some u =>
    rw [hF] at h
    exact .inl h
  | none =>
    rw [hF] at h
    by_cases hp : a = p
    · simp [hp] at h
    · cases hH : H a with
      | some u => simp [hp, hH] at h
      | none =>
        simp [hp, hH] at h
        exact .inr ⟨rfl, rfl, hp, h⟩
theorem SR.grow {Ω : Type} {K : PySem.W.Frag} {W : Wd Ω} {w : Ω} {σ : L2.St} {sl : Sl} (r : SR K W B F G H w σ sl) (e : Same H H') (hp : H p = none) : SR K W B (news F H H' p) G H' w σ sl ∧ Same F (news F H H' p) ∧ (news F H H' p) p = none := by
  have hn : news F H H' p p = none := by
    cases q : news F H H' p p with
    | none => rfl
    | some o =>
      rcases news_cases q with h | ⟨_, _, h, _⟩
      · have := r.hr.f _ _ h
        rw [hp] at this
        cases this
      · exact absurd rfl h
  refine ⟨r.to ⟨fun a o h => ?_, fun a o h => ?_, fun a o h => e _ _ (r.hr.g _ _ h), fun a o h => ?_, W.monoF _ _ _ _ (fun a o h => news_old h) r.hr.w, r.hr.k⟩ (fun a o h => news_old h) fun i l a vs _ _ h hB hF hG _ => ⟨e _ _ h, ?_, hG⟩, fun a o h => news_old h, hn⟩
  · obtain ⟨h1, h2, h3⟩ := r.hr.b a o h
    refine ⟨e _ _ h1, h2.imp (fun h2 => ?_) id, h3⟩
    cases q : news F H H' p a with
    | none => rfl
    | some o' =>
      rcases news_cases q with z | ⟨_, z, _, _⟩
      · rw [h2] at z
        cases z
      · rw [h1] at z
        cases z
  · rcases news_cases h with z | ⟨_, _, _, z⟩
    · exact e _ _ (r.hr.f _ _ z)
    · exact z
  · rcases news_cases h with z | ⟨_, z, _, _⟩
    · exact r.hr.d _ _ z
    · exact .inl (r.hr.g.free z)
  · cases q : news F H H' p a with
    | none => rfl
    | some o' =>
      rcases news_cases q with z | ⟨_, z, _, _⟩
      · rw [hF] at z
        cases z
      · rw [h] at z
        cases z
end
def tListZip (K : PySem.W.Frag) (ta : TA) : TE := fun σ H Q => ta σ H fun vs H1 => ∃ a b xs ys, vs = [.ref a, .ref b] ∧ SqL K H1 a xs ∧ SqL K H1 b ys ∧
  ∀ H' p ts, H1 p = none → H' p = some (.lst (ts.map V.ref)) → ts.length = min xs.length ys.length → Prs H' xs ys ts → Same H1 H' → (∀ t ∈ ts, H1 t = none ∧ t ≠ p) → Q (.ref p) H'
theorem pe_listZip {X : Cx} {e e2 : Expr} {ta : TA} {p p2 q pos : Pos} (hg : Gl X "list") (hm : X.mg "list" = none) (hg2 : Gl X "zip") (hm2 : X.mg "zip" = none) (ha : PA X [e, e2] ta) (hc : X.calm = true := by rfl)
    (na : starEach [e, e2] X.env = (false, eval e X.env) :: starEach [e2] X.env := by rfl) (hpl : (backTo q (starEach [e2] X.env)).any (·.1) = false := by rfl) (na2 : starEach [.Call (.Name "zip" p2) [e, e2] [] q] X.env = (false, eval (.Call (.Name "zip" p2) [e, e2] [] q) X.env) :: starEach [] X.env := by rfl) :
    PE X (.Call (.Name "list" p) [.Call (.Name "zip" p2) [e, e2] [] q] [] pos) (tListZip X.K ta) := by
  refine ⟨fun pins s σ H Q I h => ?_⟩
  refine Call_ (ld_blt I hg hm PySem.Pv.boot_list ?_)
  refine PyProof.Rows.callWith_type1 (PyProof.Rows.args_cons ?_ na2) rfl rfl
  refine Call_ (ld_blt I hg2 hm2 PyProof.Rows.boot_zip (PyProof.Rows.callWith_type1 (thn (ha.run q pins s σ H _ I h) fun us s1 ⟨vs, H1, I1, r1, q1⟩ => ?_) na hpl))
  obtain ⟨a, b, xs, ys, ex, hqx, hqy, q1⟩ := q1
  subst ex
  cases r1 with
  | cons r rr =>
    cases rr with
    | cons r' rr =>
      cases rr
      cases r
      cases r'
      obtain ⟨its, rv, p1, _⟩ := I1.list hqx
      obtain ⟨its2, rv2, p2, _⟩ := I1.list hqy
      refine call_zip_2 p1.isList p2.isList fun h' hz hTI hTO h1 h2 hsz hk => ?_
      have I2 : Inv X pins σ H1 { s1 with heap := h' } := I1.kept (t' := s1.toks) hk
      refine PyProof.Rows.args_nil ?_
      refine list_of_zip (PySem.W.ktu_apart s1.heap.objs.size a b p1.lt p2.lt) (I2.ok.hd hc) I2 (fun c hcm => ?_) hz hTI ⟨_, _, hTO⟩ h1 h2 hqx hqy fun s' H' p ts J k1 k2 k3 k4 k5 k6 => ⟨.ref p, H', J, rfl, q1 H' p ts k1 k2 k3 k4 k5 k6⟩
      have hle : s1.heap.objs.size ≤ c := by
        simp only [List.mem_cons, List.not_mem_nil, or_false] at hcm
        rcases hcm with z | z | z | z | z <;> rw [z] <;> first | exact Nat.le_add_right _ _ | exact Nat.le_refl _
      exact I1.fpOk hle (I1.hok.fresh hle)
section
variable {Ω : Type} {X : Cx} {W : Wd Ω} {a b : Expr} {p q : DE Ω}
def wListZip (p q : DE Ω) : DL Ω := fun sl w C => p sl w fun d fl w1 => fl = .cl ∧ q sl w1 fun e fl2 w2 => fl2 = .cl ∧ ∃ l r, d = .lst l ∧ e = .lst r ∧ C (zipD l r) w2
theorem prs_zip {K : PySem.W.Frag} {F : Hp} : ∀ {xs ys : List V} {l r : List Dt} {ts : List Addr}, DrL K F xs l → DrL K F ys r → ts.length = min xs.length ys.length → Prs F xs ys ts → DrL K F (ts.map V.ref) (zipD l r)
  | _, _, _, _, [], .nil, h2, _, _ => by
    cases h2
    · exact .nil
    · exact .nil
  | _, _, _, _, [], .cons _ _, .nil, _, _ => .nil
  | _, _, _, _, [], .cons _ _, .cons _ _, h, _ => by simp at h
  | _, _, _, _, t :: ts, .nil, h2, h, _ => by simp at h
  | _, _, _, _, t :: ts, .cons _ _, .nil, h, _ => by simp at h
  | _, _, _, _, t :: ts, .cons a1 a2, .cons b1 b2, h, hp => by
    obtain ⟨x, y, e1, e2, e3⟩ := hp 0 t rfl
    cases e1
    cases e2
    refine .cons (.tup e3 (.cons a1 (.cons b1 .nil))) (prs_zip a2 b2 (by simp at h ⊢; omega) fun j u hu => ?_)
    obtain ⟨x', y', k1, k2, k3⟩ := hp (j + 1) u hu
    exact ⟨x', y', k1, k2, k3⟩
theorem dl_zip {p1 p2 q1 pos : Pos} (hg : Gl X "list") (hm : X.mg "list" = none) (hg2 : Gl X "zip") (hm2 : X.mg "zip" = none) (ha : PD X W a p) (hb : PD X W b q) (hc : X.calm = true := by rfl)
    (na : starEach [a, b] X.env = (false, eval a X.env) :: starEach [b] X.env := by rfl) (nb : starEach [b] X.env = [(false, eval b X.env)] := by rfl) (hpl : (backTo q1 (starEach [b] X.env)).any (·.1) = false := by rfl) (na2 : starEach [.Call (.Name "zip" p2) [a, b] [] q1] X.env = (false, eval (.Call (.Name "zip" p2) [a, b] [] q1) X.env) :: starEach [] X.env := by rfl) :
    PDL X W (.Call (.Name "list" p1) [.Call (.Name "zip" p2) [a, b] [] q1] [] pos) (wListZip p q) := by
  refine ⟨pe_imp (pe_listZip hg hm hg2 hm2 (pa_cons ha.run (pa_cons hb.run pa_nil nb) na) hc na hpl na2) fun σ H Q ⟨B, F, G, w, sl, r, z⟩ => ?_, fun sl w C C' hC z => ha.mono _ _ _ _ (fun d fl w1 ⟨z0, z1⟩ => ⟨z0, hb.mono _ _ _ _ (fun e fl2 w2 ⟨z2, l, r, z3, z4, z5⟩ => ⟨z2, l, r, z3, z4, hC _ _ z5⟩) z1⟩) z⟩
  refine ⟨B, F, G, w, sl, r, ha.mono _ _ _ _ (fun d fl w1 ⟨z0, z1⟩ v F1 G1 H1 r1 e1 f1 => ?_) z⟩
  subst z0
  refine ⟨B, F1, G1, w1, sl, r1, hb.mono _ _ _ _ (fun e fl2 w2 ⟨z2, l, m, z3, z4, z5⟩ v2 F2 G2 H2 r2 e2 f2 => ?_) z1⟩
  subst z2 z3 z4
  have f1' := Dr.mono e2 f1
  cases f1' with
  | lst h1 d1 =>
    cases f2 with
    | lst h2 d2 =>
      refine ⟨_, _, _, _, rfl, SqL.of (r2.hr.f _ _ h1), SqL.of (r2.hr.f _ _ h2), fun H' p ts k1 k2 k3 k4 k5 k6 => ?_⟩
      obtain ⟨r3, e3, hpn⟩ := r2.grow k5 k1
      have hb := r2.fresh k1
      refine z5 p (ts.map V.ref) _ G2 H' r3 ((e1.trans e2).trans e3) hb.1 hb.2 k2 hpn (r2.hr.g.free k1) (prs_zip (d1.mono e3) (d2.mono e3) k3 fun j t ht => ?_)
      obtain ⟨x, y, u1, u2, u3⟩ := k4 j t ht
      refine ⟨x, y, u1, u2, ?_⟩
      obtain ⟨n1, n2⟩ := k6 t (List.mem_of_getElem? ht)
      rw [news_new (r2.hr.f.free n1) n1 n2]
      exact u3
end
/-! ### {} -/
section
variable {Ω : Type} {X : Cx} {W : Wd Ω} {pos : Pos}
def wEmp : DE Ω := fun _ w C => C .emp .cl w
theorem d_emp : PD X W (.Dict [] [] pos) wEmp := by
  refine ⟨pe_imp pe_dnewK fun σ H Q ⟨B, F, G, w, sl, r, z⟩ => ?_, fun sl w C C' hC z => hC _ _ _ z⟩
  intro p hn
  exact z (.ref p) _ G _ (r.new hn) (sameUpd (r.hr.f.free hn)) (.emp upd_same)
end
/-! ### _law_one(deck, xs), xs a list of one's own that stays so -/
def spOneB (K : PySem.W.Frag) : Sp := fun vs H Q _ => ∃ B F G w a us, HR DeckW B F G H w ∧ vs = [.ref w.p, .ref a] ∧ B a = some (.lst us) ∧ 0 < us.length ∧ us.length ≤ 1000000 ∧ 1 ≤ w.n ∧
  ∀ (v : V) (m : Nat) (F' G' H' : Hp), v ∈ us → w.n ≤ m + 1 → HR DeckW B F' G' H' ⟨w.p, m⟩ → Same F F' → Q v H'
structure OneB (P : Program) (w : World) (K : PySem.W.Frag) (mg : Str → Option Value) (base : Heap) : Prop where
  ex : ∃ (f : Addr) (fd : FuncData), FnG P w K mg base CX0 2 f fd ["_law_deck_here", "_law_items"] (spOneB K) ∧ mg "_law_one" = some (.ref f) ∧ PySem.W.keepIn K (.ref f) = true ∧ Binds K fd ["_law_deck_here", "_law_items"] []
def wOneB (i : Nat) (p : DE Dw) : DE Dw := fun sl w C => p sl w fun d _ w1 => ∃ l, sl[i]? = some (some (.own l)) ∧ d = .opq (.ref w1.p) ∧ 0 < l.length ∧ l.length ≤ 1000000 ∧ 1 ≤ w1.n ∧ ∀ (d : Dt) (m : Nat), d ∈ l → w1.n ≤ m + 1 → C d .cl ⟨w1.p, m⟩
theorem DrL.mem {K : PySem.W.Frag} {F : Hp} {v : V} : ∀ {vs : List V} {l : List Dt}, DrL K F vs l → v ∈ vs → ∃ d ∈ l, Dr K F v d
  | _, _, .nil, h => nomatch h
  | _, _, .cons a b, h => by
    rcases List.mem_cons.mp h with rfl | h
    · exact ⟨_, List.mem_cons_self, a⟩
    · obtain ⟨d, h1, h2⟩ := DrL.mem b h
      exact ⟨d, List.mem_cons_of_mem _ h1, h2⟩
theorem d_oneB {X : Cx} {e : Expr} {p : DE Dw} {k : Nat} {x : Str} {i : Nat} {q1 q2 pos : Pos} (c : OneB X.prog X.w X.K X.mg X.base) (hgu : X.A.guards = some []) (hr : Room k X.A) (hk : 2 ≤ k) (hg : Gl X "_law_one") (ha : PD X DeckW e p) (hx : PE X (.Name x q1) (tVar i))
    (he : starEach (e :: [.Name x q1]) X.env = (false, eval e X.env) :: starEach [.Name x q1] X.env := by rfl) (he2 : starEach [.Name x q1] X.env = (false, eval (.Name x q1) X.env) :: starEach [] X.env := by rfl) (hpl : (backTo pos (starEach [.Name x q1] X.env)).any (·.1) = false := by rfl) :
    PD X DeckW (.Call (.Name "_law_one" q2) [e, .Name x q1] [] pos) (wOneB i p) := by
  have pass : Passes CX0 X E0 := pass0
  obtain ⟨f, fd, g, hm, hkp, hb⟩ := c.ex
  refine ⟨pe_imp (pe_callG g hgu (hr.mono hk) hg hm hkp hb pass (pa_cons ha.run (pa_cons hx pa_nil he2) he) (by decide) he hpl) fun σ H Q ⟨B, F, G, w, sl, r, z⟩ => ?_, fun sl w C C' hC z => ha.mono _ _ _ _ (fun d fl w1 ⟨l, z1, z2, z3, z4, z5, z6⟩ => ⟨l, z1, z2, z3, z4, z5, fun d m h1 h2 => hC _ _ _ (z6 d m h1 h2)⟩) z⟩
  refine ⟨B, F, G, w, sl, r, ha.mono _ _ _ _ (fun d fl w1 ⟨l, z1, z2, z3, z4, z5, z6⟩ v F1 G1 H1 r1 e1 f1 => ?_) z⟩
  subst z2
  obtain rfl := (f1.da r1).opq
  obtain ⟨a, vs, s1, s2, s3, s4, s5, s6⟩ := r1.getOwn z1
  refine ⟨.ref a, s1, rest F1 G1 H1, F1, G1, w1, a, vs, r1.hr.toRest.2, rfl, rest_eq.mpr ⟨s5, .inl ⟨s3, s4⟩⟩, by rw [s6.len]; exact z3, by rw [s6.len]; exact z4, z5, fun v m F' G' H' hv hn hh e2 => ?_⟩
  obtain ⟨d, hd, hD⟩ := s6.mem hv
  exact z6 d m hd hn v F' G' H' (r1.back hh e2) (e1.trans e2) (hD.mono e2)
theorem gint_of {K : PySem.W.Frag} {h : Heap} {mg : Str → Option Value} {n : Str} {v : Int} {t : Tok} (X : K.In h) (G : h.Ns mainGlobals mg) (e : PySem.W.nsIn K mainGlobals n = some (some (.int v t))) : ∃ t, mg n = some (.int v t) := ⟨t, PySem.W.mg_of X G e⟩
theorem le3 {j c : Nat} (n : Nat) (h : j ≤ c) : j ≤ c + n := Nat.le_trans h (Nat.le_add_right c n)
end Ck
namespace Ck
open PySem PySem.Spec PyProof.Rows L2
theorem tuple_mul0 (l : Addr) (n : Nat) (x : Int) (u : Tok) (sl : Array (Option Value)) (dd : Option Addr) (c0 : (decide (x < -(2 ^ 63)) || decide (x ≥ 2 ^ 63)) = false) :
    Meets (Builtin.«tuple.__mul__» ⟨[.ref l, .int x u], []⟩) (fun _ R s => s.heap.get? l = some { cls := .type "tuple", dict := dd, data := .seq #[] n, slots := sl } ∧ R (.ok (.ret (Value.ref l))) s) :=
  .of_wp fun prog w A R s h => by
    obtain ⟨hp, g, d, tk, os⟩ := s
    obtain ⟨hl, h⟩ := h
    have f1 := AutoSeq1.idx_int
    wp_walk using AutoSeq1.wpAny_loadPart' hl
    repeat (first
      | (refine wpAny_ite_false (decide_eq_false (by rw [c0]; exact Bool.false_ne_true)) ?_; wp_walk using AutoSeq1.wpAny_loadPart' hl)
      | (refine wpAny_ite_true (decide_eq_true (by rfl)) ?_; wp_walk using AutoSeq1.wpAny_loadPart' hl))
    exact ⟨_, rfl, h⟩
/-- t * n: nothing of nothing; else n from 2 on -/
def rRepT0 (K : PySem.W.Frag) : R2 := fun x y H Q => ∃ l k, x = .ref l ∧ y = .int k ∧ SqT K H l [] ∧ -(2 ^ 63) ≤ k ∧ k < 2 ^ 63 ∧ Q (.ref l) H
theorem op_repT0 {X : Cx} : OpR X (binaryOp .Mult) (rRepT0 X.K) := by
  intro pins s σ H x y v u Q I rx ry h
  obtain ⟨l, k, rfl, rfl, hT, h1, h2, q⟩ := h
  cases rx
  obtain ⟨t, rfl⟩ := ry
  obtain ⟨its, r, ⟨⟨cls, dd, data, sl⟩, ho, hc, n, hd⟩, hs⟩ := I.tuple hT
  simp only at hc hd
  subst hc hd
  cases r
  have c0 : (decide (k < -(2 ^ 63)) || decide (k ≥ 2 ^ 63)) = false := by
    rw [decide_eq_false (by omega), decide_eq_false (by omega)] <;> rfl
  exact wpAny_binaryOp_repeat_ref (T := "tuple") (U := "int") (by decide) ⟨_, ho, rfl⟩ (fun s' => typeIs_int s' k t) noFill_tuple_mul F.fills_int_mul F.slot_int_rmul repeat_tuple F.slot_int_index.lookup
    (call_meets F.slot_int_rmul (typeIs_int s k t) F.entry_int_rmul (F.args_int_rmul_2 _ _) (int_rmul_tuple k t l [].toArray n dd sl)
      ⟨ho, rfl, ⟨_, ho, rfl⟩, call_meets F.slot_tuple_mul ⟨_, ho, rfl⟩ F.entry_tuple_mul (F.args_tuple_mul_2 _ _) (tuple_mul0 l n k t sl dd c0) ⟨ho, .ref l, H, I, rfl, q⟩⟩)
def fMulT : Dt → Dt → (Dt → Prop) → Prop
  | .tup l, .int k, C => 2 ≤ k ∧ k ≤ 1000 ∧ l.length ≤ 1000 ∧ C (.tup (List.replicate k.toNat l).flatten)
  | _, _, _ => False
def rMulT (K : PySem.W.Frag) : R2 := fun x y H Q => rRepT0 K x y H Q ∨ rRepT K x y H Q
theorem op_mulT {X : Cx} : OpR X (binaryOp .Mult) (rMulT X.K) := opr_or op_repT0 op_repT
theorem od_mulT {K : PySem.W.Frag} : OpD K (rMulT K) fMulT := by
  refine ⟨fun F H xv yv x y Q C e hx hy h q => ?_, fun x y C C' hC h => ?_⟩
  · cases x with
    | tup l =>
      cases y with
      | int k =>
        have h : 2 ≤ k ∧ k ≤ 1000 ∧ l.length ≤ 1000 ∧ C (.tup (List.replicate k.toNat l).flatten) := h
        obtain ⟨a, vs, rfl, ha, da, dx⟩ := hx.tupS
        have h2 := hy.int; subst h2
        cases vs with
        | nil =>
          cases da
          refine .inl ⟨a, k, rfl, rfl, sameSeqT e ha, by omega, by omega, ?_⟩
          have e3 : (List.replicate k.toNat ([] : List Dt)).flatten = [] := by simp
          have h4 := h.2.2.2
          rw [e3] at h4
          exact q _ _ F H h4 (.refl dx)
        | cons v vs => exact .inr ⟨a, k, v :: vs, rfl, rfl, sameSeqT e ha, (fun z => nomatch z), h.1, h.2.1, by rw [da.len]; exact h.2.2.1, fun p hp => q _ _ _ _ h.2.2.2 (.tup hp e (da.rep _))⟩
      | _ => exact False.elim h
    | _ => exact False.elim h
  · unfold fMulT at h ⊢
    split at h <;> first | exact ⟨h.1, h.2.1, h.2.2.1, hC _ h.2.2.2⟩ | exact h.elim
theorem k_mulT {l : List Dt} {j : Int} {C : Dt → Prop} : fMulT (.tup l) (.int j) C = (2 ≤ j ∧ j ≤ 1000 ∧ l.length ≤ 1000 ∧ C (.tup (List.replicate j.toNat l).flatten)) := rfl
end Ck
namespace Ck
open PySem PySem.Spec PyProof.Rows L2
/-! ### stores of two at once, of which one is a list of one's own -/
section
variable {Ω : Type} {K : PySem.W.Frag} {W : Wd Ω} {B F G H : Hp} {w : Ω} {σ : L2.St} {sl : Sl} {p : Addr} {o : HO}
/-- what one holds oneself is kept while other things are worked out -/
theorem SR.keep (r : SR K W B F G H w σ sl) (hn : NoOwn σ sl p) (hH : H p = some o) (hF : F p = none) (hG : G p = none) (hB : B p = none) : SR K W (upd B p o) F G H w σ sl := by
  refine ⟨⟨fun a x e => ?_, r.hr.f, r.hr.g, r.hr.d, r.hr.w, W.monoB _ _ (sameUpd hB) r.hr.k⟩, r.len, fun i x q => ?_, r.o⟩
  · by_cases h : a = p
    · subst h
      rw [upd_same] at e
      cases e
      exact ⟨hH, .inl hF, .inl hG⟩
    · rw [upd_ne h] at e
      exact r.hr.b a x e
  · obtain ⟨v, h1, h2⟩ := r.s i x q
    refine ⟨v, h1, ?_⟩
    cases x with
    | dat d => exact h2
    | mine l =>
      obtain ⟨a, vs, rfl, hB, h3⟩ := h2
      have hne : a ≠ p := fun e => hn i l q (e ▸ h1)
      exact ⟨a, vs, rfl, by rw [upd_ne hne]; exact hB, h3⟩
theorem SR.unkeep (r : SR K W (upd B p o) F G H w σ sl) (hB : B p = none) (hk : W.bk B) (ht : ¬ IsTp o := by exact fun z => nomatch z) : SR K W B F G H w σ sl ∧ H p = some o ∧ F p = none ∧ G p = none := by
  obtain ⟨h1, h2, h3⟩ := r.hr.b p o upd_same
  refine ⟨⟨⟨fun a x e => ?_, r.hr.f, r.hr.g, r.hr.d, r.hr.w, hk⟩, r.len, fun i x q => ?_, r.o⟩, h1, h2.resolve_right ht, h3.resolve_right ht⟩
  · exact r.hr.b a x (by rw [upd_ne (ne_of_none e hB)]; exact e)
  · obtain ⟨v, h1, h2⟩ := r.s i x q
    refine ⟨v, h1, ?_⟩
    cases x with
    | dat d => exact h2
    | mine l =>
      obtain ⟨a, vs, rfl, hB2, h3⟩ := h2
      refine ⟨a, vs, rfl, ?_, h3⟩
      by_cases h : a = p
      · rw [h]
        exact hB
      · rw [upd_ne h] at hB2
        exact hB2
end
section
variable {Ω : Type} {X : Cx} {W : Wd Ω} {pe : DE Ω} {pl pr : DL Ω} {a b : Expr} {pos : Pos}
def wParOD (i j : Nat) (pl : DL Ω) (pe : DE Ω) : DS Ω := fun D sl w => pl sl w fun l w1 => pe sl w1 fun d fl w2 => fl = .cl ∧ D.nx ((sl.set i (some (.own l))).set j (some (.dat d))) w2
def wParDO (i j : Nat) (pe : DE Ω) (pl : DL Ω) : DS Ω := fun D sl w => pe sl w fun d fl w1 => fl = .cl ∧ pl sl w1 fun l w2 => D.nx ((sl.set i (some (.dat d))).set j (some (.own l))) w2
def wParOO (i j : Nat) (pl pr : DL Ω) : DS Ω := fun D sl w => pl sl w fun l w1 => pr sl w1 fun m w2 => D.nx ((sl.set i (some (.own l))).set j (some (.own m))) w2
theorem ds_parOD {i j : Nat} {x y : Str} {px py pt : Pos} {kt k2 pt2} (hc : X.calm = true) (hN : X.N.Nodup) (hi : X.N[i]? = some x) (hj : X.N[j]? = some y) (hij : i ≠ j) (hx : X.env.scope.names.lookup x = some .local) (hy : X.env.scope.names.lookup y = some .local)
    (ha : PDL X W a pl) (hb : PD X W b pe) (hw : swappedStores [.Tuple [.Name x px, .Name y py] kt pt] (.Tuple [a, b] k2 pt2) X.env = pure (some [x, y]))
    (hs : ∀ {t : TA}, PA X [a, b] t → PS X (.Assign [.Tuple [.Name x px, .Name y py] kt pt] (.Tuple [a, b] k2 pt2) pos) (tPar i j t))
    (s1 : starEach [a, b] X.env = (false, eval a X.env) :: starEach [b] X.env := by rfl) (s2 : starEach [b] X.env = (false, eval b X.env) :: starEach [] X.env := by rfl) :
    PDS X W (.Assign [.Tuple [.Name x px, .Name y py] kt pt] (.Tuple [a, b] k2 pt2) pos) (wParOD i j pl pe) := by
  refine ⟨ps_imp (hs (pa_cons ha.run (pa_cons hb.run pa_nil s2) s1)) fun D σ H ⟨B, F, G, w, sl, r, z⟩ => ?_, fun D D' l sl w z => ha.mono _ _ _ _ (fun d w1 z => hb.mono _ _ _ _ (fun d fl w2 ⟨z0, z⟩ => ⟨z0, l.nx _ _ z⟩) z) z⟩
  refine ⟨B, F, G, w, sl, r, ha.mono _ _ _ _ (fun l w1 z p vs F1 G1 H1 r1 e1 hB hn hH hF hG hD => ?_) z⟩
  refine ⟨_, F1, G1, w1, sl, r1.keep hn hH hF hG hB, hb.mono _ _ _ _ (fun d fl w2 ⟨z0, z⟩ v F2 G2 H2 r2 e2 f2 => ?_) z⟩
  subst z0
  obtain ⟨r3, q1, q2, q3⟩ := r2.unkeep hB r1.hr.k
  exact ⟨.ref p, v, rfl, z _ F2 G2 H2 ((r3.ownSet i hB q2 q3 q1 (hD.mono e2) fun j m h1 _ => hn j m h1).dat j f2) (e1.trans e2)⟩
theorem ds_parDO {i j : Nat} {x y : Str} {px py pt : Pos} {kt k2 pt2} (hc : X.calm = true) (hN : X.N.Nodup) (hi : X.N[i]? = some x) (hj : X.N[j]? = some y) (hij : i ≠ j) (hx : X.env.scope.names.lookup x = some .local) (hy : X.env.scope.names.lookup y = some .local)
    (ha : PD X W a pe) (hb : PDL X W b pl) (hw : swappedStores [.Tuple [.Name x px, .Name y py] kt pt] (.Tuple [a, b] k2 pt2) X.env = pure (some [x, y]))
    (hs : ∀ {t : TA}, PA X [a, b] t → PS X (.Assign [.Tuple [.Name x px, .Name y py] kt pt] (.Tuple [a, b] k2 pt2) pos) (tPar i j t))
    (s1 : starEach [a, b] X.env = (false, eval a X.env) :: starEach [b] X.env := by rfl) (s2 : starEach [b] X.env = (false, eval b X.env) :: starEach [] X.env := by rfl) :
    PDS X W (.Assign [.Tuple [.Name x px, .Name y py] kt pt] (.Tuple [a, b] k2 pt2) pos) (wParDO i j pe pl) := by
  refine ⟨ps_imp (hs (pa_cons ha.run (pa_cons hb.run pa_nil s2) s1)) fun D σ H ⟨B, F, G, w, sl, r, z⟩ => ?_, fun D D' l sl w z => ha.mono _ _ _ _ (fun d fl w1 ⟨z0, z⟩ => ⟨z0, hb.mono _ _ _ _ (fun d w2 z => l.nx _ _ z) z⟩) z⟩
  refine ⟨B, F, G, w, sl, r, ha.mono _ _ _ _ (fun d fl w1 ⟨z0, z⟩ v F1 G1 H1 r1 e1 f1 => ?_) z⟩
  subst z0
  refine ⟨B, F1, G1, w1, sl, r1, hb.mono _ _ _ _ (fun l w2 z p vs F2 G2 H2 r2 e2 hB hn hH hF hG hD => ?_) z⟩
  refine ⟨v, .ref p, rfl, z _ F2 G2 H2 ((r2.dat i (Dr.mono e2 f1)).ownSet j hB hF hG hH hD fun k m h1 hk => ?_) (e1.trans e2)⟩
  by_cases h : i = k
  · subst h
    rw [List.getElem?_set] at h1
    rw [if_pos rfl] at h1
    split at h1 <;> cases h1
  · rw [List.getElem?_set_ne h] at h1 ⊢
    exact hn k m h1
theorem ds_parOO {i j : Nat} {x y : Str} {px py pt : Pos} {kt k2 pt2} (hc : X.calm = true) (hN : X.N.Nodup) (hi : X.N[i]? = some x) (hj : X.N[j]? = some y) (hij : i ≠ j) (hx : X.env.scope.names.lookup x = some .local) (hy : X.env.scope.names.lookup y = some .local)
    (ha : PDL X W a pl) (hb : PDL X W b pr) (hw : swappedStores [.Tuple [.Name x px, .Name y py] kt pt] (.Tuple [a, b] k2 pt2) X.env = pure (some [x, y]))
    (hs : ∀ {t : TA}, PA X [a, b] t → PS X (.Assign [.Tuple [.Name x px, .Name y py] kt pt] (.Tuple [a, b] k2 pt2) pos) (tPar i j t))
    (s1 : starEach [a, b] X.env = (false, eval a X.env) :: starEach [b] X.env := by rfl) (s2 : starEach [b] X.env = (false, eval b X.env) :: starEach [] X.env := by rfl) :
    PDS X W (.Assign [.Tuple [.Name x px, .Name y py] kt pt] (.Tuple [a, b] k2 pt2) pos) (wParOO i j pl pr) := by
  refine ⟨ps_imp (hs (pa_cons ha.run (pa_cons hb.run pa_nil s2) s1)) fun D σ H ⟨B, F, G, w, sl, r, z⟩ => ?_, fun D D' l sl w z => ha.mono _ _ _ _ (fun d w1 z => hb.mono _ _ _ _ (fun d w2 z => l.nx _ _ z) z) z⟩
  refine ⟨B, F, G, w, sl, r, ha.mono _ _ _ _ (fun l w1 z p vs F1 G1 H1 r1 e1 hB hn hH hF hG hD => ?_) z⟩
  refine ⟨_, F1, G1, w1, sl, r1.keep hn hH hF hG hB, hb.mono _ _ _ _ (fun m w2 z q us F2 G2 H2 r2 e2 hB2 hn2 hH2 hF2 hG2 hD2 => ?_) z⟩
  obtain ⟨r3, q1, q2, q3⟩ := r2.unkeep hB r1.hr.k
  have hpq : q ≠ p := fun e => by
    rw [e, upd_same] at hB2
    cases hB2
  have hBq : B q = none := by
    rw [upd_ne hpq] at hB2
    exact hB2
  refine ⟨.ref p, .ref q, rfl, z _ F2 G2 H2 ((r3.ownSet i hB q2 q3 q1 (hD.mono e2) fun j m h1 _ => hn j m h1).ownSet j hBq hF2 hG2 hH2 hD2 fun k m h1 hk => ?_) (e1.trans e2)⟩
  by_cases h : i = k
  · subst h
    rw [List.getElem?_set]
    rw [if_pos rfl]
    split
    · intro e
      cases e
      exact hpq rfl
    · intro e
      cases e
  · rw [List.getElem?_set_ne h] at h1 ⊢
    exact hn2 k m h1
end
end Ck
namespace Ck
open PySem PySem.Spec PyProof.Rows L2
/-! ### where an int stands in a list -/
section
variable {Ω : Type} {X : Cx} {W : Wd Ω} {po pe : DE Ω} {o e : Expr} {pos : Pos}
def wIndex (po pe : DE Ω) : DE Ω := fun sl w C => po sl w fun d fl w1 => fl = .cl ∧ ∃ ns : List Int, d = .lst (ns.map .int) ∧ pe sl w1 fun x fl2 w2 => ∃ (i : Int) (j : Nat), x = .int i ∧ ns[j]? = some i ∧ (∀ m, m < j → ns[m]? ≠ some i) ∧ C (.int (j : Nat)) .cl w2
theorem d_index {name : Str} {apos cpos : Pos} (ho : PD X W o po) (he : PD X W e pe) (hb : ∀ {to : TE} {t : TA}, PE X o to → PA X [e] t → PE X (.Call (.Attribute o name apos) [e] [] cpos) (tBM X.K "list" (rIndex X.K) to t))
    (hs1 : starEach (e :: []) X.env = (false, eval e X.env) :: starEach [] X.env := by rfl) : PD X W (.Call (.Attribute o name apos) [e] [] cpos) (wIndex po pe) := by
  refine ⟨pe_imp (hb ho.run (pa_cons he.run pa_nil hs1)) fun σ H Q ⟨B, F, G, w, sl, r, z⟩ => ?_, fun sl w C C' hC z => ho.mono _ _ _ _ (fun d fl w1 ⟨z0, ns, z1, z⟩ => ⟨z0, ns, z1, he.mono _ _ _ _ (fun x fl2 w2 ⟨i, j, a2, a3, a4, a5⟩ => ⟨i, j, a2, a3, a4, hC _ _ _ a5⟩) z⟩) z⟩
  refine ⟨B, F, G, w, sl, r, ho.mono _ _ _ _ (fun d fl w1 ⟨z0, ns, z1, z⟩ v F1 G1 H1 r1 e1 f1 => ?_) z⟩
  subst z0 z1
  obtain ⟨a, vs, rfl, hH, hD⟩ := (f1.da r1).lst r1.hr.f
  refine ⟨.inl ⟨rfl, vs, SqL.of hH⟩, B, F1, G1, w1, sl, r1, he.mono _ _ _ _ (fun x fl2 w2 ⟨i, j, a2, a3, a4, a5⟩ u F2 G2 H2 r2 e2 f2 => ?_) z⟩
  subst a2
  have hu := (f2.da r2).int
  subst hu
  obtain ⟨a', vs', e', hH2, hD2⟩ := (FlOk.da (fl := .cl) r2 (Dr.mono e2 f1)).lst r2.hr.f
  cases e'
  have ev := hD2.ints
  subst ev
  refine ⟨a, ns.map V.int, .int i, j, .int i, rfl, rfl, SqL.of hH2, rfl, ?_, by rw [List.getElem?_map, a3]; rfl, by simp [eqV], fun m z' hm hz => ?_, a5 (.int (j : Nat)) F2 G2 H2 r2 (e1.trans e2) (.int _)⟩
  · rw [List.all_map]
    exact List.all_eq_true.mpr fun _ _ => rfl
  · rw [List.getElem?_map, Option.map_eq_some_iff] at hz
    obtain ⟨k, hk, rfl⟩ := hz
    have := a4 m hm
    simp only [eqV, beq_eq_false_iff_ne, ne_eq]
    intro h
    exact this (h ▸ hk)
end
end Ck
namespace Ck
open PySem PySem.Spec PyProof.Rows L2
/-! ### what is never reached -/
def wNever {Ω : Type} : DS Ω := fun _ _ _ => False
theorem ds_never {Ω : Type} {X : Cx} {W : Wd Ω} {st : Stmt} : PDS X W st (wNever : DS Ω) :=
  ⟨⟨fun _ _ _ _ _ _ ⟨_, _, _, _, _, _, z⟩ => z.elim⟩, fun _ _ _ _ _ z => z.elim⟩
end Ck
namespace Ck
open PySem PySem.Spec PyProof.Rows L2
/-! ### targets within targets -/
def setAll2 : List Tg → List Dt → Sl → Option Sl
  | [], [], sl => some sl
  | t :: ts, d :: ds, sl => (bindTg t d sl).bind fun sl' => setAll2 ts ds sl'
  | _, _, _ => none
theorem k_s20 {sl : Sl} : setAll2 [] [] sl = some sl := rfl
theorem k_s21 {t : Tg} {ts : List Tg} {d : Dt} {ds : List Dt} {sl : Sl} : setAll2 (t :: ts) (d :: ds) sl = (bindTg t d sl).bind fun sl' => setAll2 ts ds sl' := rfl
def wUnp2 {Ω : Type} (ts : List Tg) (pe : DE Ω) : DS Ω := fun D sl w => pe sl w fun d fl w1 => fl = .cl ∧ ∃ l, d = .tup l ∧ ∃ sl', setAll2 ts l sl = some sl' ∧ D.nx sl' w1
structure PGD2 (X : Cx) (es : List Expr) (g : TGs) (ts : List Tg) : Prop where
  pg : PGs X es g
  run : ∀ {Ω : Type} {W : Wd Ω} {B F G H : Hp} {w : Ω} {σ : L2.St} {sl sl' : Sl} {us : List V} {ds : List Dt} {Q : L2.St → Hp → Prop}, SR X.K W B F G H w σ sl → DrL X.K F us ds → setAll2 ts ds sl = some sl' →
    (∀ σ', SR X.K W B F G H w σ' sl' → Q σ' H) → g us σ H Q
section
variable {Ω : Type} {X : Cx} {W : Wd Ω} {e : Expr} {pe : DE Ω} {pos : Pos}
theorem tgg_nil : PGD2 X [] gNil [] := ⟨pgs_nil, fun {Ω W B F G H w σ sl sl' us ds Q} r k e h => by
  cases k with
  | nil =>
    simp only [setAll2, Option.some.injEq] at e
    subst e
    exact ⟨rfl, h σ r⟩
  | cons _ _ => simp [setAll2] at e⟩
theorem tgg_cons {t1 : Expr} {g1 : TG} {tg : Tg} {es : List Expr} {u : TGs} {ts : List Tg} (h1 : PGD X t1 g1 tg) (h2 : PGD2 X es u ts)
    (hs : (assignEach (t1 :: es) X.env).map (·.2) = assign t1 X.env :: (assignEach es X.env).map (·.2) := by rfl) : PGD2 X (t1 :: es) (gCons g1 u) (tg :: ts) :=
  ⟨pgs_cons h1.pg h2.pg hs, fun {Ω W B F G H w σ sl sl' us ds Q} r k e h => by
    cases k with
    | nil => simp [setAll2] at e
    | cons k1 k2 =>
      simp only [setAll2, Option.bind_eq_some_iff] at e
      obtain ⟨sl1, e1, e2⟩ := e
      exact ⟨_, _, rfl, h1.run r k1 e1 fun σ' r' _ => h2.run r' k2 e2 h⟩⟩
theorem ds_unp2 {es : List Expr} {k n : Nat} {t : TGs} {ts : List Tg} {p : Pos} (hc : X.calm = true) (h : PD X W e pe) (hg : PGD2 X es t ts) (hl : ts.length = n) (hn : (assignEach es X.env).length = n := by rfl)
    (hst : (assignEach es X.env).findIdx? (·.1) = none := by rfl) (hs : swapsWithSole [.Tuple es k p] e pos.line X.env = pure false := by rfl) (hw : swappedStores [.Tuple es k p] e X.env = pure none := by rfl)
    (h1 : (assignEach [.Tuple es k p] X.env).map (·.2) = [assign (.Tuple es k p) X.env] := by rfl) : PDS X W (.Assign [.Tuple es k p] e pos) (wUnp2 ts pe) := by
  refine ⟨ps_imp (ps_asg h.run (pg_tup hc hg.pg hn hst) hs hw h1) fun D σ H ⟨B, F, G, w, sl, r, z⟩ => ?_, fun D D' l sl w z => h.mono _ _ _ _ (fun d fl w1 ⟨z0, m, z1, sl', z2, z3⟩ => ⟨z0, m, z1, sl', z2, l.nx _ _ z3⟩) z⟩
  refine ⟨B, F, G, w, sl, r, h.mono _ _ _ _ (fun d fl w1 ⟨z0, m, z1, sl', z2, z3⟩ v F1 G1 H1 r1 e1 f1 => ?_) z⟩
  subst z0 z1
  have f1 : Dr X.K F1 v (.tup m) := f1
  cases f1 with
  | tup hs hd =>
    have hlen : ∀ (ts : List Tg) (ds : List Dt) (sl sl' : Sl), setAll2 ts ds sl = some sl' → ts.length = ds.length := by
      intro ts
      induction ts with
      | nil => intro ds sl sl' z; cases ds with
        | nil => rfl
        | cons _ _ => simp [setAll2] at z
      | cons i is ih => intro ds sl sl' z; cases ds with
        | nil => simp [setAll2] at z
        | cons d ds =>
          simp only [setAll2, Option.bind_eq_some_iff] at z
          obtain ⟨s1, _, z⟩ := z
          simp [ih _ _ _ z]
    exact ⟨_, _, rfl, sameSeqT r1.hr.f (SqT.of hs), by rw [hd.len, ← hlen _ _ _ _ z2, hl], hg.run r1 hd z2 fun σ' r' => z3 σ' F1 G1 H1 r' e1⟩
  | tupK hs =>
    have hlen : ts.length = 0 := by
      cases ts with
      | nil => rfl
      | cons _ _ => simp [setAll2] at z2
    exact ⟨_, [], rfl, .inr hs, by rw [← hl, hlen]; rfl, hg.run r1 .nil z2 fun σ' r' => z3 σ' F1 G1 H1 r' e1⟩
end
/-! ### which of two tuples of ints stands first -/
def fLtT : Dt → Dt → (Dt → Prop) → Prop := fun x y C => ∃ ns ms : List Int, x = .tup (ns.map .int) ∧ y = .tup (ms.map .int) ∧ C (.bl (HT.lexLt ns ms))
theorem op_ltT' {X : Cx} (hu : X.A.units + 64 < cLine) : OpR X (compareOp .Lt) (rLtT X.K) := op_ltT (by omega)
theorem od_ltT {K : PySem.W.Frag} : OpD K (rLtT K) fLtT := by
  refine ⟨fun F H xv yv x y Q C e hx hy h q => ?_, fun x y C C' hC ⟨ns, ms, h1, h2, h3⟩ => ⟨ns, ms, h1, h2, hC _ h3⟩⟩
  obtain ⟨ns, ms, rfl, rfl, h⟩ := h
  obtain ⟨a, vs, rfl, ha, da⟩ := hx.tup
  obtain ⟨b, us, rfl, hb, db⟩ := hy.tup
  have ea := da.ints
  have eb := db.ints
  subst ea eb
  exact ⟨a, b, ns, ms, rfl, rfl, sameSeqT e ha, sameSeqT e hb, q _ _ F H h (.refl (.bl _))⟩
/-! ### is not True -/
def fIsNotB : Dt → Dt → (Dt → Prop) → Prop
  | .bl a, .bl b, C => C (.bl (!decide (a = b)))
  | _, _, _ => False
theorem od_isNotB {K : PySem.W.Frag} : OpD K (fun x y H Q => ∃ a b, x = .bl a ∧ y = .bl b ∧ Q (.bl (!decide (a = b))) H) fIsNotB := by
  refine ⟨fun F H xv yv x y Q C e hx hy h q => ?_, fun x y C C' hC h => ?_⟩
  · unfold fIsNotB at h
    split at h
    · have h1 := hx.bl
      have h2 := hy.bl
      exact ⟨_, _, h1, h2, q _ _ F H h (.refl (.bl _))⟩
    · exact h.elim
  · unfold fIsNotB at h ⊢
    split at h
    · exact hC _ h
    · exact h.elim
end Ck
namespace Ck
open PySem PySem.Spec PyProof.Rows L2
/-! ### an own dict with tuple keys -/
def keyD : Dt → Option L2.Key
  | .int i => some (.inl i)
  | .str x => some (.inr x)
  | _ => none
def keysD : List Dt → Option (List L2.Key)
  | [] => some []
  | d :: l => (keyD d).bind fun k => (keysD l).map fun r => k :: r
theorem keys_of {K : PySem.W.Frag} {F : Hp} : ∀ {vs : List V} {l : List Dt} {ks : List L2.Key}, DrL K F vs l → keysD l = some ks → vs = ks.map kV
  | _, _, ks, .nil, e => by
    simp only [keysD, Option.some.injEq] at e
    subst e
    rfl
  | _, _, ks, .cons (d := d) h q, e => by
    simp only [keysD, Option.bind_eq_some_iff, Option.map_eq_some_iff] at e
    obtain ⟨k, e1, r, e2, rfl⟩ := e
    have ih := keys_of q e2
    rw [ih]
    cases d <;> simp only [keyD, Option.some.injEq, reduceCtorEq] at e1
    · subst e1
      cases h
      rfl
    · subst e1
      cases h
      rfl
section
variable {Ω : Type} {X : Cx} {W : Wd Ω} {e : Expr} {pe pk : DE Ω} {pos : Pos}
def wDNew (i : Nat) : DS Ω := fun D sl w => D.nx (sl.set i (some (.dic []))) w
theorem ds_dnew {i : Nat} {x : Str} {pos' p : Pos} (hN : X.N.Nodup) (hi : X.N[i]? = some x) (hx : Loc X.env.scope x) (hs : swapsWith (.Dict [] [] p) (some (.Name x pos')) pos.line X.env = pure false := by rfl)
    (hf : X.fn x = true ∨ X.env.scope.names.lookup x = some .local := by first | exact .inl rfl | exact .inr rfl | assumption) : PDS X W (.Assign [.Name x pos'] (.Dict [] [] p) pos) (wDNew i : DS Ω) := by
  refine ⟨ps_imp (ps_set hN hi hx pe_dnewT hs hf) fun D σ H ⟨B, F, G, w, sl, r, z⟩ p hp => ?_, fun D D' l sl w z => l.nx _ _ z⟩
  exact z _ F G _ ((r.newOwn hp).mineSet i (r.fresh hp).1 (r.hr.f.free hp) (r.hr.g.free hp) upd_same (.dic (us := []) (kvs := []) rfl .nil) fun j m h1 _ => (r.fresh hp).2 j m h1) (Same.refl F)
end
/-! ### what a dict holds, over data -/
def valD (kvs : List (List L2.Key × Dt)) (k : List L2.Key) : Option Dt := (kvs.find? fun kv => decide (kv.1 = k)).map (·.2)
theorem val_rel {K : PySem.W.Frag} {F : Hp} {k : List L2.Key} : ∀ {us : List (List L2.Key × V)} {kvs : List (List L2.Key × Dt)}, us.map (·.1) = kvs.map (·.1) → DrL K F (us.map (·.2)) (kvs.map (·.2)) →
    (valV us k = none ∧ valD kvs k = none) ∨ ∃ v d, valV us k = some v ∧ valD kvs k = some d ∧ Dr K F v d
  | [], [], _, _ => .inl ⟨rfl, rfl⟩
  | [], _ :: _, h, _ => by simp at h
  | _ :: _, [], h, _ => by simp at h
  | (a, v) :: us, (b, d) :: kvs, h, h2 => by
    rw [List.map_cons, List.map_cons] at h h2
    injection h with h0 h1
    cases h2 with
    | cons q1 q2 =>
      have h0 : a = b := h0
      subst h0
      by_cases e : a = k
      · exact .inr ⟨v, d, by simp [valV, e], by simp [valD, e], q1⟩
      · have e1 : valV ((a, v) :: us) k = valV us k := by simp [valV, e]
        have e2 : valD ((a, d) :: kvs) k = valD kvs k := by simp [valD, e]
        rw [e1, e2]
        exact val_rel h1 q2
theorem SR.getDic {Ω : Type} {K : PySem.W.Frag} {W : Wd Ω} {B F G H : Hp} {w : Ω} {σ : L2.St} {sl : Sl} {i : Nat} {kvs : List (List L2.Key × Dt)} (r : SR K W B F G H w σ sl) (h : sl[i]? = some (some (.dic kvs))) :
    ∃ a us, σ[i]? = some (some (.ref a)) ∧ B a = none ∧ F a = none ∧ G a = none ∧ H a = some (.dT us) ∧ us.map (·.1) = kvs.map (·.1) ∧ DrL K F (us.map (·.2)) (kvs.map (·.2)) := by
  obtain ⟨v, h1, a, ob, rfl, h2, h3, h4, h5, h6⟩ := r.s i _ h
  cases h6 with
  | dic hk hd => exact ⟨a, _, h1, h2, h3, h4, h5, hk, hd⟩
def putD (kvs : List (List L2.Key × Dt)) (k : List L2.Key) (d : Dt) : List (List L2.Key × Dt) :=
  if (kvs.any fun kv => decide (kv.1 = k)) = true then kvs.map (fun kv => if kv.1 = k then (kv.1, d) else kv) else kvs ++ [(k, d)]
theorem any_rel {k : List L2.Key} : ∀ {us : List (List L2.Key × V)} {kvs : List (List L2.Key × Dt)}, us.map (·.1) = kvs.map (·.1) → (us.any fun kv => decide (kv.1 = k)) = kvs.any fun kv => decide (kv.1 = k)
  | [], [], _ => rfl
  | [], _ :: _, h => by simp at h
  | _ :: _, [], h => by simp at h
  | (a, v) :: us, (b, d) :: kvs, h => by
    rw [List.map_cons, List.map_cons] at h
    injection h with h0 h1
    rw [List.any_cons, List.any_cons, any_rel h1]
    have h0 : a = b := h0
    rw [h0]
theorem repl_rel {K : PySem.W.Frag} {F : Hp} {k : List L2.Key} {v : V} {d : Dt} (hv : Dr K F v d) : ∀ {us : List (List L2.Key × V)} {kvs : List (List L2.Key × Dt)}, us.map (·.1) = kvs.map (·.1) → DrL K F (us.map (·.2)) (kvs.map (·.2)) →
    (us.map fun kv => if kv.1 = k then (kv.1, v) else kv).map (·.1) = (kvs.map fun kv => if kv.1 = k then (kv.1, d) else kv).map (·.1) ∧ DrL K F ((us.map fun kv => if kv.1 = k then (kv.1, v) else kv).map (·.2)) ((kvs.map fun kv => if kv.1 = k then (kv.1, d) else kv).map (·.2))
  | [], [], _, _ => ⟨rfl, .nil⟩
  | [], _ :: _, h, _ => by simp at h
  | _ :: _, [], h, _ => by simp at h
  | (a, u) :: us, (b, c) :: kvs, h, h2 => by
    rw [List.map_cons, List.map_cons] at h h2
    injection h with h0 h1
    cases h2 with
    | cons q1 q2 =>
      obtain ⟨i1, i2⟩ := repl_rel hv (k := k) h1 q2
      have h0 : a = b := h0
      subst h0
      simp only [List.map_cons]
      by_cases e : a = k
      · rw [if_pos e, if_pos e]
        exact ⟨by rw [i1], .cons hv i2⟩
      · rw [if_neg e, if_neg e]
        exact ⟨by rw [i1], .cons q1 i2⟩
theorem put_rel {K : PySem.W.Frag} {F : Hp} {k : List L2.Key} {v : V} {d : Dt} (hv : Dr K F v d) {us : List (List L2.Key × V)} {kvs : List (List L2.Key × Dt)} (h : us.map (·.1) = kvs.map (·.1)) (h2 : DrL K F (us.map (·.2)) (kvs.map (·.2))) : OwR K F (.dT (putK us k v)) (.dic (putD kvs k d)) := by
  unfold putK putD
  rw [any_rel h]
  split
  · obtain ⟨a, b⟩ := repl_rel hv (k := k) h h2
    exact .dic a b
  · refine .dic (by rw [List.map_append, List.map_append, h]; rfl) ?_
    rw [List.map_append, List.map_append]
    exact DrL.app h2 (.cons hv .nil)
/-- what is one's own at slot i becomes something else -/
theorem SR.mineChg {Ω : Type} {W : Wd Ω} {K : PySem.W.Frag} {B F G H : Hp} {w : Ω} {σ : L2.St} {sl : Sl} {i : Nat} {l m : Ow} {a : Addr} {ob' : HO} (r : SR K W B F G H w σ sl) (h : sl[i]? = some (some (.mine l))) (hs : σ[i]? = some (some (.ref a))) (hm : OwR K F ob' m) :
    SR K W B F G (upd H a ob') w σ (sl.set i (some (.mine m))) := by
  obtain ⟨v, h1, a', vs, rfl, hB, hF, hG, hH, hD⟩ := r.s i _ h
  rw [hs] at h1
  cases h1
  have hil : i < sl.length := (List.getElem?_eq_some_iff.mp h).1
  have get : ∀ (j : Nat) (x : Sv), (sl.set i (some (.mine m)))[j]? = some (some x) → (j = i ∧ x = .mine m) ∨ (j ≠ i ∧ sl[j]? = some (some x)) := fun j x z => by
    rw [List.getElem?_set] at z
    by_cases e : i = j
    · rw [if_pos e, if_pos hil] at z
      cases z
      exact .inl ⟨e.symm, rfl⟩
    · rw [if_neg e] at z
      exact .inr ⟨fun q => e q.symm, z⟩
  refine ⟨r.hr.chg hB hF hG, by rw [List.length_set]; exact r.len, fun j x z => ?_, fun j k v l1 l2 z1 z2 z3 z4 => ?_⟩
  · rcases get j x z with ⟨rfl, rfl⟩ | ⟨hne, z⟩
    · exact ⟨_, hs, a, _, rfl, hB, hF, hG, upd_same, hm⟩
    · obtain ⟨v, k1, k2⟩ := r.s j x z
      refine ⟨v, k1, ?_⟩
      cases x with
      | dat d => exact k2
      | mine l' =>
        obtain ⟨c, ws, rfl, q1, q2, q3, q4, q5⟩ := k2
        refine ⟨c, ws, rfl, q1, q2, q3, ?_, q5⟩
        have hca : c ≠ a := fun z' => by
          subst z'
          exact hne (r.o j i _ l' _ z h k1 hs)
        rw [upd_ne hca]
        exact q4
  · have own_of : ∀ (j : Nat) (l1 : Ow), (sl.set i (some (.mine m)))[j]? = some (some (.mine l1)) → ∃ l2, sl[j]? = some (some (.mine l2)) := fun j l1 z => by
      rcases get j _ z with ⟨rfl, _⟩ | ⟨_, z⟩
      · exact ⟨_, h⟩
      · exact ⟨l1, z⟩
    obtain ⟨m1, y1⟩ := own_of j l1 z1
    obtain ⟨m2, y2⟩ := own_of k l2 z2
    exact r.o j k v m1 m2 y1 y2 z3 z4
section
variable {Ω : Type} {X : Cx} {W : Wd Ω} {e ie : Expr} {pe pk : DE Ω} {pos : Pos}
/-- keys are no empty tuples (one of them may be the written part's) -/
def keysT : List Dt → Option (List L2.Key)
  | [] => none
  | d :: l => keysD (d :: l)
theorem keysT_some {l : List Dt} {k : List L2.Key} (h : keysT l = some k) : l ≠ [] ∧ keysD l = some k := by
  cases l with
  | nil => cases h
  | cons d l => exact ⟨(fun z => nomatch z), h⟩
def wDPut (i : Nat) (pe pk : DE Ω) : DS Ω := fun D sl w => ∃ kvs, sl[i]? = some (some (.dic kvs)) ∧ kvs.length < sizeLine ∧ pe sl w fun d fl w1 => fl = .cl ∧ pk sl w1 fun kd fl2 w2 => fl2 = .cl ∧ ∃ l ks, kd = .tup l ∧ keysT l = some ks ∧ D.nx (sl.set i (some (.dic (putD kvs ks d)))) w2
theorem ds_dput {x : Str} {i : Nat} {p spos : Pos} (hu : X.A.units + 64 < cLine) (ho : PE X (.Name x p) (tVar i)) (h : PD X W e pe) (hk : PD X W ie pk) (hs : swapsWith e (some (.Subscript (.Name x p) ie spos)) pos.line X.env = pure false := by rfl) :
    PDS X W (.Assign [.Subscript (.Name x p) ie spos] e pos) (wDPut i pe pk) := by
  refine ⟨ps_imp (ps_dput (by omega) ho hk.run h.run hs) fun D σ H ⟨B, F, G, w, sl, r, kvs, hl, hz, z⟩ => ?_, fun D D' l sl w ⟨kvs, hl, hz, z⟩ => ⟨kvs, hl, hz, h.mono _ _ _ _ (fun d fl w1 ⟨z0, z⟩ => ⟨z0, hk.mono _ _ _ _ (fun kd fl2 w2 ⟨y0, l', ks, y2, y3, y5⟩ => ⟨y0, l', ks, y2, y3, l.nx _ _ y5⟩) z⟩) z⟩⟩
  refine ⟨B, F, G, w, sl, r, h.mono _ _ _ _ (fun d fl w1 ⟨z0, z⟩ v F1 G1 H1 r1 e1 f1 => ?_) z⟩
  subst z0
  obtain ⟨a, us, q1, q2⟩ := r1.getDic hl
  refine ⟨.ref a, q1, B, F1, G1, w1, sl, r1, hk.mono _ _ _ _ (fun kd fl2 w2 ⟨y0, l', ks, y2, y3, y5⟩ u F2 G2 H2 r2 e2 f2 => ?_) z⟩
  subst y0 y2
  obtain ⟨a', us', p1, p2, p3, p4, p5, p6, p7⟩ := r2.getDic hl
  rw [q1] at p1
  cases p1
  have f2 : Dr X.K F2 u (.tup l') := f2
  cases f2 with
  | tupK _ => exact absurd rfl (keysT_some y3).1
  | tup g1 g2 =>
    have ek := keys_of g2 (keysT_some y3).2
    subst ek
    have hlen : us'.length = kvs.length := by
      have := congrArg List.length p6
      rwa [List.length_map, List.length_map] at this
    refine ⟨a, _, rfl, DPut.t p5 (r2.hr.f _ _ g1) (by omega), ?_⟩
    exact y5 σ F2 G2 _ (r2.mineChg hl q1 (put_rel (Dr.mono e2 f1) p6 p7)) (e1.trans e2)
end
section
variable {Ω : Type} {X : Cx} {W : Wd Ω} {ie : Expr} {pk : DE Ω} {pos : Pos}
def wDGet (i : Nat) (pk : DE Ω) : DE Ω := fun sl w C => ∃ kvs, sl[i]? = some (some (.dic kvs)) ∧ pk sl w fun kd fl w1 => fl = .cl ∧ ∃ l ks d, kd = .tup l ∧ keysT l = some ks ∧ valD kvs ks = some d ∧ C d .cl w1
theorem d_dget {x : Str} {i : Nat} {p : Pos} (hu : X.A.units + 64 < cLine) (ho : PE X (.Name x p) (tVar i)) (hk : PD X W ie pk) (hs : NoSl ie) : PD X W (.Subscript (.Name x p) ie pos) (wDGet i pk) := by
  refine ⟨pe_imp (pe_dget (by omega) ho hk.run hs) fun σ H Q ⟨B, F, G, w, sl, r, kvs, hl, z⟩ => ?_, fun sl w C C' hC ⟨kvs, hl, z⟩ => ⟨kvs, hl, hk.mono _ _ _ _ (fun kd fl w1 ⟨y0, l, ks, d, y1, y2, y3, y4⟩ => ⟨y0, l, ks, d, y1, y2, y3, hC _ _ _ y4⟩) z⟩⟩
  obtain ⟨a, us, q1, q2⟩ := r.getDic hl
  refine ⟨.ref a, q1, B, F, G, w, sl, r, hk.mono _ _ _ _ (fun kd fl w1 ⟨y0, l, ks, d, y1, y2, y3, y4⟩ u F1 G1 H1 r1 e1 f1 => ?_) z⟩
  subst y0 y1
  obtain ⟨a', us', p1, p2, p3, p4, p5, p6, p7⟩ := r1.getDic hl
  rw [q1] at p1
  cases p1
  have f1 : Dr X.K F1 u (.tup l) := f1
  cases f1 with
  | tupK _ => exact absurd rfl (keysT_some y2).1
  | tup g1 g2 =>
    have ek := keys_of g2 (keysT_some y2).2
    subst ek
    rcases val_rel (k := ks) p6 p7 with ⟨_, v2⟩ | ⟨v, d', v1, v2, v3⟩
    · rw [y3] at v2
      cases v2
    · rw [y3] at v2
      cases v2
      refine ⟨a, v, rfl, ?_, y4 v F1 G1 H1 r1 e1 v3⟩
      rw [← v1]
      exact DGet.t p5 (r1.hr.f _ _ g1)
end
section
variable {Ω : Type} {X : Cx} {W : Wd Ω} {ie fe : Expr} {pk pf : DE Ω} {pos : Pos}
def wDGetD (i : Nat) (pk pf : DE Ω) : DE Ω := fun sl w C => ∃ kvs, sl[i]? = some (some (.dic kvs)) ∧ pk sl w fun kd fl w1 => fl = .cl ∧ ∃ l ks, kd = .tup l ∧ keysT l = some ks ∧ pf sl w1 fun d0 fl0 w2 => fl0 = .cl ∧ C ((valD kvs ks).getD d0) .cl w2
theorem d_dgetD {x : Str} {i : Nat} {p apos cpos : Pos} (hu : X.A.units + 64 < cLine) (ho : PE X (.Name x p) (tVar i)) (hk : PD X W ie pk) (hf : PD X W fe pf) (m : M2 X (.Name x p) "get" apos ie fe cpos) : PD X W (.Call (.Attribute (.Name x p) "get" apos) [ie, fe] [] cpos) (wDGetD i pk pf) := by
  refine ⟨pe_imp (pe_dget2 (by omega) ho hk.run hf.run m) fun σ H Q ⟨B, F, G, w, sl, r, kvs, hl, z⟩ => ?_, fun sl w C C' hC ⟨kvs, hl, z⟩ => ⟨kvs, hl, hk.mono _ _ _ _ (fun kd fl w1 ⟨y0, l, ks, y1, y2, y3⟩ => ⟨y0, l, ks, y1, y2, hf.mono _ _ _ _ (fun d0 fl0 w2 ⟨a, b⟩ => ⟨a, hC _ _ _ b⟩) y3⟩) z⟩⟩
  obtain ⟨a, us, q1, q2, q3, q4, q5, _⟩ := r.getDic hl
  refine ⟨.ref a, q1, a, rfl, ?_, B, F, G, w, sl, r, hk.mono _ _ _ _ (fun kd fl w1 ⟨y0, l, ks, y1, y2, y3⟩ u F1 G1 H1 r1 e1 f1 => ?_) z⟩
  · exact .inr ⟨us, .inl q5⟩
  · subst y0 y1
    refine ⟨B, F1, G1, w1, sl, r1, hf.mono _ _ _ _ (fun d0 fl0 w2 ⟨b0, b1⟩ u2 F2 G2 H2 r2 e2 f2 => ?_) y3⟩
    subst b0
    obtain ⟨a', us', p1, p2, p3, p4, p5, p6, p7⟩ := r2.getDic hl
    rw [q1] at p1
    cases p1
    have f1 : Dr X.K F1 u (.tup l) := f1
    have f2 : Dr X.K F2 u2 d0 := f2
    cases f1 with
    | tupK _ => exact absurd rfl (keysT_some y2).1
    | tup g1 g2 =>
      have ek := keys_of g2 (keysT_some y2).2
      subst ek
      refine ⟨valV us' ks, DGet.t p5 (r2.hr.f _ _ (e2 _ _ g1)), ?_⟩
      rcases val_rel (k := ks) p6 p7 with ⟨v1, v2⟩ | ⟨v, d', v1, v2, v3⟩
      · rw [v2] at b1
        rw [v1]
        exact b1 u2 F2 G2 H2 r2 (e1.trans e2) f2
      · rw [v2] at b1
        rw [v1]
        exact b1 v F2 G2 H2 r2 (e1.trans e2) v3
end
section
variable {Ω : Type} {X : Cx} {W : Wd Ω} {ie : Expr} {pk : DE Ω} {pos : Pos}
def wDIn (i : Nat) (pk : DE Ω) : DE Ω := fun sl w C => ∃ kvs, sl[i]? = some (some (.dic kvs)) ∧ pk sl w fun kd fl w1 => fl = .cl ∧ ∃ l ks, kd = .tup l ∧ keysT l = some ks ∧ C (.bl (valD kvs ks).isSome) .cl w1
theorem d_din {x : Str} {i : Nat} {p : Pos} (hu : X.A.units + 64 < cLine) (hk : PD X W ie pk) (ho : PE X (.Name x p) (tVar i)) (hm : lastMarks [.In] [.Name x p] = false := by rfl) : PD X W (.Compare ie [.In] [.Name x p] pos) (wDIn i pk) := by
  refine ⟨pe_imp (pe_cmp (pc_din (by omega) hk.run ho) rfl) fun σ H Q ⟨B, F, G, w, sl, r, kvs, hl, z⟩ => ?_, fun sl w C C' hC ⟨kvs, hl, z⟩ => ⟨kvs, hl, hk.mono _ _ _ _ (fun kd fl w1 ⟨y0, l, ks, y1, y2, y3⟩ => ⟨y0, l, ks, y1, y2, hC _ _ _ y3⟩) z⟩⟩
  refine ⟨B, F, G, w, sl, r, hk.mono _ _ _ _ (fun kd fl w1 ⟨y0, l, ks, y1, y2, y3⟩ u F1 G1 H1 r1 e1 f1 => ?_) z⟩
  subst y0 y1
  obtain ⟨a, us, p1, p2, p3, p4, p5, p6, p7⟩ := r1.getDic hl
  have f1 : Dr X.K F1 u (.tup l) := f1
  cases f1 with
  | tupK _ => exact absurd rfl (keysT_some y2).1
  | tup g1 g2 =>
    have ek := keys_of g2 (keysT_some y2).2
    subst ek
    refine ⟨.ref a, p1, a, valV us ks, rfl, DGet.t p5 (r1.hr.f _ _ g1), ?_⟩
    have e : (valV us ks).isSome = (valD kvs ks).isSome := by
      rcases val_rel (k := ks) p6 p7 with ⟨v1, v2⟩ | ⟨v, d', v1, v2, _⟩ <;> rw [v1, v2] <;> rfl
    rw [e]
    exact y3 _ F1 G1 H1 r1 e1 (.bl _)
end
end Ck
namespace Ck
open PySem PySem.Spec PyProof.Rows L2
/-! ### dicts that are changed no more -/
def keyT : L2.Key → Dt
  | .inl i => .int i
  | .inr x => .str x
def keyTup (k : List L2.Key) : Dt := .tup (k.map keyT)
theorem keyT_rel {K : PySem.W.Frag} {F : Hp} : ∀ k : List L2.Key, DrL K F (k.map kV) (k.map keyT)
  | [] => .nil
  | .inl i :: k => .cons (.int i) (keyT_rel k)
  | .inr x :: k => .cons (.str x) (keyT_rel k)
def getK (ks : List (List L2.Key)) (l : List Dt) (k : List L2.Key) : Option Dt := valD (ks.zip l) k
theorem zip_map_fst {α β : Type} : ∀ {ks : List α} {l : List β}, ks.length = l.length → (ks.zip l).map (·.1) = ks
  | [], _, _ => rfl
  | _ :: _, [], h => by simp at h
  | k :: ks, d :: l, h => by
    simp only [List.length_cons, Nat.add_right_cancel_iff] at h
    rw [List.zip_cons_cons, List.map_cons, zip_map_fst h]
theorem zip_map_snd {α β : Type} : ∀ {ks : List α} {l : List β}, ks.length = l.length → (ks.zip l).map (·.2) = l
  | [], [], _ => rfl
  | [], _ :: _, h => by simp at h
  | _ :: _, [], h => by simp at h
  | k :: ks, d :: l, h => by
    simp only [List.length_cons, Nat.add_right_cancel_iff] at h
    rw [List.zip_cons_cons, List.map_cons, zip_map_snd h]
theorem getK_rel {K : PySem.W.Frag} {F : Hp} {k : List L2.Key} {us : List (List L2.Key × V)} {ks : List (List L2.Key)} {l : List Dt} (h : us.map (·.1) = ks) (h2 : DrL K F (us.map (·.2)) l) :
    (valV us k = none ∧ getK ks l k = none) ∨ ∃ v d, valV us k = some v ∧ getK ks l k = some d ∧ Dr K F v d := by
  have hl : ks.length = l.length := by
    rw [← h, ← h2.len, List.length_map, List.length_map]
  refine val_rel (us := us) (kvs := ks.zip l) ?_ ?_
  · rw [zip_map_fst hl]
    exact h
  · rw [zip_map_snd hl]
    exact h2
/-- the own dict of slot i is changed no more -/
def wFrzD {Ω : Type} (i : Nat) (q : DS Ω) : DS Ω := fun D sl w => match sl[i]? with
  | some (some (.mine (.dic kvs))) => q D (sl.set i (some (.dat (.dic (kvs.map (·.1)) (kvs.map (·.2)))))) w
  | _ => q D sl w
theorem SR.frzDic {Ω : Type} {W : Wd Ω} {K : PySem.W.Frag} {B F G H : Hp} {w : Ω} {σ : L2.St} {sl : Sl} {i : Nat} {kvs : List (List L2.Key × Dt)} (r : SR K W B F G H w σ sl) (h : sl[i]? = some (some (.dic kvs))) :
    ∃ a us, H a = some (.dT us) ∧ ∀ od, ∃ F', SR K W B F' G (upd H a (.frz od (.dT us))) w σ (sl.set i (some (.dat (.dic (kvs.map (·.1)) (kvs.map (·.2)))))) ∧ Same F F' := by
  obtain ⟨a, us, q1, q2, q3, q4, q5, q6, q7⟩ := r.getDic h
  refine ⟨a, us, q5, fun od => ?_⟩
  have e : Same F (upd F a (.frz od (.dT us))) := sameUpd q3
  have hil : i < sl.length := (List.getElem?_eq_some_iff.mp h).1
  have get : ∀ (j : Nat) (x : Sv), (sl.set i (some (.dat (.dic (kvs.map (·.1)) (kvs.map (·.2))))))[j]? = some (some x) → (j = i ∧ x = .dat (.dic (kvs.map (·.1)) (kvs.map (·.2)))) ∨ (j ≠ i ∧ sl[j]? = some (some x)) := fun j x z => by
    rw [List.getElem?_set] at z
    by_cases e : i = j
    · rw [if_pos e, if_pos hil] at z
      cases z
      exact .inl ⟨e.symm, rfl⟩
    · rw [if_neg e] at z
      exact .inr ⟨fun q => e q.symm, z⟩
  refine ⟨upd F a (.frz od (.dT us)), ⟨(r.hr.chg q2 q3 q4).frz q2 q3 q4 upd_same, by rw [List.length_set]; exact r.len, fun j x z => ?_, fun j k v l1 l2 z1 z2 z3 z4 => ?_⟩, e⟩
  · rcases get j x z with ⟨rfl, rfl⟩ | ⟨hne, z⟩
    · exact ⟨_, q1, .dic upd_same q6 (q7.mono e)⟩
    · obtain ⟨v, k1, k2⟩ := r.s j x z
      refine ⟨v, k1, ?_⟩
      cases x with
      | dat d => exact Dr.mono e k2
      | mine l' =>
        obtain ⟨c, ws, rfl, p1, p2, p3, p4, p5⟩ := k2
        have hca : c ≠ a := fun z' => by
          subst z'
          exact hne (r.o j i _ l' _ z h k1 q1)
        exact ⟨c, ws, rfl, p1, by rw [upd_ne hca]; exact p2, p3, by rw [upd_ne hca]; exact p4, p5.mono e⟩
  · rcases get j _ z1 with ⟨rfl, y⟩ | ⟨_, y1⟩
    · cases y
    · rcases get k _ z2 with ⟨rfl, y⟩ | ⟨_, y2⟩
      · cases y
      · exact r.o j k v l1 l2 y1 y2 z3 z4
theorem pss_lock {X : Cx} {sts : List Stmt} {t : TS} (h : PSs X sts t) : PSs X sts (fun D σ H => ∃ a u, H a = some u ∧ Mut (some u) ∧ ∀ od, t D σ (upd H a (.frz od u))) :=
  ⟨fun pins s σ H D I ⟨_, _, h1, h2, z⟩ => let ⟨od, I1⟩ := I.lock h1 h2; h.run pins s σ _ D I1 (z od)⟩
theorem pss_or {X : Cx} {sts : List Stmt} {t u : TS} (h : PSs X sts t) (h' : PSs X sts u) : PSs X sts (fun D σ H => t D σ H ∨ u D σ H) :=
  ⟨fun pins s σ H D I z => z.elim (h.run pins s σ H D I) (h'.run pins s σ H D I)⟩
section
variable {Ω : Type} {X : Cx} {W : Wd Ω} {e ie tg : Expr} {pe pk : DE Ω} {pos : Pos} {K : PySem.W.Frag}
theorem db_frzD {i : Nat} {sts : List Stmt} {q : DS Ω} (h : PDB X W sts q) : PDB X W sts (wFrzD i q) := by
  refine ⟨pss_imp (pss_or h.run (pss_lock h.run)) fun D σ H ⟨B, F, G, w, sl, r, z⟩ => ?_, fun D D' l sl w z => ?_⟩
  · unfold wFrzD at z
    split at z
    · rename_i kvs hm
      obtain ⟨a, us, h1, h2⟩ := r.frzDic hm
      refine .inr ⟨a, _, h1, trivial, fun od => ?_⟩
      obtain ⟨F', r', e⟩ := h2 od
      exact ⟨B, F', G, w, _, r', h.mono _ _ (up_le e) _ _ z⟩
    · exact .inl ⟨B, F, G, w, sl, r, z⟩
  · unfold wFrzD at z ⊢
    split at z
    · exact h.mono _ _ l _ _ z
    · exact h.mono _ _ l _ _ z
/-! ### d[k], k in d, len(d) -/
def fDIx : Dt → Dt → (Dt → Prop) → Prop := fun x y C => ∃ ks l t k d, x = .dic ks l ∧ y = .tup t ∧ keysT t = some k ∧ getK ks l k = some d ∧ C d
def rDIx : R2 := fun x y H Q => ∃ a v, x = .ref a ∧ DGet H a y (some v) ∧ Q v H
theorem DGet.tf {H : Hp} {a b : Addr} {o : Obj} {kvs : List (List L2.Key × V)} {k : List L2.Key} (e : H a = some (.frz o (.dT kvs))) (eb : H b = some (.tup (k.map kV))) : DGet H a (.ref b) (valV kvs k) := .inr ⟨kvs, k, b, .inr ⟨o, e⟩, rfl, eb, rfl⟩
theorem getD_run {F H : Hp} {xv yv : V} {ks : List (List L2.Key)} {l t : List Dt} {k : List L2.Key} (e : Same F H) (hx : Da K F H xv (.dic ks l)) (hy : Da K F H yv (.tup t)) (hk : keysT t = some k) :
    ∃ a, xv = .ref a ∧ ((getK ks l k = none ∧ DGet H a yv none) ∨ ∃ v d, getK ks l k = some d ∧ Dr K F v d ∧ DGet H a yv (some v)) := by
  obtain ⟨a, o, us, rfl, ha, hks, hd⟩ := hx.dicR
  obtain ⟨b, vs, rfl, hb, hv⟩ := hy.tupR (keysT_some hk).1
  have ek := keys_of hv (keysT_some hk).2
  subst ek
  have g := DGet.tf (e _ _ ha) (e _ _ hb)
  refine ⟨a, rfl, ?_⟩
  rcases getK_rel (k := k) hks hd with ⟨v1, v2⟩ | ⟨v, d, v1, v2, v3⟩
  · rw [v1] at g
    exact .inl ⟨v2, g⟩
  · rw [v1] at g
    exact .inr ⟨v, d, v2, v3, g⟩
theorem od_dix : OpD K rDIx fDIx := by
  refine ⟨fun F H xv yv x y Q C e hx hy h q => ?_, fun x y C C' hC ⟨ks, l, t, k, d, h1, h2, h3, h4, h5⟩ => ⟨ks, l, t, k, d, h1, h2, h3, h4, hC _ h5⟩⟩
  obtain ⟨ks, l, t, k, d, rfl, rfl, h3, h4, h5⟩ := h
  obtain ⟨a, rfl, ⟨z, _⟩ | ⟨v, d', z, hD, g⟩⟩ := getD_run e hx hy h3
  · rw [h4] at z
    cases z
  · rw [h4] at z
    cases z
    exact ⟨a, v, rfl, g, q _ _ F H h5 (.refl hD)⟩
theorem d_dix {a b : Expr} {pa pb : DE Ω} (hu : X.A.units + 64 < cLine) (ha : PD X W a pa) (hb : PD X W b pb) (hs : NoSl b) : PD X W (.Subscript a b pos) (wOp fDIx pa pb) :=
  ⟨pe_imp (pe_dget (by omega) ha.run hb.run hs) fun σ H Q z => imp_op od_dix ha hb σ H Q z, mono_op (K := X.K) od_dix ha hb⟩
def fDIn (neg : Bool) : Dt → Dt → (Dt → Prop) → Prop := fun x y C => ∃ ks l t k, y = .dic ks l ∧ x = .tup t ∧ keysT t = some k ∧ C (.bl (if neg then !(getK ks l k).isSome else (getK ks l k).isSome))
def rDIn (neg : Bool) : R2 := fun x y H Q => ∃ a o, y = .ref a ∧ DGet H a x o ∧ Q (.bl (if neg then !o.isSome else o.isSome)) H
theorem od_din {neg : Bool} : OpD K (rDIn neg) (fDIn neg) := by
  refine ⟨fun F H xv yv x y Q C e hx hy h q => ?_, fun x y C C' hC ⟨ks, l, t, k, h1, h2, h3, h4⟩ => ⟨ks, l, t, k, h1, h2, h3, hC _ h4⟩⟩
  obtain ⟨ks, l, t, k, rfl, rfl, h3, h4⟩ := h
  obtain ⟨a, rfl, ⟨z, g⟩ | ⟨v, d', z, hD, g⟩⟩ := getD_run e hy hx h3
  · rw [z] at h4
    exact ⟨a, _, rfl, g, q _ _ F H h4 (.refl (.bl _))⟩
  · rw [z] at h4
    exact ⟨a, _, rfl, g, q _ _ F H h4 (.refl (.bl _))⟩
theorem op_dinF (hu : X.A.units + 64 < cLine) : OpR X (compareOp .In) (rDIn false) := by
  intro pins s σ H x y v u Q I rx ry ⟨a, o, ey, g, q⟩
  subst ey
  obtain rfl : u = Value.ref a := ry
  exact d_in (by omega) I g rx fun s' I' => ⟨.bl _, H, I', rfl, q⟩
theorem op_dnotinF (hu : X.A.units + 64 < cLine) : OpR X (compareOp .NotIn) (rDIn true) := by
  intro pins s σ H x y v u Q I rx ry ⟨a, o, ey, g, q⟩
  subst ey
  obtain rfl : u = Value.ref a := ry
  exact d_notIn (by omega) I g rx fun s' I' => ⟨.bl _, H, I', rfl, q⟩
/-! ### for k in d -/
def wiKeys (p : DE Ω) : DI Ω := fun sl w C => p sl w fun d fl w' => fl = .cl ∧ ∃ ks l, d = .dic ks l ∧ C (ks.map keyTup) w'
theorem yl_keys {F : Hp} {a : Addr} {o : Obj} {us : List (List L2.Key × V)} {ks : List (List L2.Key)} (h : F a = some (.frz o (.dT us))) (hk : us.map (·.1) = ks) : YlOk K F (Itkt a o us) (ks.map keyTup) := by
  have hl : ks.length = us.length := by rw [← hk, List.length_map]
  refine ⟨fun F1 H1 e1 e2 i d hd => ?_, fun F1 H1 e1 e2 => ⟨e2 _ _ (e1 _ _ h), by rw [List.length_map, hl]; exact Nat.le_refl _⟩⟩
  rw [List.getElem?_map, Option.map_eq_some_iff] at hd
  obtain ⟨k, hk1, rfl⟩ := hd
  have hi : i < us.length := by rw [← hl]; exact (List.getElem?_eq_some_iff.mp hk1).1
  refine ⟨⟨e2 _ _ (e1 _ _ h), hi⟩, fun x H' ⟨z1, k', v, q, z2, z3, z4⟩ => ?_⟩
  subst z1 z3
  have ek : k' = k := by
    have := congrArg (fun l => l[i]?) hk
    simp only [List.getElem?_map, z2, Option.map_some] at this
    rw [hk1] at this
    exact Option.some.inj this
  subst ek
  have hr : ∀ F2 : Hp, F2 q = some (.tup (k'.map kV)) → Dr K F2 (.ref q) (keyTup k') := fun F2 z => .tup z (keyT_rel k')
  cases hq : F1 q with
  | none => exact ⟨_, .inr (.inr ⟨q, _, z4, rfl, hq, rfl, rfl, hr _ upd_same⟩)⟩
  | some o' =>
    have := e2 _ _ hq
    rw [z4] at this
    cases this
    exact ⟨F1, .inl ⟨rfl, rfl, hr _ hq⟩⟩
theorem di_keys (h : PD X W e pe) : PDI X W tg e (wiKeys pe) := by
  refine ⟨pi_imp (pi_keys h.run) fun σ H R ⟨B, F, G, w, sl, r, z⟩ => ?_, fun sl w C C' hC z => h.mono _ _ _ _ (fun d fl w1 ⟨z0, ks, l, z1, z2⟩ => ⟨z0, ks, l, z1, hC _ _ z2⟩) z⟩
  refine ⟨B, F, G, w, sl, r, h.mono _ _ _ _ (fun d fl w1 ⟨z0, ks, l, z1, z2⟩ v F1 G1 H1 r1 e1 f1 => ?_) z⟩
  subst z0 z1
  have f1 : Dr X.K F1 v (.dic ks l) := f1
  cases f1 with
  | dic ha hk hd => exact ⟨_, _, rfl, .inr ⟨_, r1.hr.f _ _ ha, z2 _ F1 G1 H1 r1 e1 (yl_keys ha hk)⟩⟩
end
end Ck
namespace Ck
open PySem PySem.Spec PyProof.Rows L2
/-! ### exceptions as data -/
structure Exn where
  cls : Str
  ns : List Str
  fs : List Dt
def ExR (K : PySem.W.Frag) (mg : Str → Option Value) (F : Hp) (cls : Value) (d : Option Addr) (x : Exn) : Prop :=
  ∃ C, mg x.cls = some (.ref C) ∧ cls = .ref C ∧ ((x.ns = [] ∧ x.fs = []) ∨ ∃ dd vs, d = some dd ∧ F dd = some (.xd (x.ns.zip vs)) ∧ x.ns.length = vs.length ∧ DrL K F vs x.fs)
theorem ExR.mono {K : PySem.W.Frag} {mg : Str → Option Value} {F F' : Hp} {cls : Value} {d : Option Addr} {x : Exn} (e : Same F F') (h : ExR K mg F cls d x) : ExR K mg F' cls d x := by
  obtain ⟨C, h1, h2, h3 | ⟨dd, vs, h3, h4, h5, h6⟩⟩ := h
  · exact ⟨C, h1, h2, .inl h3⟩
  · exact ⟨C, h1, h2, .inr ⟨dd, vs, h3, e _ _ h4, h5, h6.mono e⟩⟩
abbrev Er (Ω : Type) := Exn → Sl → Ω → Prop
/-- the world, and that nothing is lost of what stood at an entry -/
def Wd.at {Ω : Type} (W : Wd Ω) (B0 F0 : Hp) : Wd Ω where
  ok := fun w F G => W.ok w F G ∧ Same F0 F
  bk := fun B => W.bk B ∧ Same B0 B
  monoF := fun w F F' G e h => ⟨W.monoF _ _ _ _ e h.1, h.2.trans e⟩
  monoB := fun B B' e h => ⟨W.monoB _ _ e h.1, h.2.trans e⟩
section
variable {Ω : Type} {W : Wd Ω} {K : PySem.W.Frag} {B F G H B0 F0 F' G' H' : Hp} {w w' : Ω} {σ : L2.St} {sl : Sl}
theorem HR.at (r : HR W B F G H w) : HR (W.at B F) B F G H w := ⟨r.b, r.f, r.g, r.d, ⟨r.w, Same.refl _⟩, ⟨r.k, Same.refl _⟩⟩
theorem HR.at' (r : HR W B F G H w) (e : Same F0 F) (e2 : Same B0 B) : HR (W.at B0 F0) B F G H w := ⟨r.b, r.f, r.g, r.d, ⟨r.w, e⟩, ⟨r.k, e2⟩⟩
theorem HR.un (r : HR (W.at B0 F0) B F G H w) : HR W B F G H w := ⟨r.b, r.f, r.g, r.d, r.w.1, r.k.1⟩
theorem HR.toB (r : HR W B F G H w) (e : Same B0 B) (k : W.bk B0) : HR W B0 F G H w := ⟨fun a o h => r.b a o (e _ _ h), r.f, r.g, r.d, r.w, k⟩
theorem SR.at' (r : SR K W B F G H w σ sl) (e : Same F0 F) (e2 : Same B0 B) : SR K (W.at B0 F0) B F G H w σ sl := ⟨r.hr.at' e e2, r.len, r.s, r.o⟩
theorem SR.un (r : SR K (W.at B0 F0) B F G H w σ sl) : SR K W B F G H w σ sl := ⟨r.hr.un, r.len, r.s, r.o⟩
theorem SR.toB (r : SR K W B F G H w σ sl) (e : Same B0 B) (k : W.bk B0) : SR K W B0 F G H w σ sl := by
  refine ⟨r.hr.toB e k, r.len, fun i x h => ?_, r.o⟩
  obtain ⟨v, h1, h2⟩ := r.s i x h
  refine ⟨v, h1, ?_⟩
  cases x with
  | dat d => exact h2
  | mine o =>
    obtain ⟨a, ob, rfl, hB, q⟩ := h2
    exact ⟨a, ob, rfl, e.free hB, q⟩
theorem SR.down (r : SR K (W.at B0 F0) B F G H w σ sl) (k : W.bk B0) : SR K W B0 F G H w σ sl ∧ Same F0 F := ⟨r.un.toB r.hr.k.2 k, r.hr.w.2⟩
end
/-- what is wished of an exception, said over data -/
def Lk {Ω : Type} (X : Cx) (W : Wd Ω) (B0 F0 : Hp) (er : Er Ω) (U : WX) : Prop := W.bk B0 ∧ ∀ (x : Exn) (cls : Value) (d : Option Addr) (σ : L2.St) (sl : Sl) (F' G' H' : Hp) (w' : Ω),
  er x sl w' → SR X.K W B0 F' G' H' w' σ sl → Same F0 F' → ExR X.K X.mg F' cls d x → U cls d σ H'

/-! ### defs that may raise -/
structure SpcX (Ω : Type) where
  run : List Dt → Ω → (Dt → Ω → Prop) → (Exn → Ω → Prop) → Prop
  mono : ∀ ds w (C C' : Dt → Ω → Prop) (E E' : Exn → Ω → Prop), (∀ d w', C d w' → C' d w') → (∀ x w', E x w' → E' x w') → run ds w C E → run ds w C' E'
/-- where nothing is raised -/
def SpcX.no {Ω : Type} (S : SpcX Ω) : Spc Ω := ⟨fun ds w C => S.run ds w C fun _ _ => False, fun ds w C C' h => S.mono _ _ _ _ _ _ h fun _ _ z => z⟩
def spXOf {Ω : Type} (K : PySem.W.Frag) (mg : Str → Option Value) (W : Wd Ω) (S : SpcX Ω) : Sp := fun vs H Q E => ∃ B F G w ds, HR W B F G H w ∧ DrL K F vs ds ∧
  S.run ds w (fun d w' => ∀ v F' G' H', HR W B F' G' H' w' → Same F F' → Dr K F' v d → Q v H') fun x w' => ∀ cls d F' G' H', HR W B F' G' H' w' → Same F F' → ExR K mg F' cls d x → E cls d H'
structure CalleeX {Ω : Type} (P : Program) (w : World) (K : PySem.W.Frag) (mg : Str → Option Value) (base : Heap) (k : Nat) (x : Str) (ps : List Str) (W : Wd Ω) (S : SpcX Ω) : Prop where
  ex : ∃ (f : Addr) (fd : FuncData), FnG P w K mg base (L2.CX P w) k f fd ps (spXOf K mg W S) ∧ mg x = some (.ref f) ∧ PySem.W.keepIn K (.ref f) = true ∧ Binds K fd ps []
section
variable {Ω : Type} {P : Program} {w : World} {K : PySem.W.Frag} {mg : Str → Option Value} {base : Heap} {k : Nat} {f : Addr} {fd : FuncData} {x qual : Str} {ps N : List Str} {W : Wd Ω} {S : SpcX Ω} {S0 : Spc Ω} {st : Stmt} {B0 F0 : Hp}
theorem sp_at {vs : List V} {H : Hp} {Q : VK} {E : XK} (h : spOf K (W.at B0 F0) S0 vs H Q E) : spOf K W S0 vs H Q E := by
  obtain ⟨B, F, G, w, ds, h1, h2, h3⟩ := h
  exact ⟨B, F, G, w, ds, h1.un, h2, S0.mono _ _ _ _ (fun d w' z v F' G' H' r e q => z v F' G' H' (r.at' (h1.w.2.trans e) h1.k.2) e q) h3⟩
theorem spX_at {vs : List V} {H : Hp} {Q : VK} {E : XK} (h : spXOf K mg (W.at B0 F0) S vs H Q E) : spXOf K mg W S vs H Q E := by
  obtain ⟨B, F, G, w, ds, h1, h2, h3⟩ := h
  exact ⟨B, F, G, w, ds, h1.un, h2, S.mono _ _ _ _ _ _ (fun d w' z v F' G' H' r e q => z v F' G' H' (r.at' (h1.w.2.trans e) h1.k.2) e q) (fun x w' z cls d F' G' H' r e q => z cls d F' G' H' (r.at' (h1.w.2.trans e) h1.k.2) e q) h3⟩
theorem Callee.at (c : Callee P w K mg base k x ps W S0) : Callee P w K mg base k x ps (W.at B0 F0) S0 := by
  obtain ⟨f, fd, g, h1, h2, h3⟩ := c.ex
  exact ⟨f, fd, g.imp fun _ _ _ _ z => sp_at z, h1, h2, h3⟩
theorem CalleeX.at (c : CalleeX P w K mg base k x ps W S) : CalleeX P w K mg base k x ps (W.at B0 F0) S := by
  obtain ⟨f, fd, g, h1, h2, h3⟩ := c.ex
  exact ⟨f, fd, g.imp fun _ _ _ _ z => spX_at z, h1, h2, h3⟩
theorem FnG.bodyX (F : L2.Fun K x qual st f fd) (sc : FnScope N ps (defScope st)) (len : ∀ ds w C E, S.run ds w C E → ds.length = ps.length)
    (hb : ∀ (cdv : Value) (A : Around) (outer : List Env) (s : Shared) (H : Hp) (E : XK), A.guards = some [] → Room k (A.deeper (envOfC qual (defScope st) s.heap.objs.size f cdv)) → ∀ (B0 F0 : Hp) (Ex : Exn → Ω → Prop),
      Lk (cxOf (L2.CX P w) P w K mg base N qual (defScope st) f cdv A outer s H E) W B0 F0 (fun x _ w' => Ex x w') (fun cls d _ H' => E cls d H') →
      ∃ p, PDB (cxOf (L2.CX P w) P w K mg base N qual (defScope st) f cdv A outer s H E) (W.at B0 F0) (defBody st) p ∧ ∀ ds w C, S.run ds w C Ex → p (endD C) (startD N.length ds) w) :
    FnG P w K mg base (L2.CX P w) (k + 1) f fd ps (spXOf K mg W S) := by
  refine FnG.of F sc (fun vs H Q E h => ?_) fun cdv A outer s H vs Q E hgu hr h => ?_
  · obtain ⟨B, F', G, w', ds, h1, h2, h3⟩ := h
    rw [h2.len]
    exact len _ _ _ _ h3
  · obtain ⟨B, F', G, w', ds, q1, q2, q3⟩ := h
    obtain ⟨p, h1, h2⟩ := hb cdv A outer s H E hgu hr B F' (fun x w' => ∀ cls d F'' G' H', HR W B F'' G' H' w' → Same F' F'' → ExR K mg F'' cls d x → E cls d H') ⟨q1.k, fun x cls d σ sl F'' G' H' w' z r e q => z cls d F'' G' H' r.hr e q⟩
    refine ⟨_, h1.run, B, F', G, w', _, start_ok q1.at q2, h1.mono _ _ ?_ _ _ (h2 _ _ _ q3)⟩
    refine ⟨fun sl w z σ' F'' G' H' r e => ?_, fun d w z v F'' G' H' r e q => z v F'' G' H' r.un e q, fun _ _ z => z.elim, fun _ _ z => z.elim⟩
    exact z .non F'' G' H' r.hr.un e .non
theorem CalleeX.mk' (h : Has K mg x st) (sc : FnScope N ps (defScope st))
    (hbd : ∀ (kV doc pm : Value) (an : Option Addr) (cdv ct : Value) (us : List Value), us.length = ps.length → bindArgs (PySem.W.fnOf x x (defArgs st) (defBody st) (defScope st) .none kV doc pm an cdv ct) ⟨us, []⟩ = pure (ps.zip us))
    (len : ∀ ds w C E, S.run ds w C E → ds.length = ps.length) (p : Er Ω → DS Ω)
    (hb : ∀ (f : Addr) (cdv : Value) (A : Around) (outer : List Env) (s : Shared) (H : Hp) (E : XK) (B0 F0 : Hp) (er : Er Ω), A.guards = some [] → Room k (A.deeper (envOfC x (defScope st) s.heap.objs.size f cdv)) →
      Lk (cxOf (L2.CX P w) P w K mg base N x (defScope st) f cdv A outer s H E) W B0 F0 er (fun cls d _ H' => E cls d H') →
      PDB (cxOf (L2.CX P w) P w K mg base N x (defScope st) f cdv A outer s H E) (W.at B0 F0) (defBody st) (p er))
    (m : ∀ ds w C E, S.run ds w C E → p (fun x _ w' => E x w') (endD C) (startD N.length ds) w) : CalleeX P w K mg base (k + 1) x ps W S := by
  obtain ⟨f, fd, F, hm⟩ := h.ex
  exact ⟨f, fd, FnG.bodyX F sc len fun cdv A outer s H E hgu hr B0 F0 Ex lk => ⟨_, hb f cdv A outer s H E B0 F0 _ hgu hr lk, fun ds w C z => m ds w C Ex z⟩, hm, F.kp, F.binds hbd⟩
end

/-! ### calls -/
section
variable {Ω : Type} {X : Cx} {W : Wd Ω} {CX : CXT} {k j : Nat} {f : Addr} {fd : FuncData} {ps : List Str} {sp : Sp} {E : L2.St → XK} {x : Str} {p q pos : Pos} {e : Expr} {es : List Expr} {t : TA} {S : SpcX Ω} {pa : DL Ω} {B0 F0 : Hp} {er : Er Ω} {U : WX}
theorem run_gS {pins : List (Addr × Obj)} {σ : L2.St} {H : Hp} {s : Shared} {Q : VK} {us : List Value} {vs : List V} (g : FnG X.prog X.w X.K X.mg X.base CX k f fd ps sp) (hgu : X.A.guards = some []) (hr : Room k X.A) (hb : Binds X.K fd ps [])
    (hx : PassesAt CX X σ (E σ)) (I : Inv X pins σ H s) (r : Vals vs us) (h : sp vs H Q (E σ)) : wpAny (model X.prog X.w) X.A (call (.ref f) us) (EP X pins σ Q) X.xe s := by
  have hl : (us ++ []).length = ps.length := by
    rw [List.append_nil, ← r.length]
    exact g.len _ _ _ _ h
  have hbd := hb s us I.kIn hl
  rw [List.append_nil] at hbd
  apply wpAny_call
  refine codeAny_mono (g.run X.A X.stack s H ⟨us, []⟩ us vs Q (E σ) hgu hr I.env0 hbd r h) ?_
  intro res s' z
  match res, z with
  | .error e, z => exact hx pins H s e s' I z
  | .ok (.ret u), z => exact I.after z
  | .ok .next, z => exact z.elim
  | .ok .brk, z => exact z.elim
  | .ok .cont, z => exact z.elim
theorem pe_callGS (g : FnG X.prog X.w X.K X.mg X.base CX k f fd ps sp) (hgu : X.A.guards = some []) (hr : Room k X.A) (hg : Gl X x) (hm : X.mg x = some (.ref f)) (hk : PySem.W.keepIn X.K (.ref f) = true) (hb : Binds X.K fd ps []) (hx : ∀ σ, PassesAt CX X σ (E σ))
    (ha : PA X (e :: es) t) (hdb : (x == ("__debug__" : Str)) = false := by decide) (he : starEach (e :: es) X.env = (false, eval e X.env) :: starEach es X.env := by rfl) (hpl : (backTo pos (starEach es X.env)).any (·.1) = false := by rfl) :
    PE X (.Call (.Name x p) (e :: es) [] pos) (tCallS sp E t) := by
  constructor
  intro pins s σ H Q I h
  apply wpAny_Call_Name_kw
  apply ld_glob I hg hm _ hdb
  apply PySem.W.callWith_K (h₀ := X.base) I.ok.mod.kin hk _ he hpl
  exact thn (ha.run pos pins s σ H _ I h) fun us s1 ⟨vs, H1, I1, r, q⟩ => ⟨I1.kIn, run_gS g hgu hr hb (hx σ) I1 r q⟩
def wCallX (S : SpcX Ω) (er : Er Ω) (pa : DL Ω) : DE Ω := fun sl w C => pa sl w fun ds w1 => S.run ds w1 (fun d w2 => C d .cl w2) fun x w2 => er x sl w2
theorem d_calleX (c : CalleeX X.prog X.w X.K X.mg X.base j x ps W S) (tk : Takes X U) (lk : Lk X W B0 F0 er U) (hgu : X.A.guards = some []) (hr : Room k X.A) (hjk : j ≤ k) (hg : Gl X x) (ha : PDA X (W.at B0 F0) (e :: es) pa) (hdb : (x == ("__debug__" : Str)) = false := by decide)
    (he : starEach (e :: es) X.env = (false, eval e X.env) :: starEach es X.env := by rfl) (hpl : (backTo pos (starEach es X.env)).any (·.1) = false := by rfl) : PD X (W.at B0 F0) (.Call (.Name x q) (e :: es) [] pos) (wCallX S er pa) := by
  have H := (c.at (B0 := B0) (F0 := F0)).ex
  constructor
  · constructor
    intro pins s σ H0 Q I z
    obtain ⟨f, fd, g, hm, hk, hb⟩ := H
    refine (pe_callGS g hgu (hr.mono hjk) hg hm hk hb (E := WE U) (fun σ => passAt tk σ) ha.run hdb he hpl).run pins s σ H0 Q I ?_
    obtain ⟨B, F, G, w, sl, r, z⟩ := z
    refine ⟨B, F, G, w, sl, r, ha.mono _ _ _ _ (fun ds w1 z1 vs F1 G1 H1 r1 e1 d1 => ?_) z⟩
    refine ⟨rest F1 G1 H1, F1, G1, w1, ds, r1.hr.toRest.2, d1, S.mono _ _ _ _ _ _ (fun d w' c v F' G' H' r' e' k' => ?_) (fun x w' c cls d F' G' H' r' e' k' => ?_) z1⟩
    · exact c v F' G' H' (r1.back r' e') (e1.trans e') k'
    · obtain ⟨q1, q2⟩ := (r1.back r' e').down lk.1
      exact lk.2 x cls d σ sl F' G' H' w' c q1 q2 k'
  · intro sl w C C' hC z
    exact ha.mono _ _ _ _ (fun ds w1 z1 => S.mono _ _ _ _ _ _ (fun d w2 => hC _ _ _) (fun _ _ z => z) z1) z
/-- called where it raises nothing -/
theorem d_calleN (c : CalleeX X.prog X.w X.K X.mg X.base j x ps W S) (hgu : X.A.guards = some []) (hr : Room k X.A) (hjk : j ≤ k) (hg : Gl X x) (ha : PDA X W (e :: es) pa) (hdb : (x == ("__debug__" : Str)) = false := by decide)
    (he : starEach (e :: es) X.env = (false, eval e X.env) :: starEach es X.env := by rfl) (hpl : (backTo pos (starEach es X.env)).any (·.1) = false := by rfl) : PD X W (.Call (.Name x q) (e :: es) [] pos) (wCall S.no pa) := by
  have H := c.ex
  constructor
  · constructor
    intro pins s σ H0 Q I z
    obtain ⟨f, fd, g, hm, hk, hb⟩ := H
    refine (pe_callG g hgu (hr.mono hjk) hg hm hk hb (E := E0) passL ha.run hdb he hpl).run pins s σ H0 Q I ?_
    obtain ⟨B, F, G, w, sl, r, z⟩ := z
    refine ⟨B, F, G, w, sl, r, ha.mono _ _ _ _ (fun ds w1 z1 vs F1 G1 H1 r1 e1 d1 => ?_) z⟩
    refine ⟨rest F1 G1 H1, F1, G1, w1, ds, r1.hr.toRest.2, d1, S.mono _ _ _ _ _ _ (fun d w' c v F' G' H' r' e' k' => ?_) (fun x w' c => c.elim) z1⟩
    exact c v F' G' H' (r1.back r' e') (e1.trans e') k'
  · intro sl w C C' hC z
    exact ha.mono _ _ _ _ (fun ds w1 z1 => S.mono _ _ _ _ _ _ (fun d w2 => hC _ _ _) (fun _ _ z => z) z1) z
end

/-! ### raise -/
abbrev DM (Ω : Type) := Sl → Ω → (Exn → Ω → Prop) → Prop
def lftM {Ω : Type} (K : PySem.W.Frag) (mg : Str → Option Value) (W : Wd Ω) (p : DM Ω) : L2.St → Hp → XK → Prop := fun σ H Q => ∃ B F G w sl, SR K W B F G H w σ sl ∧ p sl w fun x w' => ∀ cls d F' G' H', SR K W B F' G' H' w' σ sl → Same F F' → ExR K mg F' cls d x → Q cls d H'
structure PMD {Ω : Type} (X : Cx) (W : Wd Ω) (e : Expr) (p : DM Ω) : Prop where
  run : PMk X e (lftM X.K X.mg W p)
  mono : ∀ sl w (C C' : Exn → Ω → Prop), (∀ d w', C d w' → C' d w') → p sl w C → p sl w C'
section
variable {Ω : Type} {X : Cx} {W : Wd Ω} {e : Expr} {pos p : Pos} {B0 F0 : Hp} {er : Er Ω} {U : WX} {pm : DM Ω} {x : Str}
def wRaise (pm : DM Ω) (er : Er Ω) : DS Ω := fun D sl w => pm sl w fun x w' => er x sl w'
theorem ds_raise (hc : X.calm = true) (tk : Takes X U) (lk : Lk X W B0 F0 er U) (h : PMD X (W.at B0 F0) e pm) : PDS X (W.at B0 F0) (.Raise (some e) none pos) (wRaise pm er) := by
  refine ⟨ps_imp (ps_raise hc tk h.run) fun D σ H ⟨B, F, G, w, sl, r, z⟩ => ?_, fun D D' l sl w z => z⟩
  refine ⟨B, F, G, w, sl, r, h.mono _ _ _ _ (fun x w' z cls d F' G' H' r' e' q => ?_) z⟩
  obtain ⟨q1, q2⟩ := r'.down lk.1
  exact lk.2 x cls d σ sl F' G' H' w' z q1 q2 q
/-- an own class without fields, nothing handed in -/
def wM0 (c : Str) : DM Ω := fun _ w C => C ⟨c, [], []⟩ w
theorem pm_own0 {C : Addr} {bmB : List Value} {B newId initId : String} (F : ExcBaseFacts B newId initId bmB) (q : PySem.W.excIn X.K C bmB newId = true) (gC : X.mg x = some (.ref C)) (kC : PySem.W.keepIn X.K (.ref C) = true) (r : Raises X (.ref C)) (hg : Gl X x)
    (hdb : (x == ("__debug__" : Str)) = false := by decide) : PMD X W (.Call (.Name x p) [] [] pos) (wM0 x) := by
  refine ⟨fun pins s σ H Q I ⟨B, F', G, w, sl, sr, z⟩ => ?_, fun sl w C C' hC z => hC _ _ z⟩
  refine wpAny_Call_Name_kw (ld_glob I hg gC ?_ hdb)
  refine PySem.W.callWith_K0 I.kIn kC ?_
  obtain ⟨bm, N, nm, qn, bs, hdct, sn, sub, ab, col, dd, k0, k1, k2, k3, k5, mN, hC, hN, hni, T⟩ := exc_obj I.kIn q
  refine wpAny_call_exc_subT F T hC hN hni (fun h' e hm => ?_) (Nat.zero_le _)
  exact mk_of I hm r (z (.ref C) none F' G H sr (Same.refl _) ⟨C, gC, rfl, .inl ⟨rfl, rfl⟩⟩) (I.hok.gone hm.new)
end
end Ck
namespace Ck
open PySem PySem.Spec PyProof.Rows L2
/-! ### try: body, except C: suite -/
section
variable {Ω : Type} {X : Cx} {W : Wd Ω} {er : Er Ω} {U : WX} {B0 F0 : Hp}
/-- what is let out, wherever -/
def LkS (X : Cx) (W : Wd Ω) (er : Er Ω) (U : WX) : Prop := ∀ (x : Exn) (cls : Value) (d : Option Addr) (σ : L2.St) (sl : Sl) (B F G H : Hp) (w : Ω), er x sl w → SR X.K W B F G H w σ sl → ExR X.K X.mg F cls d x → U cls d σ H
theorem Lk.s (lk : Lk X W B0 F0 er U) : LkS X (W.at B0 F0) er U := fun x cls d σ sl B F G H w h r q => let ⟨q1, q2⟩ := r.down lk.1; lk.2 x cls d σ sl F G H w h q1 q2 q
theorem lkS_no : LkS X W (fun _ _ _ => False) (fun _ _ _ _ => False) := fun _ _ _ _ _ _ _ _ _ _ h => h.elim
/-- which classes a clause takes -/
def SubOk (X : Cx) (c : Value) (sub : Str → Option Bool) : Prop := ∀ (n : Str) (b : Bool) (C : Addr), sub n = some b → X.mg n = some (.ref C) → PySem.W.exmOne X.K (.ref C) c = some b
def wTryO (sub : Str → Option Bool) (pb : Er Ω → DS Ω) (ps : DS Ω) (er : Er Ω) : DS Ω := fun D sl w => ∃ er1 : Er Ω, (∀ x sl' w', er1 x sl' w' → ∃ b, sub x.cls = some b ∧ if b = true then ps D sl' w' else er x sl' w') ∧ pb er1 D sl w
def noSlot (i : Nat) (D : DD Ω) : DD Ω := { nx := fun s w => D.nx (s.set i none) w, rt := D.rt, bk := fun s w => D.bk (s.set i none) w, ct := fun s w => D.ct (s.set i none) w }
def wTryA (i : Nat) (sub : Str → Option Bool) (pb : Er Ω → DS Ω) (ps : Exn → Addr → DS Ω) (er : Er Ω) : DS Ω := fun D sl w => ∃ er1 : Er Ω, (∀ x sl' w', er1 x sl' w' → ∃ b, sub x.cls = some b ∧
  if b = true then ∀ a, ps x a (noSlot i D) (sl'.set i (some (.dat (.opq (.ref a))))) w' else er x sl' w') ∧ pb er1 D sl w
theorem up_at {K : PySem.W.Frag} {B F : Hp} {D : Ends} : (up K W B F D).Le (up K (W.at B0 F0) B F D) :=
  ⟨fun _ _ z σ' F' G' H' r e => z σ' F' G' H' r.un e, fun _ _ z v F' G' H' r e q => z v F' G' H' r.un e q, fun _ _ z σ' F' G' H' r e => z σ' F' G' H' r.un e, fun _ _ z σ' F' G' H' r e => z σ' F' G' H' r.un e⟩
theorem SR.nothing {K : PySem.W.Frag} {B F G H : Hp} {w : Ω} {σ : L2.St} {sl : Sl} (r : SR K W B F G H w σ sl) (i : Nat) : SR K W B F G H w (σ.set i none) (sl.set i none) := by
  have key : ∀ (j : Nat) (x : Sv), (sl.set i none)[j]? = some (some x) → i ≠ j ∧ sl[j]? = some (some x) := fun j x h => by
    rw [List.getElem?_set] at h
    by_cases e : i = j
    · rw [if_pos e] at h
      split at h <;> cases h
    · rw [if_neg e] at h
      exact ⟨e, h⟩
  refine ⟨r.hr, by rw [List.length_set, List.length_set]; exact r.len, fun j x h => ?_, fun j k v l m h1 h2 h3 h4 => ?_⟩
  · obtain ⟨e, h⟩ := key j x h
    rw [List.getElem?_set_ne e]
    exact r.s j x h
  · obtain ⟨e1, h1⟩ := key j _ h1
    obtain ⟨e2, h2⟩ := key k _ h2
    rw [List.getElem?_set_ne e1] at h3
    rw [List.getElem?_set_ne e2] at h4
    exact r.o j k v l m h1 h2 h3 h4
section
variable {cn n : Str} {c : Value} {i : Nat} {body suite : List Stmt} {b₀ : Stmt} {np pos pos' : Pos} {sub : Str → Option Bool} {pb : Er Ω → DS Ω}
theorem ds_tryO {ps : DS Ω} (hs : X.stack = X.env :: X.outer) (hf : X.env.frame = some X.env.locals) (hc : Names X cn c) (tk : Takes X U) (lk : LkS X W er U) (hsub : SubOk X c sub)
    (hb : ∀ (V : WX) (pn : List (Addr × Obj)) (xe : Value → Shared → Prop), Takes (X.tr pn xe) V → PassesOwn (model X.prog X.w) X.A X.env xe → ∀ (B1 F1 : Hp) (er1 : Er Ω), Lk (X.tr pn xe) W B1 F1 er1 V → PDB (X.tr pn xe) (W.at B1 F1) body (pb er1))
    (hsu : ∀ (a : Addr) (oe : Obj) (pn : List (Addr × Obj)), PDB (X.suite a ((a, oe) :: pn)) W (b₀ :: suite) ps)
    (hm : ∀ er1 (D D' : DD Ω), D.Le D' → ∀ sl w, pb er1 D sl w → pb er1 D' sl w) :
    PDS X W (.Try body [.ExceptHandler (some (.Name cn np)) none (b₀ :: suite) pos'] [] [] pos) (wTryO sub pb ps er) := by
  have hmono := (hsu 0 { cls := .none, data := .fields #[] } []).mono
  refine ⟨ps_imp (ps_try_only (c := c) (Wout := U)
    (tb := fun V D σ H => ∃ B1 F1 er1 G w sl, Lk X W B1 F1 er1 V ∧ SR X.K W B1 F1 G H w σ sl ∧ pb er1 (up X.K W B1 F1 D) sl w)
    (ts := fun _ _ _ => lftS X.K W ps) hs hf hc tk (fun V pn xe tk' ho => ⟨fun pins s σ H D I ⟨B1, F1, er1, G, w, sl, lk1, r, z⟩ => ?_⟩) (fun a oe cls d pn _ _ => (hsu a oe pn).run)) fun D σ H ⟨B, F, G, w, sl, r, er1, h1, z⟩ => ?_,
    fun D D' l sl w ⟨er1, h1, z⟩ => ⟨er1, fun x sl' w' h => ?_, hm _ _ _ l _ _ z⟩⟩
  · refine (hb V pn xe tk' ho B1 F1 er1 lk1).run.run pins s σ H D I ⟨B1, F1, G, w, sl, r.at' (Same.refl _) (Same.refl _), hm _ _ _ up_at _ _ z⟩
  · refine ⟨B, F, er1, G, w, sl, ⟨r.hr.k, fun x cls d σ' sl' F' G' H' w' h r' e' q => ?_⟩, r, z⟩
    obtain ⟨b, e1, e2⟩ := h1 x sl' w' h
    obtain ⟨C, q1, q2, q3⟩ := id q
    subst q2
    refine ⟨b, hsub _ _ _ e1 q1, fun hb' a na => ?_, fun hb' => ?_⟩
    · rw [if_pos hb'] at e2
      exact ⟨B, F', G', w', sl', r', hmono _ _ (up_le e') _ _ e2⟩
    · rw [hb'] at e2
      exact lk x _ d σ' sl' B F' G' H' w' e2 r' q
  · obtain ⟨b, e1, e2⟩ := h1 x sl' w' h
    refine ⟨b, e1, ?_⟩
    cases b with
    | true => exact hmono _ _ l _ _ e2
    | false => exact e2
theorem noSlot_le {D D' : DD Ω} (l : D.Le D') : (noSlot i D).Le (noSlot i D') := ⟨fun _ _ => l.nx _ _, l.rt, fun _ _ => l.bk _ _, fun _ _ => l.ct _ _⟩
theorem ds_tryA {ps : Exn → Addr → DS Ω} (hs : X.stack = X.env :: X.outer) (hf : X.env.frame = some X.env.locals) (hN : X.N.Nodup) (hi : X.N[i]? = some n) (hln : X.env.kindOf n = some .local) (hc : Names X cn c) (tk : Takes X U) (lk : LkS X W er U) (hsub : SubOk X c sub)
    (hb : ∀ (V : WX) (pn : List (Addr × Obj)) (xe : Value → Shared → Prop), Takes (X.tr pn xe) V → PassesOwn (model X.prog X.w) X.A X.env xe → ∀ (B1 F1 : Hp) (er1 : Er Ω), Lk (X.tr pn xe) W B1 F1 er1 V → PDB (X.tr pn xe) (W.at B1 F1) body (pb er1))
    (hsu : ∀ (a : Addr) (oe : Obj) (cls : Value) (d : Option Addr) (pn : List (Addr × Obj)) (x : Exn) (B1 F1 : Hp), Zc cls d oe → (∃ vs, oe.data = .fields vs) → ExR X.K X.mg F1 cls d x → PDB (X.suite a ((a, oe) :: pn)) (W.at B1 F1) (b₀ :: suite) (ps x a))
    (hm : ∀ er1 (D D' : DD Ω), D.Le D' → ∀ sl w, pb er1 D sl w → pb er1 D' sl w) (hms : ∀ x a (D D' : DD Ω), D.Le D' → ∀ sl w, ps x a D sl w → ps x a D' sl w) :
    PDS X W (.Try body [.ExceptHandler (some (.Name cn np)) (some n) (b₀ :: suite) pos'] [] [] pos) (wTryA i sub pb ps er) := by
  refine ⟨ps_imp (ps_try_as (c := c) (i := i) (Wout := U)
    (tb := fun V D σ H => ∃ B1 F1 er1 G w sl, Lk X W B1 F1 er1 V ∧ SR X.K W B1 F1 G H w σ sl ∧ pb er1 (up X.K W B1 F1 D) sl w)
    (ts := fun a cls d D σ H => ∃ x B1 F1 G w sl, ExR X.K X.mg F1 cls d x ∧ SR X.K W B1 F1 G H w σ sl ∧ ps x a (up X.K W B1 F1 D) sl w) hs hf hN hi hln hc tk
    (fun V pn xe tk' ho => ⟨fun pins s σ H D I ⟨B1, F1, er1, G, w, sl, lk1, r, z⟩ => ?_⟩) (fun a oe cls d pn hz ho => ⟨fun pins s σ H D I ⟨x, B1, F1, G, w, sl, q, r, z⟩ => ?_⟩)) fun D σ H ⟨B, F, G, w, sl, r, er1, h1, z⟩ => ?_,
    fun D D' l sl w ⟨er1, h1, z⟩ => ⟨er1, fun x sl' w' h => ?_, hm _ _ _ l _ _ z⟩⟩
  · refine (hb V pn xe tk' ho B1 F1 er1 lk1).run.run pins s σ H D I ⟨B1, F1, G, w, sl, r.at' (Same.refl _) (Same.refl _), hm _ _ _ up_at _ _ z⟩
  · exact (hsu a oe cls d pn x B1 F1 hz ho q).run.run pins s σ H D I ⟨B1, F1, G, w, sl, r.at' (Same.refl _) (Same.refl _), hms _ _ _ _ up_at _ _ z⟩
  · refine ⟨B, F, er1, G, w, sl, ⟨r.hr.k, fun x cls d σ' sl' F' G' H' w' h r' e' q => ?_⟩, r, z⟩
    obtain ⟨b, e1, e2⟩ := h1 x sl' w' h
    obtain ⟨C, q1, q2, q3⟩ := id q
    subst q2
    refine ⟨b, hsub _ _ _ e1 q1, fun hb' a na => ?_, fun hb' => ?_⟩
    · rw [if_pos hb'] at e2
      refine ⟨x, B, F', G', w', _, q, r'.dat i (.opq (.ref a)), hms _ _ _ _ ?_ _ _ (e2 a)⟩
      exact ⟨fun s v z σ1 F1 G1 H1 r1 e1 => z _ F1 G1 H1 (r1.nothing i) (e'.trans e1), fun d v z u F1 G1 H1 r1 e1 q1 => z u F1 G1 H1 r1 (e'.trans e1) q1, fun s v z σ1 F1 G1 H1 r1 e1 => z _ F1 G1 H1 (r1.nothing i) (e'.trans e1), fun s v z σ1 F1 G1 H1 r1 e1 => z _ F1 G1 H1 (r1.nothing i) (e'.trans e1)⟩
    · rw [hb'] at e2
      exact lk x _ d σ' sl' B F' G' H' w' e2 r' q
  · obtain ⟨b, e1, e2⟩ := h1 x sl' w' h
    refine ⟨b, e1, ?_⟩
    cases b with
    | true => exact fun a => hms _ _ _ _ (noSlot_le l) _ _ (e2 a)
    | false => exact e2
end
/-! ### e.f, e the exception that a suite holds -/
def wExF (i : Nat) (a : Addr) (x : Exn) (c f : Str) : DE Ω := fun sl w C => ∃ dv, x = ⟨c, [f], [dv]⟩ ∧ sl[i]? = some (some (.dat (.opq (.ref a)))) ∧ C dv .cl w
theorem d_exf {a C : Addr} {oe : Obj} {cls : Value} {d : Option Addr} {pn : List (Addr × Obj)} {x : Exn} {B1 F1 : Hp} {i : Nat} {y c f : Str} {pos p : Pos} (T : XfC X.K C) (hno : PySem.W.findIn X.K (.ref C) f = some none) (hmg : X.mg c = some (.ref C))
    (hz : Zc cls d oe) (hf : ∃ vs, oe.data = .fields vs) (hx : ExR X.K X.mg F1 cls d x) (hv : PE (X.suite a ((a, oe) :: pn)) (.Name y p) (tVar i)) : PD (X.suite a ((a, oe) :: pn)) (W.at B1 F1) (.Attribute (.Name y p) f pos) (wExF i a x c f) := by
  refine ⟨pe_imp (pe_xf T hno hz hf hv) fun σ H Q ⟨B, F, G, w, sl, r, dv, e1, e2, z⟩ => ?_, fun sl w C C' hC ⟨dv, e1, e2, z⟩ => ⟨dv, e1, e2, hC _ _ _ z⟩⟩
  subst e1
  obtain ⟨v, h1, h2⟩ := r.s i _ e2
  have h2 : Dr X.K F v (.opq (.ref a)) := h2
  cases h2
  obtain ⟨C', q1, q2, ⟨q3, _⟩ | ⟨dd, vs, q3, q4, q5, q6⟩⟩ := hx
  · cases q3
  · have q1 : X.mg c = some (.ref C') := q1
    rw [hmg] at q1
    cases q1
    have q6 : DrL X.K F1 vs [dv] := q6
    cases q6 with
    | cons k1 k2 =>
      cases k2
      rename_i u
      have eF := r.hr.w.2
      refine ⟨.ref a, h1, rfl, q2, dd, _, u, q3, r.hr.f _ _ (eF _ _ q4), ?_, z u F G H r (Same.refl _) (Dr.mono eF k1)⟩
      show List.lookup f [(f, u)] = some u
      simp [List.lookup]
end
end Ck
namespace GenK
open PySem
open Sem (wp)
/-! ### what sleeps is not woken: a run over a table whose sleepers cannot be woken is a run over the true table, and the sleepers stay -/
def deadF (f : Frame) : Frame := .ret (fun _ => .unsupported "") none false [] f.where_.1 f.where_.2 []
def sleeps : GenState → Bool
  | .suspended .. => true
  | _ => false
def dead : GenState → GenState
  | .suspended _ l c p fs cl => .suspended (fun _ => .unsupported "") l c p (fs.map deadF) cl
  | x => x
theorem dead_seen (x : GenState) : (dead x).seen = x.seen := by
  cases x with
  | suspended k l c p fs cl =>
    show (GenStatus.suspended, some ((c, p) :: (fs.map deadF).map Frame.where_)) = (GenStatus.suspended, some ((c, p) :: fs.map Frame.where_))
    rw [List.map_map]
    rfl
  | _ => rfl
theorem dead_nog (fs : List Frame) : splitAtGen (fs.map deadF) = none := by
  induction fs with
  | nil => rfl
  | cons f r ih =>
    show (splitAtGen (r.map deadF)).map _ = none
    rw [ih]
    rfl
theorem stuck_run {M : Model} {Γ : Ctx} {p : Pos} {u : String} {fs : List Frame} {s s' : Shared} {e : End} (h : Runs M Γ p (.unsupported u) fs s e s') : False := by
  have h0 : ∀ {Γ : Ctx} {p : Pos} {s s' : Shared} {e : End}, ¬ Runs M Γ p (.unsupported u) [] s e s' := fun h => by cases h
  cases h with
  | segRet a _ => exact h0 a
  | segGen a _ => exact h0 a
  | segSuspOut _ a => exact h0 a
  | segSuspGen _ a _ _ => exact h0 a
theorem nog_tail {k h g l c p kp} {fs : List Frame} (e : splitAtGen (.ret k h g l c p kp :: fs) = none) : splitAtGen fs = none := by
  have e2 : (splitAtGen fs).map (fun x : List Frame × (Nat × (GenResult → Sem Fin) × Code × Pos) × List Frame => ((Frame.ret k h g l c p kp) :: x.1, x.2.1, x.2.2)) = none := e
  cases q : splitAtGen fs with
  | none => rfl
  | some x =>
    rw [q] at e2
    cases e2
theorem nog_append : ∀ {a b : List Frame}, splitAtGen a = none → splitAtGen b = none → splitAtGen (a ++ b) = none
  | [], _, _, h => h
  | .ret k h g l c p kp :: r, b, h1, h2 => by
    have ih := nog_append (nog_tail h1) h2
    show (splitAtGen (r ++ b)).map _ = none
    rw [ih]
    rfl
  | .gen g k l c p :: r, b, h1, _ => by cases h1
/-- the sleepers of a -/
def Asleep (a : Array GenState) (i : Nat) : Prop := ∃ x, a[i]? = some x ∧ sleeps x = true
/-- d: the table with sleepers that cannot be woken; t: the true one -/
structure Rel (a d t : Array GenState) : Prop where
  size : d.size = t.size
  old : a.size ≤ t.size
  asl : ∀ i, Asleep a i → t[i]? = a[i]? ∧ d[i]? = (a[i]?).map dead
  awk : ∀ i, ¬ Asleep a i → d[i]? = t[i]?
  nog : ∀ (i : Nat) k l c p fs cl, d[i]? = some (GenState.suspended k l c p fs cl) → splitAtGen fs = none
def EndNog : End → Prop
  | .ret _ => True
  | .susp _ _ _ _ _ _ fs => splitAtGen fs = none
theorem nog_state {e : End} (h : EndNog e) {k l c p fs cl} (q : e.genState = .suspended k l c p fs cl) : splitAtGen fs = none := by
  cases e with
  | ret r => cases q
  | susp v g l' k' c' p' fs' =>
    cases q
    exact h
theorem Asleep.not_of {a d t : Array GenState} (R : Rel a d t) {g : Nat} {x : GenState} (e : d[g]? = some x) (h : ∀ y, sleeps y = true → dead y ≠ x) : ¬ Asleep a g := fun ⟨y, q1, q2⟩ => by
  have := (R.asl g ⟨y, q1, q2⟩).2
  rw [e, q1] at this
  exact h y q2 (Option.some.inj this).symm
theorem Rel.set {a d t : Array GenState} (R : Rel a d t) {g : Nat} (n : ¬ Asleep a g) {x : GenState} (hx : ∀ k l c p fs cl, x = .suspended k l c p fs cl → splitAtGen fs = none) : Rel a (d.setIfInBounds g x) (t.setIfInBounds g x) where
  size := by rw [Array.size_setIfInBounds, Array.size_setIfInBounds]; exact R.size
  old := by rw [Array.size_setIfInBounds]; exact R.old
  asl := fun i h => by
    have hi : g ≠ i := fun z => n (by rw [z]; exact h)
    rw [Array.getElem?_setIfInBounds_ne hi, Array.getElem?_setIfInBounds_ne hi]
    exact R.asl i h
  awk := fun i h => by
    by_cases hi : g = i
    · subst hi
      rw [Array.getElem?_setIfInBounds_self, Array.getElem?_setIfInBounds_self, R.size]
    · rw [Array.getElem?_setIfInBounds_ne hi, Array.getElem?_setIfInBounds_ne hi]
      exact R.awk i h
  nog := fun i k l c p fs cl e => by
    by_cases hi : g = i
    · subst hi
      rw [Array.getElem?_setIfInBounds_self] at e
      split at e
      · exact hx k l c p fs cl (Option.some.inj e)
      · cases e
    · rw [Array.getElem?_setIfInBounds_ne hi] at e
      exact R.nog i k l c p fs cl e
theorem Rel.push {a d t : Array GenState} (R : Rel a d t) {c : Code} : Rel a (d.push (.fresh c)) (t.push (.fresh c)) where
  size := by rw [Array.size_push, Array.size_push, R.size]
  old := by rw [Array.size_push]; exact Nat.le_succ_of_le R.old
  asl := fun i h => by
    obtain ⟨x, q1, q2⟩ := h
    have hi : i < a.size := (Array.getElem?_eq_some_iff.mp q1).1
    have h1 := R.old
    have h2 := R.size
    rw [Array.getElem?_push, Array.getElem?_push, if_neg (by omega), if_neg (by omega)]
    exact R.asl i ⟨x, q1, q2⟩
  awk := fun i h => by
    rw [Array.getElem?_push, Array.getElem?_push, R.size, R.awk i h]
  nog := fun i k l c' p fs cl e => by
    rw [Array.getElem?_push] at e
    split at e
    · cases e
    · exact R.nog i k l c' p fs cl e
theorem Rel.seen {a d t : Array GenState} (R : Rel a d t) {g : Nat} {st : GenState} (q : d[g]? = some st) : ∃ st', t[g]? = some st' ∧ st'.seen = st.seen := by
  by_cases ha : Asleep a g
  · obtain ⟨q1, q2⟩ := R.asl g ha
    obtain ⟨x, hx, _⟩ := ha
    rw [hx] at q1 q2
    rw [q] at q2
    cases q2
    exact ⟨x, q1, (dead_seen x).symm⟩
  · exact ⟨st, (R.awk g ha).symm.trans q, rfl⟩
theorem Rel.wake {a d t : Array GenState} (R : Rel a d t) {g : Nat} {k l c p fs cl} (q : d[g]? = some (GenState.suspended k l c p fs cl)) : (∃ u, k = fun _ => .unsupported u) ∨ ¬ Asleep a g := by
  by_cases ha : Asleep a g
  · obtain ⟨_, q2⟩ := R.asl g ha
    obtain ⟨x, hx, hs⟩ := ha
    rw [hx, q] at q2
    cases x with
    | suspended k1 l1 c1 p1 fs1 cl1 =>
      cases q2
      exact .inl ⟨"", rfl⟩
    | _ => cases hs
  · exact .inr ha
/-- the state with another table -/
abbrev wg (s : Shared) (G : Array GenState) : Shared := { s with gens := G }
theorem sim {M : Model} {a : Array GenState} {Γ : Ctx} {p : Pos} {t : Sem Fin} {fs : List Frame} {s s' : Shared} {e : End} (h : Runs M Γ p t fs s e s') :
    splitAtGen fs = none → ∀ G, Rel a s.gens G → ∃ G', Runs M Γ p t fs (wg s G) e (wg s' G') ∧ Rel a s'.gens G' ∧ EndNog e := by
  induction h with
  | done => exact fun _ G R => ⟨G, .done, R, trivial⟩
  | raise => exact fun _ G R => ⟨G, .raise, R, trivial⟩
  | again q _ ih => exact fun n G R => let ⟨G', h, r⟩ := ih n G R; ⟨G', .again q h, r⟩
  | rule _ ih => exact fun n G R => let ⟨G', h, r⟩ := ih n G R; ⟨G', .rule h, r⟩
  | «at» _ ih => exact fun n G R => let ⟨G', h, r⟩ := ih n G R; ⟨G', .at h, r⟩
  | load q _ ih => exact fun n G R => let ⟨G', h, r⟩ := ih n G R; ⟨G', .load q h, r⟩
  | update q _ ih => exact fun n G R => let ⟨G', h, r⟩ := ih n G R; ⟨G', .update q h, r⟩
  | loadIfAlive _ ih => exact fun n G R => let ⟨G', h, r⟩ := ih n G R; ⟨G', .loadIfAlive h, r⟩
  | point _ ih => exact fun n G R => let ⟨G', h, r⟩ := ih n G R; ⟨G', .point h, r⟩
  | alloc _ ih => exact fun n G R => let ⟨G', h, r⟩ := ih n G R; ⟨G', .alloc h, r⟩
  | fresh _ ih => exact fun n G R => let ⟨G', h, r⟩ := ih n G R; ⟨G', .fresh h, r⟩
  | ask _ ih => exact fun n G R => let ⟨G', h, r⟩ := ih n G R; ⟨G', .ask h, r⟩
  | choose q _ ih => exact fun n G R => let ⟨G', h, r⟩ := ih n G R; ⟨G', .choose q h, r⟩
  | os _ ih => exact fun n G R => let ⟨G', h, r⟩ := ih n G R; ⟨G', .os h, r⟩
  | handled _ ih => exact fun n G R => let ⟨G', h, r⟩ := ih n G R; ⟨G', .handled h, r⟩
  | genState q _ ih =>
    intro n G R
    obtain ⟨G', h, r⟩ := ih n G R
    obtain ⟨st', q1, q2⟩ := R.seen q
    exact ⟨G', .genState q1 (by rw [q2]; exact h), r⟩
  | stack _ ih => exact fun n G R => let ⟨G', h, r⟩ := ih n G R; ⟨G', .stack h, r⟩
  | thread _ ih => exact fun n G R => let ⟨G', h, r⟩ := ih n G R; ⟨G', .thread h, r⟩
  | newGen _ ih =>
    intro n G R
    obtain ⟨G', h, r⟩ := ih n _ R.push
    rw [R.size] at h
    exact ⟨G', .newGen h, r⟩
  | call _ _ ih1 ih2 =>
    intro n G R
    obtain ⟨G1, h1, R1, _⟩ := ih1 rfl G R
    obtain ⟨G2, h2, r⟩ := ih2 n G1 R1
    exact ⟨G2, .call h1 h2, r⟩
  | callSusp _ ih =>
    intro n G R
    obtain ⟨G1, h1, R1, e1⟩ := ih rfl G R
    exact ⟨G1, .callSusp h1, R1, nog_append e1 rfl⟩
  | yield => exact fun n G R => ⟨G, .yield, R, rfl⟩
  | resumeFresh q _ hq _ ih1 ih2 =>
    intro n G R
    have na := Asleep.not_of R q (fun y hy => by cases y <;> first | (cases hy; done) | (exact fun z => by cases z))
    obtain ⟨G1, h1, R1, e1⟩ := ih1 rfl _ (R.set na (x := .running) (fun _ _ _ _ _ _ z => by cases z))
    obtain ⟨G2, h2, r⟩ := ih2 n _ (R1.set na (fun _ _ _ _ _ _ z => nog_state e1 z))
    exact ⟨G2, .resumeFresh ((R.awk _ na).symm.trans q) h1 hq h2, r⟩
  | resumeSuspended q hr hq _ ih1 ih2 =>
    intro n G R
    rcases R.wake q with ⟨u, ek⟩ | ha
    · rw [ek] at hr
      exact (stuck_run hr).elim
    · obtain ⟨G1, h1, R1, e1⟩ := ih1 (R.nog _ _ _ _ _ _ _ q) _ (R.set ha (x := .running) (fun _ _ _ _ _ _ z => by cases z))
      obtain ⟨G2, h2, r⟩ := ih2 n _ (R1.set ha (fun _ _ _ _ _ _ z => nog_state e1 z))
      exact ⟨G2, .resumeSuspended ((R.awk _ ha).symm.trans q) h1 hq h2, r⟩
  | resumeJustStarted q hv _ ih =>
    intro n G R
    have na := Asleep.not_of R q (fun y hy => by cases y <;> first | (cases hy; done) | (exact fun z => by cases z))
    obtain ⟨G1, h1, r⟩ := ih n G R
    exact ⟨G1, .resumeJustStarted ((R.awk _ na).symm.trans q) hv h1, r⟩
  | resumeThrowFresh q _ ih =>
    intro n G R
    have na := Asleep.not_of R q (fun y hy => by cases y <;> first | (cases hy; done) | (exact fun z => by cases z))
    obtain ⟨G1, h1, r⟩ := ih n _ (R.set na (x := .finished) (fun _ _ _ _ _ _ z => by cases z))
    exact ⟨G1, .resumeThrowFresh ((R.awk _ na).symm.trans q) h1, r⟩
  | resumeRunning q _ ih =>
    intro n G R
    have na := Asleep.not_of R q (fun y hy => by cases y <;> first | (cases hy; done) | (exact fun z => by cases z))
    obtain ⟨G1, h1, r⟩ := ih n G R
    exact ⟨G1, .resumeRunning ((R.awk _ na).symm.trans q) h1, r⟩
  | resumeFinished q _ ih =>
    intro n G R
    have na := Asleep.not_of R q (fun y hy => by cases y <;> first | (cases hy; done) | (exact fun z => by cases z))
    obtain ⟨G1, h1, r⟩ := ih n G R
    exact ⟨G1, .resumeFinished ((R.awk _ na).symm.trans q) h1, r⟩
  | segRet _ _ ih1 ih2 =>
    intro n G R
    obtain ⟨G1, h1, R1, _⟩ := ih1 rfl G R
    obtain ⟨G2, h2, r⟩ := ih2 (nog_tail n) G1 R1
    exact ⟨G2, .segRet h1 h2, r⟩
  | segGen _ _ _ _ => exact fun n => by cases n
  | segSuspOut q _ ih =>
    intro n G R
    obtain ⟨G1, h1, R1, e1⟩ := ih rfl G R
    exact ⟨G1, .segSuspOut q h1, R1, nog_append e1 n⟩
  | segSuspGen q _ _ _ _ _ => exact fun n => by rw [n] at q; cases q
theorem sim_wakes {M : Model} {a : Array GenState} {Γ : Ctx} {p : Pos} {g : Nat} {r : Resume} {s s' : Shared} {res : GenResult} (h : Wakes M Γ p g r s res s') {G : Array GenState} (R : Rel a s.gens G) :
    ∃ G', Wakes M Γ p g r (wg s G) res (wg s' G') ∧ Rel a s'.gens G' := by
  unfold Wakes at h
  split at h
  · exact h.elim
  · rename_i c q
    have na := Asleep.not_of R q (fun y hy => by cases y <;> first | (cases hy; done) | (exact fun z => by cases z))
    have q2 : (wg s G).gens[g]? = some (.fresh c) := (R.awk _ na).symm.trans q
    split at h
    · obtain ⟨e1, s1, h1, hq, rfl, rfl⟩ := h
      obtain ⟨G1, k1, R1, n1⟩ := sim h1 rfl _ (R.set na (x := .running) (fun _ _ _ _ _ _ z => by cases z))
      refine ⟨G1.setIfInBounds g e1.genState, ?_, R1.set na (fun _ _ _ _ _ _ z => nog_state n1 z)⟩
      unfold Wakes
      rw [q2]
      exact ⟨e1, wg s1 G1, k1, hq, rfl, rfl⟩
    · rename_i v hv
      obtain ⟨rfl, rfl⟩ := h
      refine ⟨G, ?_, R⟩
      unfold Wakes
      rw [q2]
      cases v <;> first | exact ⟨rfl, rfl⟩ | exact (hv rfl).elim
    · obtain ⟨rfl, rfl⟩ := h
      refine ⟨G.setIfInBounds g .finished, ?_, R.set na (fun _ _ _ _ _ _ z => by cases z)⟩
      unfold Wakes
      rw [q2]
      exact ⟨rfl, rfl⟩
  · rename_i q
    obtain ⟨e1, s1, h1, hq, rfl, rfl⟩ := h
    rcases R.wake q with ⟨u, ek⟩ | na
    · rw [ek] at h1
      exact (stuck_run h1).elim
    · obtain ⟨G1, k1, R1, n1⟩ := sim h1 (R.nog _ _ _ _ _ _ _ q) _ (R.set na (x := .running) (fun _ _ _ _ _ _ z => by cases z))
      refine ⟨G1.setIfInBounds g e1.genState, ?_, R1.set na (fun _ _ _ _ _ _ z => nog_state n1 z)⟩
      unfold Wakes
      rw [show (wg s G).gens[g]? = _ from (R.awk _ na).symm.trans q]
      exact ⟨e1, wg s1 G1, k1, hq, rfl, rfl⟩
  · rename_i q
    have na := Asleep.not_of R q (fun y hy => by cases y <;> first | (cases hy; done) | (exact fun z => by cases z))
    obtain ⟨rfl, rfl⟩ := h
    refine ⟨G, ?_, R⟩
    unfold Wakes
    rw [show (wg _ G).gens[g]? = _ from (R.awk _ na).symm.trans q]
    exact ⟨rfl, rfl⟩
  · rename_i q
    have na := Asleep.not_of R q (fun y hy => by cases y <;> first | (cases hy; done) | (exact fun z => by cases z))
    obtain ⟨rfl, rfl⟩ := h
    refine ⟨G, ?_, R⟩
    unfold Wakes
    rw [show (wg _ G).gens[g]? = _ from (R.awk _ na).symm.trans q]
    exact ⟨rfl, rfl⟩
/-- what holds at the end over a table whose sleepers cannot be woken -/
def Lift (a : Array GenState) (Q : Shared → Prop) (s : Shared) : Prop := ∃ D, Q (wg s D) ∧ Rel a D s.gens
theorem wp_keep {α : Type} {M : Model} {Γ : Ctx} {a : Array GenState} (t : Sem α) : ∀ (Q : α → Pos → Shared → Prop) (E : Value → Pos → Shared → Prop) (p : Pos) (s : Shared) (G : Array GenState), Rel a s.gens G → wp M Γ t Q E p s →
    wp M Γ t (fun x p' => Lift a (Q x p')) (fun e p' => Lift a (E e p')) p (wg s G) := by
  induction t with
  | pure _ => exact fun Q E p s G R h => ⟨s.gens, h, R⟩
  | raise _ => exact fun Q E p s G R h => ⟨s.gens, h, R⟩
  | unsupported _ => exact fun Q E p s G R h => h
  | finish _ => exact fun Q E p s G R h => h
  | rule _ k ih => exact fun Q E p s G R h => ih () Q E p s G R h
  | «at» p' k ih => exact fun Q E p s G R h => ih () Q E p' s G R h
  | load x _ k ih => exact fun Q E p s G R ⟨o, ho, h⟩ => ⟨o, ho, ih o Q E p s G R h⟩
  | update x _ f k ih => exact fun Q E p s G R h => ⟨h.1, ih () Q E p { s with heap := s.heap.update x f } G R h.2⟩
  | loadIfAlive x k ih => exact fun Q E p s G R h => ih _ Q E p s G R h
  | point _ k ih => exact fun Q E p s G R h => ih () Q E p s G R h
  | register _ _ => exact fun Q E p s G R h => h
  | alloc o k ih => exact fun Q E p s G R h => ih _ Q E p { s with heap := s.heap.push o } G R h
  | fresh k ih => exact fun Q E p s G R h => ih _ Q E p { s with toks := s.toks + 1 } G R h
  | ask k ih => exact fun Q E p s G R h => ih _ Q E p s G R h
  | choose src m k ih => exact fun Q E p s G R h => ⟨h.1, ih _ Q E p { s with drawn := s.drawn.bump src } G R h.2⟩
  | os q _ k ih => exact fun Q E p s G R h => ih _ Q E p { s with os := (Os.step s.os q).1 } G R h
  | call c hd _ _ k ih =>
    intro Q E p s G R ⟨r, s', hr, h⟩
    obtain ⟨G', h1, R1, _⟩ := sim hr rfl G R
    exact ⟨r, wg s' G', h1, ih r Q E p s' G' R1 h⟩
  | handled own k ih => exact fun Q E p s G R h => ih _ Q E p s G R h
  | genState g k ih =>
    intro Q E p s G R ⟨st, hs, h⟩
    obtain ⟨st', q1, q2⟩ := R.seen hs
    refine ⟨st', q1, ?_⟩
    rw [q2]
    exact ih _ Q E p s G R h
  | newGen c k ih =>
    intro Q E p s G R h
    have z := ih _ Q E p { s with gens := s.gens.push (.fresh c) } _ R.push h
    rw [R.size] at z
    exact z
  | resume g r _ k ih =>
    intro Q E p s G R ⟨res, s', hw, h⟩
    obtain ⟨G', h1, R1⟩ := sim_wakes hw R
    exact ⟨res, wg s' G', h1, ih res Q E p s' G' R1 h⟩
  | yield _ _ _ _ => exact fun Q E p s G R h => h
  | stack k ih => exact fun Q E p s G R h => ih _ Q E p s G R h
  | fork _ _ => exact fun Q E p s G R h => h
  | thread k ih => exact fun Q E p s G R h => ih _ Q E p s G R h
  | await _ _ _ _ _ => exact fun Q E p s G R h => h
/-- the table whose sleepers cannot be woken -/
theorem rel_dead (G : Array GenState) : Rel G (G.map dead) G where
  size := Array.size_map
  old := Nat.le_refl _
  asl := fun i _ => ⟨rfl, Array.getElem?_map⟩
  awk := fun i h => by
    rw [Array.getElem?_map]
    cases q : G[i]? with
    | none => rfl
    | some x =>
      cases x with
      | suspended k l c p fs cl => exact (h ⟨_, q, rfl⟩).elim
      | _ => rfl
  nog := fun i k l c p fs cl e => by
    rw [Array.getElem?_map] at e
    cases q : G[i]? with
    | none =>
      rw [q] at e
      cases e
    | some x =>
      rw [q] at e
      cases x with
      | suspended k1 l1 c1 p1 fs1 cl1 =>
        cases e
        exact dead_nog fs1
      | _ => cases e
theorem wpAny_keep {α : Type} {M : Model} {A : Around} {t : Sem α} {Q : α → Shared → Prop} {E : Value → Shared → Prop} {s : Shared} (h : wpAny M A t Q E (wg s (s.gens.map dead))) :
    wpAny M A t (fun x => Lift s.gens (Q x)) (fun e => Lift s.gens (E e)) s :=
  fun Γ p hΓ => wp_keep t (fun x _ s' => Q x s') (fun e _ s' => E e s') p (wg s (s.gens.map dead)) s.gens (rel_dead s.gens) (h Γ p hΓ)
theorem Rel.keeps {a d t : Array GenState} (R : Rel a d t) {i : Nat} {x : GenState} (e : a[i]? = some x) (h : sleeps x = true) : t[i]? = some x := ((R.asl i ⟨x, e, h⟩).1).trans e
theorem bare_dead {x : GenState} : (dead x).bare = x.bare := by cases x <;> rfl
theorem Rel.bare {a d t : Array GenState} (R : Rel a d t) (h : ∀ x ∈ d, x.bare = true) : ∀ x ∈ t, x.bare = true := fun x hx => by
  obtain ⟨i, hi, rfl⟩ := Array.mem_iff_getElem.mp hx
  have e : t[i]? = some t[i] := Array.getElem?_eq_getElem hi
  by_cases ha : Asleep a i
  · obtain ⟨q1, q2⟩ := R.asl i ha
    rw [← q1, e] at q2
    have := h _ (Array.mem_of_getElem? q2)
    rw [bare_dead] at this
    exact this
  · exact h _ (Array.mem_of_getElem? ((R.awk i ha).trans e))
end GenK
namespace Ck
open PySem PySem.Spec PyProof.Rows L2 GenW
/-! ### for, in a generator's body -/
def tGFor (wi : TI) (g : TG) (tb : TGn) : TGn := fun D ys σ H => wi σ H fun J H1 => ∃ W : Nat → Nat → List V → L2.St → Hp → Prop, (∃ m, W 0 m ys σ H1) ∧ ∀ i m ys σ H, W i m ys σ H →
  (J.stop i H ∧ D.nx ys σ H) ∨ (J.go i H ∧ ∃ N : List V → L2.St → Hp → Prop, (∀ ys' σ' H', N ys' σ' H' → ∃ m', m' < m ∧ W (i + 1) m' ys' σ' H') ∧ ∀ x H', J.yld i H x H' → g x σ H' fun σ2 H2 => tb { D with nx := N, ct := N, bk := D.nx } ys σ2 H2)
section
variable {X : Cx} {tg iter : Expr} {body : List Stmt} {wi : TI} {g : TG} {tb : TGn} {pos : Pos}
theorem gs_for (hp : PassesOwn (model X.prog X.w) X.A X.env X.xe) (hc : X.calm = true) (hi : PI X tg iter wi) (hg : PG X tg g) (hb : GSs X body tb) (hs : ∀ x, foldedSetIterable iter X.env x = pure x := by intro _; rfl) : GS X (.For tg iter body [] pos) (tGFor wi g tb) := by
  refine ⟨fun A S ip R n ys s₀ c fs K J gd lv s σ H D gc hn k hI ht => ?_⟩
  obtain ⟨acc, cc, r, I⟩ := hI
  have fail : ∀ x s', X.xe x s' → Seg (model X.prog X.w) A R (GY X S) n s₀ c (J x) fs s' := fun x s' hx => k.exc n s₀ x s' hx
  show Seg (model X.prog X.w) A R (GY X S) n s₀ c ((standAt pos >>= fun _ => eval iter X.env >>= fun v => foldedSetIterable iter X.env v >>= fun x => standAt iter.pos >>= fun _ => holding [x] (pyIter x) >>= fun itv => runOwn (.forLoop tg itv body [] X.env) X.env).wrap K J gd lv) fs s
  refine seg_bind_wrap ?_
  rw [gc.over]
  refine wpAny_standAt (seg_bind_wrap ?_)
  rw [gc.over]
  refine wpAny_mono (hi.run _ s σ H _ I ht) (fun v s1 h1 => seg_bind_wrap ?_) fail
  rw [gc.over, hs v]
  refine wpAny_pure (seg_bind_wrap ?_)
  rw [gc.over]
  refine wpAny_standAt (seg_bind_wrap ?_)
  rw [gc.over]
  refine wpAny_holding (wpAny_mono h1 (fun itv s2 h2 => ?_) fail)
  obtain ⟨it, fp, tn, Jt, H2, rfl, I2, T, st2, f2, W, ⟨m0, w0⟩, turn⟩ := h2
  have fpS : ∀ b ∈ fp, b ≠ S := fun b hb z => (f2 b hb).2.2.2.2.2 (S, lstObj acc cc) (List.mem_append_right _ List.mem_cons_self) z.symm
  have stat : ∀ {H' : Hp} {acc' : Array Value} {c' : Nat}, (∀ b ∈ fp, H' b = none) → ∀ b ∈ fp, FpOk X ((S, lstObj acc' c') :: ip) H' b := fun hn b hb => by
    obtain ⟨_, q1, q2, q3, q4, q5⟩ := f2 b hb
    refine ⟨hn b hb, q1, q2, q3, q4, fun p hp => ?_⟩
    rcases List.mem_append.mp hp with z | z
    · exact q5 p (List.mem_append_left _ z)
    · rcases List.mem_cons.mp z with z | z
      · rw [z]
        exact fun e => fpS b hb e.symm
      · exact q5 p (List.mem_append_right _ (List.mem_cons_of_mem _ z))
  refine seg_call fun p => ?_
  have gl := fun (kk : Result → Sem PySem.Fin) (cd : Code) (h1 : cd.weight = 0) (h2 : cd.cUnits = 0) => gc_loop (k := kk) (c' := cd) (l := lv []) (kp := []) (p := p) gc h1 h2
  have loop : ∀ (m i n : Nat) (ys : List V) (s₀ s : Shared) (σ : L2.St) (H : Hp), n + ys.length = sizeLine → W i m ys σ H → GI X S ip ys σ H s → tn i s.heap → (∀ b ∈ fp, H b = none) →
      Seg (model X.prog X.w) A R (GY X S) n s₀ (.forLoop tg (.ref it) body [] X.env) ((model X.prog X.w).den (.forLoop tg (.ref it) body [] X.env))
        (.ret (fun r => ((match r with | .ok f => (.pure f : Sem Flow) | .error e => .raise e).onRaise (cameBack X.env)).wrap K J gd lv) none (gd false) (lv []) c p [] :: fs) s := by
    intro m
    induction m using Nat.strongRecOn with
    | ind m ih =>
      intro i n ys s₀ s σ H hn w hI st fr
      have ee : ∀ (cd : Code), cd.weight = 0 → cd.cUnits = 0 → ∀ (n : Nat) (s₀ : Shared) (x : Value) (s' : Shared), X.xe x s' → Seg (model X.prog X.w) A R (GY X S) n s₀ cd
          ((do noteFrame x X.env; theTreesLotGoes x : Sem Unit).wrap (fun _ => .raise x) .raise id id)
          (.ret (fun r => ((match r with | .ok f => (.pure f : Sem Flow) | .error e => .raise e).onRaise (cameBack X.env)).wrap K J gd lv) none (gd false) (lv []) c p [] :: fs) s' := fun cd h1 h2 n s₀ x s' hx => by
        refine seg_wrap ?_
        rw [(gl _ cd h1 h2).over]
        refine wpAny_bind (wpAny_mono (hp x s' hx) (fun _ s'' hcb => wpAny_theTreesLotGoes ?_) fun y s'' hcb => ?_)
        · exact seg_leaf (.error x) (seg_cameBack gc k hcb)
        · exact seg_leaf (.error y) (seg_cameBack gc k hcb)
      show Seg _ A R _ n s₀ _ ((forTurn tg (.ref it) body [] X.env).onRaise (fun x => do noteFrame x X.env; theTreesLotGoes x)) _ s
      rw [Sem.onRaise_eq_wrap]
      unfold forTurn
      have ew : ∀ x : Value, ((do noteFrame x X.env; theTreesLotGoes x : Sem Unit).bind fun _ => (.raise x : Sem PySem.Fin)) = (do noteFrame x X.env; theTreesLotGoes x : Sem Unit).wrap (fun _ => .raise x) .raise id id := fun x => Sem.bind_eq_wrap _ _
      have ee2 : ∀ (n : Nat) (s₀ : Shared) (x : Value) (s' : Shared), X.xe x s' → Seg (model X.prog X.w) A R (GY X S) n s₀ (.forLoop tg (.ref it) body [] X.env) ((do noteFrame x X.env; theTreesLotGoes x : Sem Unit).bind fun _ => .raise x)
          (.ret (fun r => ((match r with | .ok f => (.pure f : Sem Flow) | .error e => .raise e).onRaise (cameBack X.env)).wrap K J gd lv) none (gd false) (lv []) c p [] :: fs) s' := fun n s₀ x s' hx => by
        rw [ew x]
        exact ee _ rfl rfl n s₀ x s' hx
      refine seg_bind_wrap ?_
      rw [(gl _ _ rfl rfl).over]
      refine wpAny_standAt (seg_bind_wrap ?_)
      rw [(gl _ _ rfl rfl).over]
      obtain ⟨acc, cc, r, I⟩ := hI
      rcases turn i m ys σ H w with ⟨stop, qn⟩ | ⟨go, N, hN, step⟩
      · refine wpAny_onRaise (wpAny_mono (T.done X rfl rfl rfl hc i _ s σ H X.xe I (stat fr) st stop) (fun r' s4 ⟨hr, I4⟩ => ?_) fun x s' hx => wpAny_standAt (ee2 n s₀ x s' hx))
        subst hr
        refine seg_again rfl ?_
        exact seg_leaf (.ok .next) (k.ok n ys s₀ s4 .next hn ⟨σ, H, ⟨acc, cc, r, I4⟩, qn⟩)
      · refine wpAny_onRaise (wpAny_mono (T.item X rfl rfl rfl hc i _ s σ H X.xe I (stat fr) st go) (fun r' s4 ⟨u, hr, h4⟩ => ?_) fun x s' hx => wpAny_standAt (ee2 n s₀ x s' hx))
        subst hr
        refine seg_bind_wrap ?_
        rw [(gl _ _ rfl rfl).over]
        refine wpAny_mono h4 (fun _ s5 ⟨x, H5, I5, r5, y5, st5, fr5⟩ => seg_bind_wrap ?_) (ee2 n s₀)
        rw [(gl _ _ rfl rfl).over]
        have I5' := I5.pinned (stat fr5) (T.obj _ _ st5)
        refine wpAny_mono (hg.run _ s5 σ H5 x u _ I5' r5 (step x H5 y5)) (fun _ s6 ⟨σ6, H6, I6, q6⟩ => ?_) (ee2 n s₀)
        rw [Sem.bind_eq_wrap', Sem.wrap_wrap]
        have again : ∀ {n' : Nat} {ys' : List V} {s₀' s7 : Shared} {σ7 : L2.St} {H7 : Hp}, n' + ys'.length = sizeLine → GI X S (ip ++ pinsAt fp s5.heap) ys' σ7 H7 s7 → N ys' σ7 H7 →
            Seg (model X.prog X.w) A R (GY X S) n' s₀' (.forLoop tg (.ref it) body [] X.env) (.pure (.again (.forLoop tg (.ref it) body [] X.env)))
              (.ret (fun r => ((match r with | .ok f => (.pure f : Sem Flow) | .error e => .raise e).onRaise (cameBack X.env)).wrap K J gd lv) none (gd false) (lv []) c p [] :: fs) s7 := fun {n' ys' s₀' s7 σ7 H7} hn' hG n7 => by
          obtain ⟨m', hm, w7⟩ := hN ys' σ7 H7 n7
          obtain ⟨acc7, c7, r7, I7⟩ := hG
          have I7 : Inv X (((S, lstObj acc7 c7) :: ip) ++ pinsAt fp s5.heap) σ7 H7 s7 := I7
          have at7 : ∀ b o, b ∈ fp → s5.heap.get? b = some o → s7.heap.get? b = some o ∧ H7 b = none := fun b o hb e => by
            have q := I7.pin (b, o) (List.mem_append_right _ (List.mem_append_right _ (mem_pinsAt hb e)))
            exact ⟨q.1, q.2.1⟩
          refine seg_again rfl (ih m' hm (i + 1) n' ys' s₀' s7 σ7 H7 hn' w7 ⟨acc7, c7, r7, I7.unpinned⟩ (T.keep _ _ _ st5 fun b hb o e => (at7 b o hb e).1) fun b hb => ?_)
          obtain ⟨o, e, _⟩ := T.obj _ _ st5 b hb
          exact (at7 b o hb e).2
        have gc2 := gl (fun r => ((match r with | .ok f => (.pure f : Sem Flow) | .error e => .raise e).onRaise (cameBack X.env)).wrap K J gd lv) (.forLoop tg (.ref it) body [] X.env) rfl rfl
        refine hb.run A S (ip ++ pinsAt fp s5.heap) R n ys s₀ _ _ _ _ id id s6 σ6 H6 { D with nx := N, ct := N, bk := D.nx } { gc2 with ip := fun p hp => ?_ } hn ⟨fun n' ys' s₀' s7 f hn' hs7 => ?_, fun n' s₀' x s7 hx => ee2 n' s₀' x s7 hx⟩ ⟨acc, cc, r, I6⟩ q6
        · rcases List.mem_append.mp hp with z | z
          · exact gc.ip p z
          · exact fpS p.1 (of_pinsAt z).1
        · have un : ∀ {ys' : List V} {σ7 : L2.St} {H7 : Hp}, GI X S (ip ++ pinsAt fp s5.heap) ys' σ7 H7 s7 → GI X S ip ys' σ7 H7 s7 := fun ⟨acc7, c7, r7, I7⟩ => ⟨acc7, c7, r7, (show Inv X (((S, lstObj acc7 c7) :: ip) ++ pinsAt fp s5.heap) _ _ s7 from I7).unpinned⟩
          cases f with
          | next =>
            obtain ⟨σ7, H7, hG, n7⟩ := hs7
            exact again hn' hG n7
          | cont =>
            obtain ⟨σ7, H7, hG, n7⟩ := hs7
            exact again hn' hG n7
          | brk =>
            obtain ⟨σ7, H7, hG, q7⟩ := hs7
            exact seg_leaf (.ok .next) (k.ok n' ys' s₀' s7 .next hn' ⟨σ7, H7, un hG, q7⟩)
          | ret v =>
            obtain ⟨x7, σ7, H7, hG, r7, q7⟩ := hs7
            exact seg_leaf (.ok (.ret v)) (k.ok n' ys' s₀' s7 (.ret v) hn' ⟨x7, σ7, H7, un hG, r7, q7⟩)
  exact loop m0 0 n ys s₀ s2 σ H2 hn w0 ⟨acc, cc, r, I2⟩ st2 fun b hb => (f2 b hb).1
end
end Ck
namespace Ck
open PySem PySem.Spec PyProof.Rows L2 GenW
/-! ### a generator whose consumer may do what it likes while it sleeps: its body is looked at anew from each waking -/
/-- what stands below an address -/
def cut (h : Heap) (L : Addr) : Heap := { h with objs := ⟨h.objs.toList.take L⟩ }
theorem cut_size {h : Heap} {L : Addr} : (cut h L).objs.size ≤ L := by
  show (h.objs.toList.take L).length ≤ L
  rw [List.length_take]
  exact Nat.min_le_left _ _
theorem cut_size2 {h : Heap} {L n : Addr} (h1 : n ≤ L) (h2 : n ≤ h.objs.size) : n ≤ (cut h L).objs.size := by
  show n ≤ (h.objs.toList.take L).length
  rw [List.length_take, Array.length_toList]
  exact Nat.le_min.mpr ⟨h1, h2⟩
theorem cut_get {h : Heap} {L b : Addr} (hb : b < L) : (cut h L).get? b = h.get? b := by
  unfold Heap.get? cut
  have e : (⟨h.objs.toList.take L⟩ : Array Obj)[b]? = h.objs[b]? := by
    rw [← Array.getElem?_toList, ← Array.getElem?_toList]
    exact List.getElem?_take_of_lt hb
  simp only [e]
theorem cut_some {h : Heap} {L b : Addr} {o : Obj} (e : (cut h L).get? b = some o) : h.get? b = some o ∧ b < L := by
  have lt : b < L := Nat.lt_of_lt_of_le (Heap.lt_size e) cut_size
  exact ⟨(cut_get lt).symm.trans e, lt⟩
/-- the body's context from a waking on -/
def rb (X : Cx) (s0 : Shared) (H0 : Hp) : Cx := { X with s_0 := { s0 with heap := cut s0.heap X.env.locals }, H_0 := H0, ex := [], pn := [], xe := fun _ _ => False }
/-- what holds when it is woken -/
structure Wk (P : Program) (w : World) (base : Heap) (outer : List Env) (L : Addr) (ip : List (Addr × Obj)) (s s' : Shared) (H' : Hp) : Prop where
  funs : s'.heap.FunFrames base outer
  frf : ∀ b ∈ frs outer, H' b = none
  bs : ∀ b o, base.get? b = some o → s'.heap.get? b = some o ∧ H' b = none
  bsz : base.objs.size ≤ s'.heap.objs.size
  hok : HOk P w H' s'.heap
  bare : AllBare s'.gens
  loc : s'.heap.get? L = s.heap.get? L
  free : H' L = none
  pin : ∀ p ∈ ip, s'.heap.get? p.1 = some p.2 ∧ H' p.1 = none
theorem funs_cut {h h' base : Heap} {L : Addr} : ∀ {l : List Env}, (cut h L).FunFrames base l → h'.FunFrames base l → (cut h' L).FunFrames base l
  | [], _, _ => trivial
  | env :: rest, ⟨_, ⟨b, o, e1, e2, e3, _⟩, r⟩, ⟨k, ⟨b', o', q1, q2, q3, q4⟩, r'⟩ => by
    have eb : b = b' := Option.some.inj (e1.symm.trans q1)
    subst eb
    exact ⟨k, ⟨b, o', q1, q2, (cut_get (cut_some e3).2).trans q3, q4⟩, funs_cut r r'⟩
theorem funs_of_cut {h base : Heap} {L : Addr} : ∀ {l : List Env}, (cut h L).FunFrames base l → h.FunFrames base l
  | [], _ => trivial
  | env :: rest, ⟨k, ⟨b, o, e1, e2, e3, e4⟩, r⟩ => ⟨k, ⟨b, o, e1, e2, (cut_some e3).1, e4⟩, funs_of_cut r⟩
/-- frames of callers are older than the frame -/
theorem funs_to_cut {h base : Heap} {L : Addr} : ∀ {l : List Env}, h.FunFrames base l → (∀ b ∈ frs l, b < L) → (cut h L).FunFrames base l
  | [], _, _ => trivial
  | env :: rest, ⟨k, ⟨b, o, e1, e2, e3, e4⟩, r⟩, hb => by
    have m1 : b ∈ frs (env :: rest) := by
      show b ∈ (env :: rest).filterMap (·.frame)
      rw [List.filterMap_cons, e1]
      exact List.mem_cons_self
    refine ⟨k, ⟨b, o, e1, e2, (cut_get (hb b m1)).trans e3, e4⟩, funs_to_cut r fun c hc => hb c ?_⟩
    show c ∈ (env :: rest).filterMap (·.frame)
    rw [List.filterMap_cons, e1]
    exact List.mem_cons_of_mem _ hc
section
variable {X : Cx} {ip : List (Addr × Obj)} {σ : L2.St} {H H0 H' : Hp} {s s0 s' : Shared}
theorem un_cut {fs : List Addr} {L : Addr} {h : Heap} : Un fs [] H H (cut h L) h where
  keep := fun b o e _ _ _ => (cut_some e).1
  slot := fun b o e _ _ _ => ⟨o.slots, (cut_some e).1⟩
  free := fun b o _ n _ => n
  there := fun b o e _ => ⟨o, (cut_some e).1⟩
  tups := fun _ _ e => e
  frzs := fun _ _ _ e => e
  tbls := fun _ ps e => ⟨#[], by rw [e]; simp⟩
/-- it is looked at from here on -/
theorem Inv.rebase (I : Inv X ip σ H s) (nc : ∀ x c, X.env.cells.lookup x ≠ some c) (w : Wk X.prog X.w X.base X.outer X.env.locals ip s s' H') (hf : ∀ b ∈ frs X.outer, b < X.env.locals) : Inv (rb X s' H') ip σ H' s' := by
  have bL : X.base.objs.size ≤ X.env.locals := Nat.le_trans I.ok.bsz I.ok.above
  refine ⟨⟨I.ok.mod, I.ok.kind, I.ok.glob, I.ok.blt, cut_size, I.ok.inj, I.ok.has, fun x c _ h => (nc x c h).elim, I.ok.hd, I.ok.frames, I.ok.stk, fun b hb => (List.not_mem_nil hb).elim, fun b o e => ⟨?_, (w.bs b o e).2⟩, cut_size2 bL w.bsz, fun b o _ => List.not_mem_nil, fun b hb => (List.not_mem_nil hb).elim, funs_to_cut w.funs hf, w.frf⟩,
    rfl, w.bare, un_cut, ?_, fun x c h => (nc x c h).elim, w.free, fun x c h => (nc x c h).elim, fun p hp => ?_, w.hok, I.len⟩
  · exact (cut_get (Nat.lt_of_lt_of_le (Heap.lt_size e) bL)).trans (w.bs b o e).1
  · obtain ⟨m, ⟨o, es, ep, e1, e2, e3⟩, hm⟩ := I.loc
    refine ⟨m, ⟨o, es, ep, w.loc.trans e1, e2, e3⟩, fun i x v h1 h2 h3 => ?_⟩
    obtain ⟨u, r, l⟩ := hm i x v h1 h2 h3
    rcases l with l | ⟨_, c, hc, _⟩
    · exact ⟨u, r, .inl l⟩
    · exact (nc x c hc).elim
  · have hp : p ∈ ip := by
      rcases List.mem_append.mp hp with z | z
      · exact (List.not_mem_nil z).elim
      · exact z
    obtain ⟨_, _, q3, q4, q5⟩ := I.pin p (List.mem_append_right _ hp)
    exact ⟨(w.pin p hp).1, (w.pin p hp).2, q3, q4, q5⟩
end
/-- what is wanted behind a statement of the body: of the items so far, the abstract heap at the waking, the slots, the abstract heap; yl: of what is handed out -/
structure FEnds where
  nx : List V → Hp → L2.St → Hp → Prop
  rt : List V → Hp → V → Hp → Prop
  yl : List V → Hp → V → Hp → Prop
  bk : List V → Hp → L2.St → Hp → Prop := fun _ _ _ _ => False
  ct : List V → Hp → L2.St → Hp → Prop := fun _ _ _ _ => False
abbrev TFn := FEnds → List V → Hp → L2.St → Hp → Prop
/-- what the consumer keeps: where it is, the abstract heap, the state at a waking -/
abbrev CnF := Nat → Hp → Shared → Prop
structure FI (X : Cx) (q : Addr × Obj) (C : CnF) (n : Nat) (s₀ : Shared) (H0 : Hp) (ip : List (Addr × Obj)) (σ : L2.St) (H : Hp) (s : Shared) : Prop where
  c : C n H0 s₀
  own : q ∈ ip
  lt : X.env.locals < s₀.heap.objs.size
  hp : ∀ p ∈ ip, X.env.locals ≤ p.1
  inv : Inv (rb X s₀ H0) ip σ H s
def YF (X : Cx) (q : Addr × Obj) (C : CnF) (yl : List V → Hp → V → Hp → Prop) : Protocol := fun n s₀ v s kap =>
  ∃ H0 ys x ip σ H, n + 1 + ys.length = sizeLine ∧ RelV x v ∧ FI X q C (n + 1) s₀ H0 ip σ H s ∧ yl ys H0 x H ∧ ∀ s' H', Wk X.prog X.w X.base X.outer X.env.locals ip s s' H' → C n H' s' → kap (.send .none) s' ∧ kap (.send (.bool true)) s'
def RF (X : Cx) (q : Addr × Obj) (C : CnF) (Q : List V → Hp → V → Hp → Prop) : GenEnd := fun n s₀ r s => match r with
  | .ok (.ret u) => ∃ H0 ys v ip σ H, n + ys.length = sizeLine ∧ FI X q C n s₀ H0 ip σ H s ∧ RelV v u ∧ Q ys H0 v H
  | _ => False
def GSPf (X : Cx) (q : Addr × Obj) (C : CnF) (ip : List (Addr × Obj)) (D : FEnds) (n : Nat) (ys : List V) (s₀ : Shared) (f : Flow) (s : Shared) : Prop :=
  match f with
  | .next => ∃ H0 σ H, FI X q C n s₀ H0 ip σ H s ∧ D.nx ys H0 σ H
  | .brk => ∃ H0 σ H, FI X q C n s₀ H0 ip σ H s ∧ D.bk ys H0 σ H
  | .cont => ∃ H0 σ H, FI X q C n s₀ H0 ip σ H s ∧ D.ct ys H0 σ H
  | .ret u => ∃ H0 v σ H, FI X q C n s₀ H0 ip σ H s ∧ RelV v u ∧ D.rt ys H0 v H
/-- where its code stands -/
structure GCf (X : Cx) (A : Around) (c : Code) (fs : List Frame) (gd : Bool → Bool) : Prop where
  over : A.over c fs = X.A
  split : splitAtGen fs = none
  guard : fs.any Frame.guarded = false
  gd : gd false = false
  nc : ∀ x c, X.env.cells.lookup x ≠ some c
  old : ∀ b ∈ frs X.outer, b < X.env.locals
def GKf (X : Cx) (q : Addr × Obj) (C : CnF) (ip : List (Addr × Obj)) (A : Around) (R : GenEnd) (c : Code) (fs : List Frame) (K : Flow → Sem PySem.Fin) (D : FEnds) : Prop :=
  ∀ (n : Nat) (ys : List V) (s₀ s : Shared) (f : Flow), n + ys.length = sizeLine → GSPf X q C ip D n ys s₀ f s → Seg (model X.prog X.w) A R (YF X q C D.yl) n s₀ c (K f) fs s
structure GSf (X : Cx) (st : Stmt) (t : TFn) : Prop where
  run : ∀ (A : Around) (q : Addr × Obj) (C : CnF) (ip : List (Addr × Obj)) (R : GenEnd) (n : Nat) (ys : List V) (s₀ : Shared) (c : Code) (fs : List Frame) (K : Flow → Sem PySem.Fin) (J : Value → Sem PySem.Fin) (gd : Bool → Bool) (lv : List Value → List Value) (s : Shared) (H0 : Hp) (σ : L2.St) (H : Hp) (D : FEnds),
    GCf X A c fs gd → n + ys.length = sizeLine → GKf X q C ip A R c fs K D → FI X q C n s₀ H0 ip σ H s → t D ys H0 σ H →
    Seg (model X.prog X.w) A R (YF X q C D.yl) n s₀ c ((exec st X.env).wrap K J gd lv) fs s
structure GSsf (X : Cx) (st : List Stmt) (t : TFn) : Prop where
  run : ∀ (A : Around) (q : Addr × Obj) (C : CnF) (ip : List (Addr × Obj)) (R : GenEnd) (n : Nat) (ys : List V) (s₀ : Shared) (c : Code) (fs : List Frame) (K : Flow → Sem PySem.Fin) (J : Value → Sem PySem.Fin) (gd : Bool → Bool) (lv : List Value → List Value) (s : Shared) (H0 : Hp) (σ : L2.St) (H : Hp) (D : FEnds),
    GCf X A c fs gd → n + ys.length = sizeLine → GKf X q C ip A R c fs K D → FI X q C n s₀ H0 ip σ H s → t D ys H0 σ H →
    Seg (model X.prog X.w) A R (YF X q C D.yl) n s₀ c ((execs st X.env).wrap K J gd lv) fs s
section
variable {X : Cx} {st : Stmt} {rest : List Stmt}
def tF0 : TFn := fun D ys H0 σ H => D.nx ys H0 σ H
theorem gfs_nil : GSsf X [] tF0 := ⟨fun A q C ip R n ys s₀ c fs K J gd lv s H0 σ H D g hn k hI ht => seg_execs_nil (k n ys s₀ s .next hn ⟨H0, σ, H, hI, ht⟩)⟩
def tFThen (t u : TFn) : TFn := fun D ys H0 σ H => t { D with nx := fun ys' H0' σ' H' => u D ys' H0' σ' H' } ys H0 σ H
theorem gfs_cons {t u : TFn} (a : GSf X st t) (b : GSsf X rest u) : GSsf X (st :: rest) (tFThen t u) := by
  refine ⟨fun A q C ip R n ys s₀ c fs K J gd lv s H0 σ H D g hn k hI ht => seg_execs_cons ?_⟩
  refine a.run A q C ip R n ys s₀ c fs _ J gd lv s H0 σ H { D with nx := fun ys' H0' σ' H' => u D ys' H0' σ' H' } g hn (fun n' ys' s₀' s' f hn' hs => ?_) hI ht
  cases f with
  | next =>
    obtain ⟨H0', σ', H', I', qx⟩ := hs
    exact b.run A q C ip R n' ys' s₀' c fs K J gd lv s' H0' σ' H' D g hn' k I' qx
  | brk => exact k n' ys' s₀' s' .brk hn' hs
  | cont => exact k n' ys' s₀' s' .cont hn' hs
  | ret u => exact k n' ys' s₀' s' (.ret u) hn' hs
/-! ### yield -/
def tFYield (te : TE) : TFn := fun D ys H0 σ H => ys.length < sizeLine ∧ te σ H fun x H1 => D.yl ys H0 x H1 ∧ ∀ H2, D.nx (ys ++ [x]) H2 σ H2
theorem gf_yield {e : Expr} {yp pos : Pos} {te : TE} (he : ∀ s0 H0, PE (rb X s0 H0) e te) (hco : X.env.scope.isCoroutine = false := by rfl) (hi : interactive X.env = false := by rfl) : GSf X (.Expr (.Yield (some e) yp) pos) (tFYield te) := by
  refine ⟨fun A q C ip R n ys s₀ c fs K J gd lv s H0 σ H D g hn k hI ht => ?_⟩
  obtain ⟨hlt, ht⟩ := ht
  obtain ⟨n, rfl⟩ : ∃ m, n = m + 1 := ⟨n - 1, by omega⟩
  refine seg_Expr_Yield g.split g.gd g.guard ?_ hco hi
  rw [g.over]
  refine wpAny_mono ((he s₀ H0).run ip s σ H _ hI.inv ht) (fun v s' hv => ?_) fun x s' hx => hx.elim
  obtain ⟨x, H1, I1, rv, q, q2⟩ := hv
  intro kap hk
  refine ⟨H0, ys, x, ip, σ, H1, hn, rv, ⟨hI.c, hI.own, hI.lt, hI.hp, I1⟩, q, fun s'' H2 w hC => (fun z => ⟨hk .none s'' z, hk (.bool true) s'' z⟩) ?_⟩
  have I2 : Inv (rb X s'' H2) ip σ H2 s'' := Ck.Inv.rebase (X := rb X s₀ H0) I1 g.nc w g.old
  refine k n (ys ++ [x]) s'' s'' .next ?_ ⟨H2, σ, H2, ⟨hC, hI.own, ?_, hI.hp, I2⟩, q2 _⟩
  · rw [List.length_append, List.length_singleton]; omega
  · obtain ⟨m, ⟨o, es, ep, e1, _⟩, _⟩ := I2.loc
    exact Heap.lt_size e1
/-! ### for -/
def tFFor (wi : TI) (g : TG) (tb : TFn) : TFn := fun D ys H0 σ H => wi σ H fun J H1 => ∃ W : Nat → Nat → List V → Hp → L2.St → Hp → Prop, (∃ m, W 0 m ys H0 σ H1) ∧ ∀ i m ys H0 σ H, W i m ys H0 σ H →
  (J.stop i H ∧ D.nx ys H0 σ H) ∨ (J.go i H ∧ ∃ N : List V → Hp → L2.St → Hp → Prop, (∀ ys' H0' σ' H', N ys' H0' σ' H' → ∃ m', m' < m ∧ W (i + 1) m' ys' H0' σ' H') ∧ ∀ x H', J.yld i H x H' → g x σ H' fun σ2 H2 => tb { D with nx := N, ct := N, bk := D.nx } ys H0 σ2 H2)
theorem gcf_loop {A : Around} {c c' : Code} {fs : List Frame} {gd : Bool → Bool} {k : Result → Sem PySem.Fin} {l kp : List Value} {p : Pos} (g : GCf X A c fs gd) (hw : c'.weight = 0) (hu : c'.cUnits = 0) : GCf X A c' (.ret k none (gd false) l c p kp :: fs) id where
  over := (over_loop hw hu).trans g.over
  split := by
    show (splitAtGen fs).map _ = none
    rw [g.split]; rfl
  guard := by
    show (gd false || fs.any Frame.guarded) = false
    rw [g.gd, g.guard]; rfl
  gd := rfl
  nc := g.nc
  old := g.old
theorem young {X : Cx} {s₀ : Shared} {H0 : Hp} {ip : List (Addr × Obj)} {H : Hp} {b : Addr} (hL : X.env.locals < s₀.heap.objs.size) (f : FpOk (rb X s₀ H0) ip H b) : X.env.locals ≤ b := by
  obtain ⟨_, _, _, q, _⟩ := f
  rcases q with q | q
  · exact (List.not_mem_nil q).elim
  · exact Nat.le_trans (cut_size2 (Nat.le_refl _) (Nat.le_of_lt hL)) q
theorem gf_for {tg iter : Expr} {body : List Stmt} {wi : TI} {g : TG} {tb : TFn} {pos : Pos} (hc : X.calm = true) (hi : ∀ s0 H0, PI (rb X s0 H0) tg iter wi) (hg : ∀ s0 H0, PG (rb X s0 H0) tg g) (hb : GSsf X body tb) (hs : ∀ x, foldedSetIterable iter X.env x = pure x := by intro _; rfl) : GSf X (.For tg iter body [] pos) (tFFor wi g tb) := by
  refine ⟨fun A q C ip R n ys s₀ c fs K J gd lv s H0 σ H D gc hn k hI ht => ?_⟩
  have hL := hI.lt
  show Seg (model X.prog X.w) A R (YF X q C D.yl) n s₀ c ((standAt pos >>= fun _ => eval iter X.env >>= fun v => foldedSetIterable iter X.env v >>= fun x => standAt iter.pos >>= fun _ => holding [x] (pyIter x) >>= fun itv => runOwn (.forLoop tg itv body [] X.env) X.env).wrap K J gd lv) fs s
  refine seg_bind_wrap ?_
  rw [gc.over]
  refine wpAny_standAt (seg_bind_wrap ?_)
  rw [gc.over]
  refine wpAny_mono ((hi s₀ H0).run ip s σ H _ hI.inv ht) (fun v s1 h1 => seg_bind_wrap ?_) fun _ _ hx => False.elim hx
  rw [gc.over, hs v]
  refine wpAny_pure (seg_bind_wrap ?_)
  rw [gc.over]
  refine wpAny_standAt (seg_bind_wrap ?_)
  rw [gc.over]
  refine wpAny_holding (wpAny_mono h1 (fun itv s2 h2 => ?_) fun _ _ hx => False.elim hx)
  obtain ⟨it, fp, tn, Jt, H2, rfl, I2, T, st2, f2, W, ⟨m0, w0⟩, turn⟩ := h2
  have fpL : ∀ b ∈ fp, X.env.locals ≤ b := fun b hb => young hL (f2 b hb)
  have stat : ∀ {H0' : Hp} {s₀' : Shared} {H' : Hp}, (∀ b ∈ fp, H' b = none) → ∀ b ∈ fp, FpOk (rb X s₀' H0') ip H' b := fun hn b hb => by
    obtain ⟨_, q1, q2, _, q4, q5⟩ := f2 b hb
    exact ⟨hn b hb, q1, q2, .inr (Nat.le_trans cut_size (fpL b hb)), q4, q5⟩
  refine seg_call fun p => ?_
  have gl := fun (kk : Result → Sem PySem.Fin) (cd : Code) (h1 : cd.weight = 0) (h2 : cd.cUnits = 0) => gcf_loop (k := kk) (c' := cd) (l := lv []) (kp := []) (p := p) gc h1 h2
  have loop : ∀ (m i n : Nat) (ys : List V) (s₀ s : Shared) (H0 : Hp) (σ : L2.St) (H : Hp), n + ys.length = sizeLine → W i m ys H0 σ H → FI X q C n s₀ H0 ip σ H s → tn i s.heap → (∀ b ∈ fp, H b = none) →
      Seg (model X.prog X.w) A R (YF X q C D.yl) n s₀ (.forLoop tg (.ref it) body [] X.env) ((model X.prog X.w).den (.forLoop tg (.ref it) body [] X.env))
        (.ret (fun r => ((match r with | .ok f => (.pure f : Sem Flow) | .error e => .raise e).onRaise (cameBack X.env)).wrap K J gd lv) none (gd false) (lv []) c p [] :: fs) s := by
    intro m
    induction m using Nat.strongRecOn with
    | ind m ih =>
      intro i n ys s₀ s H0 σ H hn w hI st fr
      have I := hI.inv
      show Seg _ A R _ n s₀ _ ((forTurn tg (.ref it) body [] X.env).onRaise (fun x => do noteFrame x X.env; theTreesLotGoes x)) _ s
      rw [Sem.onRaise_eq_wrap]
      unfold forTurn
      refine seg_bind_wrap ?_
      rw [(gl _ _ rfl rfl).over]
      refine wpAny_standAt (seg_bind_wrap ?_)
      rw [(gl _ _ rfl rfl).over]
      rcases turn i m ys H0 σ H w with ⟨stop, qn⟩ | ⟨go, N, hN, step⟩
      · refine wpAny_onRaise (wpAny_mono (T.done (rb X s₀ H0) rfl rfl rfl hc i _ s σ H (fun _ _ => False) I (stat fr) st stop) (fun r' s4 ⟨hr, I4⟩ => ?_) fun x s' hx => hx.elim)
        subst hr
        refine seg_again rfl ?_
        exact seg_leaf (.ok .next) (k n ys s₀ s4 .next hn ⟨H0, σ, H, ⟨hI.c, hI.own, hI.lt, hI.hp, I4⟩, qn⟩)
      · refine wpAny_onRaise (wpAny_mono (T.item (rb X s₀ H0) rfl rfl rfl hc i _ s σ H (fun _ _ => False) I (stat fr) st go) (fun r' s4 ⟨u, hr, h4⟩ => ?_) fun x s' hx => hx.elim)
        subst hr
        refine seg_bind_wrap ?_
        rw [(gl _ _ rfl rfl).over]
        refine wpAny_mono h4 (fun _ s5 ⟨x, H5, I5, r5, y5, st5, fr5⟩ => seg_bind_wrap ?_) fun _ _ hx => hx.elim
        rw [(gl _ _ rfl rfl).over]
        have I5' := I5.pinned (stat fr5) (T.obj _ _ st5)
        refine wpAny_mono ((hg s₀ H0).run _ s5 σ H5 x u _ I5' r5 (step x H5 y5)) (fun _ s6 ⟨σ6, H6, I6, q6⟩ => ?_) fun _ _ hx => False.elim hx
        rw [Sem.bind_eq_wrap', Sem.wrap_wrap]
        have un : ∀ {n' : Nat} {s₀' s7 : Shared} {H0' : Hp} {σ7 : L2.St} {H7 : Hp}, FI X q C n' s₀' H0' (ip ++ pinsAt fp s5.heap) σ7 H7 s7 → FI X q C n' s₀' H0' ip σ7 H7 s7 := fun F7 => ⟨F7.c, hI.own, F7.lt, hI.hp, F7.inv.unpinned⟩
        have again : ∀ {n' : Nat} {ys' : List V} {s₀' s7 : Shared} {H0' : Hp} {σ7 : L2.St} {H7 : Hp}, n' + ys'.length = sizeLine → FI X q C n' s₀' H0' (ip ++ pinsAt fp s5.heap) σ7 H7 s7 → N ys' H0' σ7 H7 →
            Seg (model X.prog X.w) A R (YF X q C D.yl) n' s₀' (.forLoop tg (.ref it) body [] X.env) (.pure (.again (.forLoop tg (.ref it) body [] X.env)))
              (.ret (fun r => ((match r with | .ok f => (.pure f : Sem Flow) | .error e => .raise e).onRaise (cameBack X.env)).wrap K J gd lv) none (gd false) (lv []) c p [] :: fs) s7 := fun {n' ys' s₀' s7 H0' σ7 H7} hn' hG n7 => by
          obtain ⟨m', hm, w7⟩ := hN ys' H0' σ7 H7 n7
          have at7 : ∀ b o, b ∈ fp → s5.heap.get? b = some o → s7.heap.get? b = some o ∧ H7 b = none := fun b o hb e => by
            have q := hG.inv.pin (b, o) (List.mem_append_right _ (List.mem_append_right _ (mem_pinsAt hb e)))
            exact ⟨q.1, q.2.1⟩
          refine seg_again rfl (ih m' hm (i + 1) n' ys' s₀' s7 H0' σ7 H7 hn' w7 (un hG) (T.keep _ _ _ st5 fun b hb o e => (at7 b o hb e).1) fun b hb => ?_)
          obtain ⟨o, e, _⟩ := T.obj _ _ st5 b hb
          exact (at7 b o hb e).2
        have gc2 := gl (fun r => ((match r with | .ok f => (.pure f : Sem Flow) | .error e => .raise e).onRaise (cameBack X.env)).wrap K J gd lv) (.forLoop tg (.ref it) body [] X.env) rfl rfl
        refine hb.run A q C (ip ++ pinsAt fp s5.heap) R n ys s₀ _ _ _ _ id id s6 H0 σ6 H6 { D with nx := N, ct := N, bk := D.nx } gc2 hn (fun n' ys' s₀' s7 f hn' hs7 => ?_) ⟨hI.c, List.mem_append_left _ hI.own, hI.lt, fun p hp => ?_, I6⟩ q6
        · cases f with
          | next =>
            obtain ⟨H0', σ7, H7, hG, n7⟩ := hs7
            exact again hn' hG n7
          | cont =>
            obtain ⟨H0', σ7, H7, hG, n7⟩ := hs7
            exact again hn' hG n7
          | brk =>
            obtain ⟨H0', σ7, H7, hG, q7⟩ := hs7
            exact seg_leaf (.ok .next) (k n' ys' s₀' s7 .next hn' ⟨H0', σ7, H7, un hG, q7⟩)
          | ret v =>
            obtain ⟨H0', x7, σ7, H7, hG, r7, q7⟩ := hs7
            exact seg_leaf (.ok (.ret v)) (k n' ys' s₀' s7 (.ret v) hn' ⟨H0', x7, σ7, H7, un hG, r7, q7⟩)
        · rcases List.mem_append.mp hp with z | z
          · exact hI.hp p z
          · exact fpL p.1 (of_pinsAt z).1
  exact loop m0 0 n ys s₀ s2 H0 σ H2 hn w0 ⟨hI.c, hI.own, hI.lt, hI.hp, I2⟩ st2 fun b hb => (f2 b hb).1
end
end Ck
namespace Ck
open PySem PySem.Spec PyProof.Rows L2 GenW
/-! ### making one -/
/-- what is wanted of the i-th item: i, the abstract heap at the waking, the item, the abstract heap; of the end -/
abbrev YlP := Nat → Hp → V → Hp → Prop
abbrev EdP := Nat → Hp → Hp → Prop
/-- a generator that has not begun; L: its frame's names -/
def FMade (P : Program) (w : World) (k : Nat) (base : Heap) (outer : List Env) (L : Addr) (s : Shared) (yl : YlP) (ed : EdP) (u : Value) (s' : Shared) : Prop :=
  ∃ (a : Addr) (g : Nat) (cd : Code) (go : Obj), u = .ref a ∧ s.heap.objs.size ≤ L ∧ L < a ∧ a < s'.heap.objs.size ∧ s'.heap.get? a = some go ∧ (∀ h : Heap, h.get? a = some go → h.IsGen a g) ∧ (∀ v, go.data ≠ .cell v) ∧ s'.gens[g]? = some (.fresh cd) ∧
    s'.os = s.os ∧ AllBare s'.gens ∧ (∀ b o, s.heap.get? b = some o → s'.heap.get? b = some o) ∧ (∃ oL, s'.heap.get? L = some oL ∧ ∀ v, oL.data ≠ .cell v) ∧
    ∀ (A : Around) (C : CnF) (s2 : Shared) (H2 : Hp), Room k A → A.frames = some outer → Wk P w base outer L [(a, go)] s' s2 H2 → C sizeLine H2 s2 →
      ∃ X : Cx, X.prog = P ∧ X.w = w ∧ X.base = base ∧ X.outer = outer ∧ X.env.locals = L ∧
        Seg (model P w) A (RF X (a, go) C fun ys H0 v H => v = .non ∧ ed ys.length H0 H) (YF X (a, go) C fun ys H0 x H => yl ys.length H0 x H) sizeLine s2 cd ((model P w).den cd) [] s2
abbrev SpF := List V → YlP → EdP → Prop
structure GFf (P : Program) (w : World) (K : PySem.W.Frag) (mg : Str → Option Value) (base : Heap) (k : Nat) (f : Addr) (fd : FuncData) (ps : List Str) (sp : SpF) : Prop where
  len : ∀ vs yl ed, sp vs yl ed → vs.length = ps.length
  run : ∀ (A : Around) (outer : List Env) (s : Shared) (H : Hp) (args : Args) (us : List Value) (vs : List V) (yl : YlP) (ed : EdP), Room k A → Env0 P w K mg base A outer s H → BindsTo s fd args (ps.zip us) → Vals vs us → sp vs yl ed →
    codeAny (model P w) A (.call (.ref f) args) (fun r s' => match r with | .ok (.ret u) => FMade P w k base outer s.heap.objs.size s yl ed u s' | _ => False) s
theorem gff_of {P : Program} {w : World} {K : PySem.W.Frag} {mg : Str → Option Value} {base : Heap} {k : Nat} {f : Addr} {name qual : Str} {params : Arguments} {body : List Stmt} {scope : Scope} {dV kV doc pm cdv ct oc : Value} {an od : Option Addr}
    {osl : Array (Option Value)} {N ps : List Str} {sp : SpF} (lk : K.lookup f = some ⟨oc, od, .func (PySem.W.fnOf name qual params body scope dV kV doc pm an cdv ct), osl⟩) (cin : PySem.W.codeIn K cdv qual = true) (S : GScope N ps scope)
    (nce : ∀ n, cellsFrom n scope.names [] = []) (len : ∀ vs yl ed, sp vs yl ed → vs.length = ps.length)
    (hbody : ∀ (A : Around) (outer : List Env) (s : Shared) (H : Hp) (vs : List V) (yl : YlP) (ed : EdP), Room k (A.deeper (envOfC qual scope s.heap.objs.size f cdv)) → sp vs yl ed →
      ∃ t : TFn, GSsf (gcxOf P w K mg base N qual scope f cdv A outer s H L2.E0 []) body t ∧
        ∀ H0, t { nx := fun ys H0 _ H' => ed ys.length H0 H', rt := fun ys H0 v H' => v = .non ∧ ed ys.length H0 H', yl := fun ys H0 x H' => yl ys.length H0 x H' } [] H0 (start N vs) H0) :
    GFf P w K mg base (k + 1) f (PySem.W.fnOf name qual params body scope dV kV doc pm an cdv ct) ps sp := by
  refine ⟨len, fun A outer s H args us vs yl ed hr e0 hb r hsp => ?_⟩
  have ln := len _ _ _ hsp
  have kin : K.In s.heap := e0.mod.kin.keeps fun b o e => (e0.bs b o e).1
  have nol : s.heap.NoLimit := e0.mod.nolimit.keeps fun b o e => (e0.bs b o e).1
  have kinds : ∀ y ∈ ps.zip us, scope.names.lookup y.1 = some .local ∨ (scope.names.lookup y.1 = some .cell ∧ ((cellsFrom (s.heap.objs.size + 1) scope.names []).lookup y.1).isSome = true) := by
    rintro ⟨n, v⟩ hy
    rcases S.par n (List.of_mem_zip hy).1 with q | q
    · exact .inl q
    · exact .inr ⟨q, PySem.W.cellsFrom_some _ _ _ (.inl q)⟩
  refine codeAny_call_generator hr.depth (kin _ _ lk) rfl S.co S.gen rfl (PySem.W.codeRec_of kin cin) (hb _ _ _ _ ?_)
  refine wpAny_newFunctionEnv_cells S.kind kinds fun env he s1 x => ?_
  subst he
  have nol1 : s1.heap.NoLimit := nol.keeps x.toInCall.keep
  refine ⟨nol1, ?_⟩
  obtain ⟨h1, tk, es1, hk1⟩ := x.done
  have o1 : s1.os = s.os := by rw [es1]
  have g1 : s1.gens = s.gens := by rw [es1]
  have lt1 : s.heap.objs.size < s1.heap.objs.size := x.toInCall.ns.lt
  have kp1 : ∀ b o, s.heap.get? b = some o → s1.heap.get? b = some o := x.toInCall.keep
  have main : ∀ (go : Obj) (nm qn : Value) (tk2 : Nat), go.cls = .type "generator" → go.data = .fields #[.int s1.gens.size 0, nm, qn] → go.slots = #[] → (∀ h : Heap, (h.push go).get? h.objs.size = some go) →
      FMade P w (k + 1) base outer s.heap.objs.size s yl ed (.ref s1.heap.objs.size) { s1 with gens := s1.gens.push (.fresh (.func body (envOfC qual scope s.heap.objs.size f cdv))), toks := tk2, heap := s1.heap.push go } := by
    intro go nm qn tk2 c1 c2 c3 c4
    have isg : ∀ h : Heap, h.get? s1.heap.objs.size = some go → h.IsGen s1.heap.objs.size s1.gens.size := fun h e => ⟨go, nm, qn, e, c1, c2, c3⟩
    have there : (s1.heap.push go).get? s1.heap.objs.size = some go := c4 _
    have ngo : ∀ v, go.data ≠ .cell v := fun v q => by rw [c2] at q; cases q
    have kp2 : ∀ b o, s1.heap.get? b = some o → (s1.heap.push go).get? b = some o := fun b o e => Heap.get?_push_of_some _ e
    refine ⟨s1.heap.objs.size, s1.gens.size, _, go, rfl, Nat.le_refl _, lt1, ?_, there, isg, ngo, Array.getElem?_push_size .., o1, ?_, fun b o e => kp2 b o (kp1 b o e), ?_, ?_⟩
    · show _ < (s1.heap.push _).objs.size
      rw [Heap.size_push]; exact Nat.lt_succ_self _
    · exact AllBare.push (by rw [g1]; exact e0.bare) rfl
    · obtain ⟨o, es, ep, e, d, _⟩ := x.toInCall.ns
      exact ⟨o, kp2 _ _ e, fun v q => by rw [d] at q; cases q⟩
    intro Aw C s2 H2 room fr wk hC
    have e0w : Env0 P w K mg base Aw outer s H := ⟨fr, e0.mod, e0.bs, e0.bsz, e0.funs, e0.frf, e0.hok, e0.bare⟩
    obtain ⟨t, ht, hq⟩ := hbody Aw outer s H vs yl ed (room.deeper _) hsp
    have I1 : Inv (gcxOf P w K mg base N qual scope f cdv Aw outer s H L2.E0 []) [] (start N vs) H s1 := inv_startG S room.hd e0w ln r x
    have nc : ∀ y c, (gcxOf P w K mg base N qual scope f cdv Aw outer s H L2.E0 []).env.cells.lookup y ≠ some c := fun y c e => by
      have e2 : (cellsFrom (s.heap.objs.size + 1) scope.names []).lookup y = some c := e
      rw [nce] at e2
      cases e2
    have old : ∀ b ∈ frs outer, b < s.heap.objs.size := fun b hb => by
      obtain ⟨_, o, e, _⟩ := e0.funs.mem hb
      exact Heap.lt_size e
    have I2 : Inv (gcxOf P w K mg base N qual scope f cdv Aw outer s H L2.E0 []) [(s1.heap.objs.size, go)] (start N vs) H { s1 with gens := s1.gens.push (.fresh (.func body (envOfC qual scope s.heap.objs.size f cdv))), toks := tk2, heap := s1.heap.push go } := by
      have I3 : Inv (gcxOf P w K mg base N qual scope f cdv Aw outer s H L2.E0 []) [] (start N vs) H { s1 with gens := s1.gens.push (.fresh (.func body (envOfC qual scope s.heap.objs.size f cdv))), toks := tk2, heap := s1.heap.push go } :=
        I1.call' (ch := []) rfl (Un.kept kp2) (I1.hok.kept kp2) (AllBare.push (by rw [g1]; exact e0.bare) rfl) fun b z => (List.not_mem_nil z).elim
      refine I3.pins_of fun p hp => ?_
      rw [List.mem_singleton.mp hp]
      exact ⟨there, I1.hok.fresh (Nat.le_refl _), Nat.ne_of_gt lt1, I1.nofs (Nat.le_refl _), ngo⟩
    have I4 := Ck.Inv.rebase I2 nc wk old
    refine ⟨gcxOf P w K mg base N qual scope f cdv Aw outer s H L2.E0 [], rfl, rfl, rfl, rfl, rfl, ?_⟩
    refine seg_func ?_
    refine ht.run Aw (s1.heap.objs.size, go) C [(s1.heap.objs.size, go)] _ sizeLine [] s2 _ [] _ _ id id s2 H2 (start N vs) H2 _ ⟨over_func, rfl, rfl, rfl, nc, old⟩ (Nat.add_zero _) (fun n ys s₀ s' fl hn hs => ?_) ⟨hC, List.mem_singleton.mpr rfl, ?_, fun p hp => ?_, I4⟩ (hq H2)
    · cases fl with
      | next =>
        obtain ⟨H0, σ', H', hI, hQ⟩ := hs
        exact seg_end (.ok (.ret .none)) ⟨H0, ys, .non, _, σ', H', hn, hI, rfl, rfl, hQ⟩
      | brk => obtain ⟨_, _, _, _, q⟩ := hs; exact False.elim q
      | cont => obtain ⟨_, _, _, _, q⟩ := hs; exact False.elim q
      | ret u =>
        obtain ⟨H0, v, σ', H', hI, rv, ev, hQ⟩ := hs
        exact seg_end (.ok (.ret u)) ⟨H0, ys, v, _, σ', H', hn, hI, rv, ev, hQ⟩
    · obtain ⟨m, ⟨o, es, ep, e1, _⟩, _⟩ := I4.loc
      exact Heap.lt_size e1
    · rw [List.mem_singleton.mp hp]
      exact Nat.le_of_lt lt1
  exact main _ _ _ _ rfl rfl rfl fun h => Heap.get?_push_size _ rfl
end Ck
namespace Ck
open PySem PySem.Spec PyProof.Rows L2 GenW
/-! ### for, over a generator -/
section
variable {X Xg : Cx} {pins ip : List (Addr × Obj)} {σ σg : L2.St} {H H0 H1 : Hp} {s s0 s1 : Shared} {L : Addr}
theorem inv_gens {G : Array GenState} (I : Inv X pins σ H s) (h : AllBare G) : Inv X pins σ H { s with gens := G } := ⟨I.ok, I.os, h, I.base, I.loc, I.cell, I.free, I.freeC, I.pin, I.hok, I.len⟩
theorem inv_wg {D : Array GenState} (I : Inv X pins σ H (GenK.wg s D)) (h : AllBare s.gens) : Inv X pins σ H s := ⟨I.ok, I.os, h, I.base, I.loc, I.cell, I.free, I.freeC, I.pin, I.hok, I.len⟩
/-- the consumer's own behind a waking -/
theorem slept_back (I : Inv X pins σ H0 s0) (J : Inv (rb Xg s0 H0) ip σg H1 s1) (eo : Xg.outer = X.stack) (eP : Xg.prog = X.prog) (ew : Xg.w = X.w) (h1 : X.env.locals < Xg.env.locals) (h2 : ∀ x c, X.env.cells.lookup x = some c → c < Xg.env.locals) (h3 : ∀ p ∈ X.pn ++ pins, p.1 < Xg.env.locals) (h4 : X.s_0.heap.objs.size ≤ Xg.env.locals) : Inv X pins σ H1 s1 := by
  have below : ∀ {b o}, s0.heap.get? b = some o → b ∉ List.range' Xg.env.locals (s0.heap.objs.size - Xg.env.locals) → (cut s0.heap Xg.env.locals).get? b = some o := fun {b o} e hx => by
    refine (cut_get (Nat.lt_of_not_le fun q => hx (List.mem_range'_1.mpr ⟨q, ?_⟩))).trans e
    have l1 : b < s0.heap.objs.size := Heap.lt_size e
    have l2 : Xg.env.locals ≤ s0.heap.objs.size := Nat.le_trans q (Nat.le_of_lt l1)
    rw [Nat.add_sub_cancel' l2]
    exact l1
  have ofs : (rb Xg s0 H0).fs = frs X.stack := by
    show frs Xg.outer = frs X.stack
    rw [eo]
  have un := J.base
  rw [ofs] at un
  refine I.call' (ch := List.range' Xg.env.locals (s0.heap.objs.size - Xg.env.locals)) J.os ⟨fun b o e n hb hx => un.keep b o (below e hx) n hb List.not_mem_nil, fun b o e n hb hx => un.slot b o (below e hx) n hb List.not_mem_nil, fun b o e n hx => un.free b o (below e hx) n List.not_mem_nil, fun b o e hx => un.there b o (below e hx) List.not_mem_nil, un.tups, un.frzs, un.tbls⟩ ?_ J.bare fun b hb => ?_
  · have := J.hok
    rw [show (rb Xg s0 H0).prog = X.prog from eP, show (rb Xg s0 H0).w = X.w from ew] at this
    exact this
  · have lb : Xg.env.locals ≤ b := (List.mem_range'_1.mp hb).1
    exact ⟨.inr (Nat.le_trans h4 lb), Nat.ne_of_gt (Nat.lt_of_lt_of_le h1 lb), fun x c e => Nat.ne_of_lt (Nat.lt_of_lt_of_le (h2 x c e) lb), fun p hp => Nat.ne_of_lt (Nat.lt_of_lt_of_le (h3 p hp) lb)⟩
/-- what the generator keeps, pinned -/
theorem slept_pins (I : Inv X pins σ H1 s1) (J : Inv (rb Xg s0 H0) ip σg H1 s1) (eo : Xg.outer = X.stack) (h1 : X.env.locals < Xg.env.locals) (hp : ∀ p ∈ ip, Xg.env.locals ≤ p.1) (hf : ∀ b ∈ X.fs, b < Xg.env.locals) :
    ∃ oL, s1.heap.get? Xg.env.locals = some oL ∧ Inv X (pins ++ ((Xg.env.locals, oL) :: ip)) σ H1 s1 := by
  obtain ⟨m, ⟨o, es, ep, e1, e2, _⟩, _⟩ := J.loc
  refine ⟨o, e1, I.pins_of fun p hq => ?_⟩
  rcases List.mem_append.mp hq with z | z
  · exact I.pin p (List.mem_append_right _ z)
  · rcases List.mem_cons.mp z with rfl | z
    · exact ⟨e1, J.free, Nat.ne_of_gt h1, fun q => absurd (hf _ q) (Nat.lt_irrefl _), fun v q => by rw [e2] at q; cases q⟩
    · obtain ⟨a1, a2, a3, a4, a5⟩ := J.pin p (List.mem_append_right _ z)
      exact ⟨a1, a2, Nat.ne_of_gt (Nat.lt_of_lt_of_le h1 (hp p z)), fun q => absurd (Nat.lt_of_lt_of_le (hf _ q) (hp p z)) (Nat.lt_irrefl _), a5⟩
end
abbrev TGf := L2.St → Hp → (YlP → EdP → Hp → Prop) → Prop
/-- an expression whose value is a generator that has not begun -/
structure PGf (X : Cx) (k : Nat) (e : Expr) (tg : TGf) : Prop where
  run : ∀ (pins : List (Addr × Obj)) (s : Shared) (σ : L2.St) (H : Hp) (Q : YlP → EdP → Hp → Prop), Inv X pins σ H s → tg σ H Q → wpAny (model X.prog X.w) X.A (eval e X.env)
    (fun u s' => ∃ H1 sc yl ed L, Inv X pins σ H1 sc ∧ FMade X.prog X.w k X.base X.stack L sc yl ed u s' ∧ Q yl ed H1) X.xe s
def tCallF (sp : SpF) (t : TA) : TGf := fun σ H Q => t σ H fun vs H1 => ∃ yl ed, sp vs yl ed ∧ Q yl ed H1
theorem pgf_call {X : Cx} {k : Nat} {f : Addr} {fd : FuncData} {ps : List Str} {sp : SpF} {x : Str} {p pos' : Pos} {e : Expr} {es : List Expr} {t : TA} (F : GFf X.prog X.w X.K X.mg X.base k f fd ps sp) (hr : Room k X.A) (hg : Gl X x) (hm : X.mg x = some (.ref f)) (hk : PySem.W.keepIn X.K (.ref f) = true) (hb : Binds X.K fd ps [])
    (ha : PA X (e :: es) t) (hdb : (x == ("__debug__" : Str)) = false := by decide) (he : starEach (e :: es) X.env = (false, eval e X.env) :: starEach es X.env := by rfl) (hpl : (backTo pos' (starEach es X.env)).any (·.1) = false := by rfl) :
    PGf X k (.Call (.Name x p) (e :: es) [] pos') (tCallF sp t) := by
  refine ⟨fun pins s σ H Q I h => ?_⟩
  refine wpAny_Call_Name_kw (ld_glob I hg hm ?_ hdb)
  refine PySem.W.callWith_K (h₀ := X.base) I.ok.mod.kin hk (thn (ha.run pos' pins s σ H _ I h) fun us s1 ⟨vs, H1, I1, r, yl, ed, q, hQ⟩ => ⟨I1.kIn, ?_⟩) he hpl
  have hl : us.length = ps.length := by rw [← r.length]; exact F.len _ _ _ q
  have hb2 := hb s1 us I1.kIn (by simpa using hl)
  rw [List.append_nil] at hb2
  refine wpAny_call (codeAny_mono (F.run X.A X.stack s1 H1 ⟨us, []⟩ us vs yl ed hr I1.env0 hb2 r q) fun r s' hq => ?_)
  cases r with
  | error e => exact False.elim hq
  | ok fl =>
    cases fl with
    | ret u => exact ⟨H1, s1, yl, ed, _, I1, hq, hQ⟩
    | next => exact False.elim hq
    | brk => exact False.elim hq
    | cont => exact False.elim hq
def tForF (tg : TGf) (g : TG) (tb : TS) : TS := fun D σ H => tg σ H fun yl ed H1 => ∃ W : Nat → L2.St → Hp → Prop, W 0 σ H1 ∧ (∀ i σ H, W i σ H → i < sizeLine) ∧ ∀ i σ H, W i σ H →
  (∀ H', ed i H H' → D.nx σ H') ∧ ∀ x H', yl i H x H' → g x σ H' fun σ2 H2 => tb { D with nx := W (i + 1), ct := W (i + 1), bk := D.nx } σ2 H2
/-- where the consumer is at a waking; what it has at the end of a turn -/
def Cons (X : Cx) (pins : List (Addr × Obj)) (W : Nat → L2.St → Hp → Prop) : CnF := fun n H s => ∃ σ, Inv X pins σ H s ∧ W (sizeLine - n) σ H
def FiF (Xg : Cx) (q : Addr × Obj) (C : CnF) (ed : EdP) (n : Nat) (s₀ s1 : Shared) : Prop := ∃ (H0 : Hp) (ys : List V) (ip : List (Addr × Obj)) (σg : L2.St) (H4 : Hp), n + ys.length = sizeLine ∧ FI Xg q C n s₀ H0 ip σg H4 s1 ∧ ed ys.length H0 H4
def REf (Xg : Cx) (q : Addr × Obj) (C : CnF) (ed : EdP) : GenEnd := fun n s₀ r s₁ => ((r = .ok (.ret .none) ∨ r = .ok .next) ∧ FiF Xg q C ed n s₀ s₁) ∨ ∃ e, r = .error e ∧ (fun (_ : Value) (_ : Shared) => False) e s₁
def YEf (Xg : Cx) (q : Addr × Obj) (C : CnF) (yl : YlP) : Protocol := YF Xg q C fun ys H0 x H => yl ys.length H0 x H
def LPf (X Xg : Cx) (pins : List (Addr × Obj)) (W : Nat → L2.St → Hp → Prop) (q : Addr × Obj) (gn : Nat) (yl : YlP) (ed : EdP) (n : Nat) (s' : Shared) : Prop :=
  ∃ (i : Nat) (σ' : L2.St) (H' : Hp) (gs : GenState), n + i = sizeLine ∧ Inv X pins σ' H' s' ∧ W i σ' H' ∧ s'.gens[gn]? = some gs ∧ s'.heap.get? q.1 = some q.2 ∧
    gs.Goes (model X.prog X.w) X.A.in1 (REf Xg q (Cons X pins W) ed) (YEf Xg q (Cons X pins W) yl) n (.send .none) (s'.setGen gn .running)
theorem not_sleeps {M : Model} {A : Around} {R : GenEnd} {Y : Protocol} {n : Nat} {gs : GenState} {s : Shared} (h : gs.Goes M A R Y n (.send (.bool true)) s) : GenK.sleeps gs = true := by
  cases gs with
  | suspended k l c p fs cl => rfl
  | fresh c =>
    obtain ⟨e, _⟩ := h
    cases e
  | running => exact h.elim
  | finished => exact h.elim
theorem ps_forF {X : Cx} {tg iter : Expr} {body : List Stmt} {k : Nat} {tf : TGf} {g : TG} {tb : TS} {pos : Pos} (hx : ∀ e s, ¬ X.xe e s) (hc : X.calm = true) (hr : Room (k + 1) X.A) (hi : PGf X k iter tf) (hg : PG X tg g) (hb : PSs X body tb)
    (hs : ∀ x, foldedSetIterable iter X.env x = pure x := by intro _; rfl) : PS X (.For tg iter body [] pos) (tForF tf g tb) := by
  refine ⟨fun pins s σ H D I h => ?_⟩
  refine wpAny_For (wpAny_mono (hi.run pins s σ H _ I h) (fun u s1 h1 => ?_) fun _ _ z => z) hs
  obtain ⟨H1, sc, yl, ed, L, I1, ⟨a, gn, cd, go, rfl, l1, l2, l3, ea, isg, ngo, eg, os1, b1, kp, _, wake⟩, W, w0, wlt, turn⟩ := h1
  refine wpAny_pyIter_gen (isg _ ea) ?_
  have lL : X.env.locals < L := Nat.lt_of_lt_of_le I1.lt l1
  have lc : ∀ x c, X.env.cells.lookup x = some c → c < L := fun x c e => by
    obtain ⟨v, q⟩ := I1.cell x c e
    exact Nat.lt_of_lt_of_le q.lt l1
  have lp : ∀ p ∈ X.pn ++ pins, p.1 < L := fun p hp => Nat.lt_of_lt_of_le (Heap.lt_size (I1.pin p hp).1) l1
  have ls : X.s_0.heap.objs.size ≤ L := Nat.le_trans I1.sz l1
  have lf : ∀ b ∈ X.fs, b < L := fun b hb => by
    obtain ⟨_, o, e, _⟩ := I1.ok.funs.mem hb
    exact Nat.lt_of_lt_of_le (Heap.lt_size e) ls
  have Is : Inv X pins σ H1 s1 := I1.call' (ch := []) os1 (Un.kept kp) (I1.hok.kept kp) b1 fun b z => (List.not_mem_nil z).elim
  have Ir : Inv X pins σ H1 (s1.setGen gn .running) := inv_gens Is (allBare_setGen b1 rfl)
  have room : Room k X.A.in1 := ⟨hr.hd, by have := hr.dp; show X.A.depth + 3 * k + 5 < _; omega, by have := hr.un; show X.A.units + 1 + 16 * k + 200 < _; omega⟩
  obtain ⟨Xg, e1, e2, e3, e4, e5, seg⟩ := wake X.A.in1 (Cons X pins W) (s1.setGen gn .running) H1 room Is.ok.frames
    ⟨Ir.env0.funs, Ir.env0.frf, Ir.env0.bs, Ir.env0.bsz, Ir.hok, Ir.bare, rfl, I1.hok.fresh l1, fun p hp => by
      rw [List.mem_singleton.mp hp]
      exact ⟨ea, I1.hok.fresh (Nat.le_trans l1 (Nat.le_of_lt l2))⟩⟩
    ⟨σ, Ir, by rw [Nat.sub_self]; exact w0⟩
  subst e5
  have goes0 : LPf X Xg pins W (a, go) gn yl ed sizeLine s1 := by
    refine ⟨0, σ, H1, _, rfl, Is, w0, eg, ea, rfl, seg_imp (fun n s₀ r s h => ?_) (fun n s₀ v s kap kap' hk hy => ?_) _ seg⟩
    · cases r with
      | error e => exact h.elim
      | ok fl =>
        cases fl with
        | ret u =>
          obtain ⟨H0, ys, v, ip, σg, H4, q1, q2, q3, rfl, q4⟩ := h
          have eu : u = Value.none := q3
          subst eu
          exact .inl ⟨.inl rfl, H0, ys, ip, σg, H4, q1, q2, q4⟩
        | next => exact h.elim
        | brk => exact h.elim
        | cont => exact h.elim
    · obtain ⟨H0, ys, x, ip, σg, H4, q1, q2, q3, q4, q5⟩ := hy
      exact ⟨H0, ys, x, ip, σg, H4, q1, q2, q3, q4, fun s' H' w c => ⟨hk _ _ (q5 s' H' w c).1, hk _ _ (q5 s' H' w c).2⟩⟩
  refine codeAny_forLoop_any (LPf X Xg pins W (a, go) gn yl ed) ?_ sizeLine goes0
  · rintro n s3 ⟨i, σ3, H3, gs, hn, I3, w3, eg3, ea3, goes⟩
    have hi := wlt i σ3 H3 w3
    obtain ⟨m, rfl⟩ : ∃ m, n = m + 1 := ⟨n - 1, by omega⟩
    have gc : ∃ nm qn : Value, go.cls = .type "generator" ∧ go.data = .fields #[.int gn 0, nm, qn] := by
      obtain ⟨o, nm, qn, q1, q2, q3, _⟩ := isg _ ea
      rw [ea] at q1
      cases q1
      exact ⟨nm, qn, q2, q3⟩
    refine wpAny_gsz (n := gn + 1) (Array.getElem?_eq_some_iff.mp eg3).1 (next_genG (F := FiF Xg (a, go) (Cons X pins W) ed) (Y := YEf Xg (a, go) (Cons X pins W) yl) (Er := fun _ _ => False) (I3.ok.hd hc) I3.nolimit hr.depth (isg _ ea3) eg3 goes (fun v s4 gs' hbare hy hsz => ?_) (fun s4 hF h' hk _ => ?_) fun e s4 h => h.elim)
    · obtain ⟨H0, ys, x, ip, σg, H4, hn4, rv, F4, y4, wk4⟩ := hy
      obtain ⟨σ0, I0, w0'⟩ := F4.c
      have ey : ys.length = i := by omega
      have ei : sizeLine - (m + 1 - 1 + 1) = i := by omega
      rw [ei] at w0'
      rw [ey] at y4
      have I4 : Inv X pins σ0 H4 s4 := slept_back I0 F4.inv e4 e1 e2 lL lc lp ls
      obtain ⟨oL, eL, I4p⟩ := slept_pins I4 F4.inv e4 lL F4.hp lf
      have hb4 : AllBare (s4.setGen gn gs').gens := allBare_setGen I4.bare hbare
      have I5 : Inv X (pins ++ ((Xg.env.locals, oL) :: ip)) σ0 H4 (s4.setGen gn gs') := inv_gens I4p hb4
      have ea4 : (s4.setGen gn gs').heap.get? a = some go := (F4.inv.pin (a, go) (List.mem_append_right _ F4.own)).1
      obtain ⟨nm, qn, gcl, gdt⟩ := gc
      refine go_of ea4 gcl gdt (by decide) ?_
      have dbare : ∀ {G : Array GenState}, AllBare G → AllBare (G.map GenK.dead) := fun {G} hG y hy => by
        obtain ⟨z, hz, rfl⟩ := Array.mem_map.mp hy
        rw [GenK.bare_dead]
        exact hG z hz
      have hsl : gn < s4.gens.size := by
        rw [GenW.setGen_size] at hsz
        exact hsz
      have at5 : (s4.setGen gn gs').gens[gn]? = some gs' := setGen_at hsl
      refine wpAny_mono (GenK.wpAny_keep (hg.run (pins ++ ((Xg.env.locals, oL) :: ip)) (GenK.wg (s4.setGen gn gs') ((s4.setGen gn gs').gens.map GenK.dead)) σ0 H4 x v _ (inv_gens I5 (dbare hb4)) rv ((turn i σ0 H0 w0').2 x H4 y4))) (fun _ s6 h6 => ?_) fun _ _ h6 => ?_
      · obtain ⟨D6, ⟨σ6, H6, I6', q6⟩, rel6⟩ := h6
        have b6 : AllBare s6.gens := rel6.bare I6'.bare
        have I6 : Inv X (pins ++ ((Xg.env.locals, oL) :: ip)) σ6 H6 s6 := inv_wg I6' b6
        refine wpAny_mono (GenK.wpAny_keep (hb.run (pins ++ ((Xg.env.locals, oL) :: ip)) (GenK.wg s6 (s6.gens.map GenK.dead)) σ6 H6 _ (inv_gens I6 (dbare b6)) q6)) (fun f s7 h7 => ?_) fun _ _ h7 => ?_
        · obtain ⟨D7, sp, rel7⟩ := h7
          have again : ∀ {σ7 : L2.St} {H7 : Hp}, Inv X (pins ++ ((Xg.env.locals, oL) :: ip)) σ7 H7 (GenK.wg s7 D7) → W (i + 1) σ7 H7 → ∃ j, j < m + 1 ∧ LPf X Xg pins W (a, go) gn yl ed j s7 := fun {σ7 H7} J7 n7 => by
            have b7 : AllBare s7.gens := rel7.bare J7.bare
            have I7 : Inv X (pins ++ ((Xg.env.locals, oL) :: ip)) σ7 H7 s7 := inv_wg J7 b7
            have Ir7 : Inv X pins σ7 H7 (s7.setGen gn .running) := inv_gens I7.unpinned (allBare_setGen b7 rfl)
            have p7 := fun p (hp : p ∈ (Xg.env.locals, oL) :: ip) => I7.pin p (List.mem_append_right _ (List.mem_append_right _ hp))
            have wk : Wk Xg.prog Xg.w Xg.base Xg.outer Xg.env.locals ip s4 (s7.setGen gn .running) H7 := by
              rw [e1, e2, e3, e4]
              exact ⟨Ir7.env0.funs, Ir7.env0.frf, Ir7.env0.bs, Ir7.env0.bsz, Ir7.hok, Ir7.bare, (p7 _ List.mem_cons_self).1.trans eL.symm, (p7 _ List.mem_cons_self).2.1, fun p hp => ⟨(p7 p (List.mem_cons_of_mem _ hp)).1, (p7 p (List.mem_cons_of_mem _ hp)).2.1⟩⟩
            obtain ⟨k1, k2⟩ := wk4 (s7.setGen gn .running) H7 wk ⟨σ7, Ir7, by
              have : sizeLine - m = i + 1 := by omega
              rw [show m + 1 - 1 = m from rfl, this]
              exact n7⟩
            have hsleep : GenK.sleeps gs' = true := not_sleeps k2
            exact ⟨m, Nat.lt_succ_self _, i + 1, σ7, H7, gs', by omega, I7.unpinned, n7, rel7.keeps (rel6.keeps at5 hsleep) hsleep, (p7 (a, go) (List.mem_cons_of_mem _ F4.own)).1, k1⟩
          cases f with
          | next =>
            obtain ⟨σ7, H7, J7, n7⟩ := sp
            exact again J7 n7
          | cont =>
            obtain ⟨σ7, H7, J7, n7⟩ := sp
            exact again J7 n7
          | brk =>
            obtain ⟨σ7, H7, J7, q7⟩ := sp
            exact ⟨σ7, H7, inv_wg J7.unpinned (rel7.bare J7.bare), q7⟩
          | ret u =>
            obtain ⟨x7, σ7, H7, J7, r7, q7⟩ := sp
            exact ⟨x7, σ7, H7, inv_wg J7.unpinned (rel7.bare J7.bare), r7, q7⟩
        · obtain ⟨_, z, _⟩ := h7
          exact (hx _ _ z).elim
      · obtain ⟨_, z, _⟩ := h6
        exact (hx _ _ z).elim
    · obtain ⟨H0, ys, ip, σg, H4, hn4, F4, q4⟩ := hF
      obtain ⟨σ0, I0, w0'⟩ := F4.c
      have ey : ys.length = i := by omega
      have ei : sizeLine - (m + 1) = i := by omega
      rw [ei] at w0'
      rw [ey] at q4
      have I4 : Inv X pins σ0 H4 s4 := slept_back I0 F4.inv e4 e1 e2 lL lc lp ls
      have I5 : Inv X pins σ0 H4 (s4.setGen gn .finished) := inv_gens I4 (allBare_setGen I4.bare rfl)
      exact wpAny_execs_nil ⟨σ0, H4, I5.kept (t' := s4.toks) hk, (turn i σ0 H0 w0').1 H4 q4⟩
end Ck
namespace Ck
open PySem PySem.Spec PyProof.Rows L2
/-! ### prices, tests, rules, books as data -/
structure T3 where
  a : Int
  b : Int
  c : Int
def d3 (t : T3) : Dt := .tup [.int t.a, .int t.b, .int t.c]
def dS (s : Int × Int) : Dt := .tup [.int s.1, .int s.2]
structure Rule where
  ts : List T3
  f : Int
def dR (r : Rule) : Dt := .tup [.tup (r.ts.map d3), .int r.f]
structure Book where
  w : Int
  ps : List T3
  rs : List Rule
  last : Int
def dB (b : Book) : Dt := .tup [.int b.w, .tup (b.ps.map d3), .tup (b.rs.map dR), .int b.last]
/-- within bounds that never matter -/
def Bd (x : Int) : Prop := -(2 ^ 40) < x ∧ x < 2 ^ 40
def Bd3 (t : T3) : Prop := Bd t.a ∧ Bd t.b ∧ Bd t.c
def BdS (s : Int × Int) : Prop := Bd s.1 ∧ Bd s.2
theorem Bd.mul {x y : Int} (h : Bd x) (k : Bd y) : CMulX x y := by
  obtain ⟨h1, h2⟩ := h
  obtain ⟨k1, k2⟩ := k
  exact mulx60 (by omega) (by omega) (by omega) (by omega)
def roomAt (p : T3) (s : Int × Int) : Int := p.a + p.b * s.1 + p.c * s.2
def holdB (ts : List T3) (s : Int × Int) : Bool := ts.all fun t => !decide (t.c < t.a * s.1 + t.b * s.2)
def decider (rs : List Rule) (s : Int × Int) : Nat := rs.findIdx fun r => holdB r.ts s
def kept (b : Book) (s : Int × Int) : Int := match b.rs[decider b.rs s]? with
  | some r => r.f
  | none => b.last
def roomB (b : Book) (s : Int × Int) : Option Int := (b.ps[(kept b s).toNat]?).map fun p => roomAt p s
def S_room_at {Ω : Type} : Spc Ω := pureS (ι := T3 × Int × Int) (fun i => [d3 i.1, dS i.2]) (fun i => Bd3 i.1 ∧ BdS i.2) fun i => .int (roomAt i.1 i.2)
def S_do_hold {Ω : Type} : Spc Ω := pureS (ι := List T3 × Int × Int) (fun i => [.tup (i.1.map d3), dS i.2]) (fun i => (∀ t ∈ i.1, Bd3 t) ∧ BdS i.2) fun i => .bl (holdB i.1 i.2)
def S_decider {Ω : Type} : Spc Ω := pureS (ι := List Rule × Int × Int) (fun i => [.tup (i.1.map dR), dS i.2]) (fun i => (∀ r ∈ i.1, ∀ t ∈ r.ts, Bd3 t) ∧ BdS i.2) fun i => .int (decider i.1 i.2)
def BookBd (b : Book) : Prop := (∀ t ∈ b.ps, Bd3 t) ∧ (∀ r ∈ b.rs, ∀ t ∈ r.ts, Bd3 t)
def S_kept {Ω : Type} : Spc Ω := pureS (ι := Book × Int × Int) (fun i => [dB i.1, dS i.2]) (fun i => BookBd i.1 ∧ BdS i.2) fun i => .int (kept i.1 i.2)
/-- the forms that are named are forms -/
def FormOk (b : Book) : Prop := (∀ r ∈ b.rs, 0 ≤ r.f ∧ r.f < b.ps.length) ∧ 0 ≤ b.last ∧ b.last < b.ps.length
def S_room {Ω : Type} : Spc Ω := pureS (ι := Book × Int × Int) (fun i => [dB i.1, dS i.2]) (fun i => BookBd i.1 ∧ FormOk i.1 ∧ BdS i.2) fun i => .int ((roomB i.1 i.2).getD 0)
abbrev p_room_at {Ω : Type} : DS Ω :=
  (wRet (wOp fAdd (wOp fAdd (wOp fIx (wVar 0) (wC (.int 0))) (wOp fMul (wOp fIx (wVar 0) (wC (.int 1))) (wOp fIx (wVar 1) (wC (.int 0))))) (wOp fMul (wOp fIx (wVar 0) (wC (.int 2))) (wOp fIx (wVar 1) (wC (.int 1))))))
abbrev p_do_hold {Ω : Type} : DS Ω :=
  (wSeq (wFor (.many [2, 3, 4]) (wiSeq (wVar 0)) (wIfS (wTV (wOp fGt (wOp fAdd (wOp fMul (wVar 2) (wOp fIx (wVar 1) (wC (.int 0)))) (wOp fMul (wVar 3) (wOp fIx (wVar 1) (wC (.int 1))))) (wVar 4))) (wRet (wC (.bl false))) wNext))
  (wRet (wC (.bl true))))
abbrev p_decider {Ω : Type} : DS Ω :=
  (wSeq (wFor (.many [2, 3]) (wiEnum (wVar 0)) (wIfS (wTV (wCall S_do_hold (wCons (wOp fIx (wVar 3) (wC (.int 0))) (wCons (wVar 1) wNil)))) (wRet (wVar 2)) wNext))
  (wRet (wF fLen (wVar 0))))
abbrev p_kept {Ω : Type} : DS Ω :=
  (wSeq (wSet 2 (wCall S_decider (wCons (wOp fIx (wVar 0) (wC (.int 2))) (wCons (wVar 1) wNil))))
  (wRet (wIfx (wTV (wOp fLt (wVar 2) (wF fLen (wOp fIx (wVar 0) (wC (.int 2)))))) (wOp fIx (wOp fIx (wOp fIx (wVar 0) (wC (.int 2))) (wVar 2)) (wC (.int 1))) (wOp fIx (wVar 0) (wC (.int 3))))))
abbrev p_room {Ω : Type} : DS Ω :=
  (wRet (wCall S_room_at (wCons (wOp fIx (wOp fIx (wVar 0) (wC (.int 1))) (wCall S_kept (wCons (wVar 0) (wCons (wVar 1) wNil)))) (wCons (wVar 1) wNil))))
theorem m_room_at {Ω : Type} : ∀ ds (w : Ω) C, S_room_at.run ds w C → p_room_at (endD C) (startD 2 ds) w := by
  rintro ds w C ⟨⟨p, s⟩, rfl, ⟨⟨h1, h2, h3⟩, h4, h5⟩, q⟩
  exact ⟨_, rfl, _, rfl, _, rfl, h2.mul h4, _, rfl, _, rfl, h3.mul h5, rfl, q⟩
theorem holdB_iff (ts : List T3) (s : Int × Int) : holdB ts s = true ↔ ∀ (j : Nat) (t : T3), ts[j]? = some t → decide (t.c < t.a * s.1 + t.b * s.2) = false := by
  unfold holdB
  rw [List.all_eq_true]
  constructor
  · intro h j t ht
    have := h t (List.mem_of_getElem? ht)
    simpa using this
  · intro h t ht
    obtain ⟨j, hj⟩ := List.getElem?_of_mem ht
    have := h j t hj
    simpa using this
/-- whether the j-th test fails -/
def badT (ts : List T3) (s : Int × Int) (j : Nat) : Bool := match ts[j]? with
  | some t => decide (t.c < t.a * s.1 + t.b * s.2)
  | none => false
theorem m_do_hold {Ω : Type} : ∀ ds (w : Ω) C, S_do_hold.run ds w C → p_do_hold (endD C) (startD 5 ds) w := by
  rintro ds w C ⟨⟨ts, s⟩, rfl, ⟨h1, h2, h3⟩, q⟩
  have q : C (.bl (holdB ts s)) w := q
  refine ⟨rfl, _, rfl, ?_⟩
  refine loop_map d3 ts (fun _ sl => ∃ x2 x3 x4, sl = [some (.dat (.tup (ts.map d3))), some (.dat (dS s)), x2, x3, x4]) (badT ts s) ?_ ⟨_, _, _, rfl⟩ ?_
  · rintro i t sl ht hb ⟨x2, x3, x4, rfl⟩
    have hu := h1 t (List.mem_of_getElem? ht)
    have ei : badT ts s i = decide (t.c < t.a * s.1 + t.b * s.2) := by
      unfold badT
      rw [ht]
    refine ⟨_, rfl, fun N hN => ⟨_, rfl, hu.1.mul h2, _, rfl, hu.2.1.mul h3, _, rfl, ite2 (fun hd => ?_) (fun hd => ?_)⟩⟩
    · have e' : holdB ts s = false := by
        cases hh : holdB ts s with
        | false => rfl
        | true =>
          have hd : decide (t.c < t.a * s.1 + t.b * s.2) = true := hd
          rw [(holdB_iff ts s).mp hh i t ht] at hd
          cases hd
      rw [e'] at q
      exact ⟨rfl, q⟩
    · exact hN (by rw [ei]; simpa using hd) _ ⟨_, _, _, rfl⟩
  · rintro hb sl ⟨x2, x3, x4, rfl⟩
    have e' : holdB ts s = true := (holdB_iff ts s).mpr fun j t ht => by
      have := hb j (List.getElem?_eq_some_iff.mp ht).1
      unfold badT at this
      rw [ht] at this
      exact this
    rw [e'] at q
    exact ⟨rfl, q⟩
theorem m_decider {Ω : Type} : ∀ ds (w : Ω) C, S_decider.run ds w C → p_decider (endD C) (startD 4 ds) w := by
  rintro ds w C ⟨⟨rs, s⟩, rfl, ⟨h1, h2⟩, q⟩
  have q : C (.int (decider rs s : Nat)) w := q
  refine ⟨rfl, _, rfl, ?_⟩
  refine loop_enum dR rs (fun _ sl => ∃ x2 x3, sl = [some (.dat (.tup (rs.map dR))), some (.dat (dS s)), x2, x3]) (fun i => match rs[i]? with | some r => holdB r.ts s | none => false) ?_ ⟨_, _, rfl⟩ ?_
  · rintro i r sl hr hb ⟨x2, x3, rfl⟩
    refine ⟨_, rfl, fun N hN => ⟨_, rfl, rfl, rfl, ⟨r.ts, s⟩, rfl, ⟨h1 r (List.mem_of_getElem? hr), h2⟩, _, rfl, ite2 (fun hd => ?_) (fun hd => ?_)⟩⟩
    · have e : decider rs s = i := by
        have hd : holdB r.ts s = true := hd
        unfold decider
        rw [List.findIdx_eq (List.getElem?_eq_some_iff.mp hr).1]
        refine ⟨by rw [(List.getElem?_eq_some_iff.mp hr).2]; exact hd, fun j hj => ?_⟩
        have := hb j hj
        have hjl : j < rs.length := Nat.lt_trans hj (List.getElem?_eq_some_iff.mp hr).1
        rw [List.getElem?_eq_getElem hjl] at this
        exact this
      rw [e] at q
      exact ⟨rfl, q⟩
    · refine hN ?_ _ ⟨_, _, rfl⟩
      rw [hr]
      simpa using hd
  · rintro hb sl ⟨x2, x3, rfl⟩
    have e : decider rs s = rs.length := by
      unfold decider
      rw [List.findIdx_eq_length]
      intro r hr
      obtain ⟨j, hj⟩ := List.getElem?_of_mem hr
      have := hb j (List.getElem?_eq_some_iff.mp hj).1
      rw [hj] at this
      exact this
    rw [e] at q
    refine ⟨rfl, ?_⟩
    show C (.int ((rs.map dR).length : Nat)) w
    rw [List.length_map]
    exact q
theorem m_kept {Ω : Type} : ∀ ds (w : Ω) C, S_kept.run ds w C → p_kept (endD C) (startD 3 ds) w := by
  rintro ds w C ⟨⟨b, s⟩, rfl, ⟨h1, h2⟩, q⟩
  have q : C (.int (kept b s)) w := q
  refine ⟨_, rfl, rfl, rfl, ⟨b.rs, s⟩, rfl, ⟨h1.2, h2⟩, rfl, ?_⟩
  refine ⟨_, rfl, _, rfl, ite2 (fun hd => ?_) (fun hd => ?_)⟩
  · have hl : decider b.rs s < b.rs.length := by
      have := of_decide_eq_true hd
      rw [List.length_map] at this
      exact Int.ofNat_lt.mp this
    have hg := List.getElem?_eq_getElem hl
    refine ⟨_, rfl, dR b.rs[decider b.rs s], atI_nat (by rw [List.getElem?_map, hg]; rfl), _, rfl, rfl, ?_⟩
    unfold kept at q
    rw [hg] at q
    exact q
  · have hl : b.rs.length ≤ decider b.rs s := by
      refine Nat.le_of_not_lt fun z => hd (decide_eq_true ?_)
      rw [List.length_map]
      exact Int.ofNat_lt.mpr z
    refine ⟨_, rfl, rfl, ?_⟩
    unfold kept at q
    rw [List.getElem?_eq_none hl] at q
    exact q
theorem kept_form {b : Book} (h : FormOk b) (s : Int × Int) : 0 ≤ kept b s ∧ kept b s < b.ps.length := by
  unfold kept
  cases e : b.rs[decider b.rs s]? with
  | some r => exact h.1 r (List.mem_of_getElem? e)
  | none => exact h.2
theorem m_room {Ω : Type} : ∀ ds (w : Ω) C, S_room.run ds w C → p_room (endD C) (startD 2 ds) w := by
  rintro ds w C ⟨⟨b, s⟩, rfl, ⟨h1, h2, h3⟩, q⟩
  have q : C (.int ((roomB b s).getD 0)) w := q
  have h2 : FormOk b := h2
  obtain ⟨k1, k2⟩ := kept_form h2 s
  have hl : (kept b s).toNat < b.ps.length := by omega
  have hg := List.getElem?_eq_getElem hl
  refine ⟨_, rfl, rfl, rfl, ⟨b, s⟩, rfl, ⟨h1, h3⟩, d3 b.ps[(kept b s).toNat], atI_int k1 (by rw [List.getElem?_map, hg]; rfl), rfl, rfl, ⟨b.ps[(kept b s).toNat], s⟩, rfl, ⟨h1.1 _ (List.getElem_mem hl), h3⟩, rfl, ?_⟩
  unfold roomB at q
  rw [hg] at q
  exact q
end Ck
namespace Ck
open PySem PySem.Spec PyProof.Rows L2
local macro_rules | `(tactic| walk_at "ck") => `(tactic| try simp only [wNext, wBrk, wCnt, wSeq, wRet, wRetN, wSet, wOwn, wDrop, wUnp, wPar, wIfS, wApp, wExt, wSetIx, wAug, wFrz, wFor, k_var, k_vk1, k_vk2, k_par, wC, wL, wOp, wOpL, wF, wFL, wNil, wCons, wTup, wLst, wTV, wTAnd, wTOr, wTNot, wAnd, wOr, wNot, wIfx, wIsN, wNotN, wChain, wO0, wO1, wSl, wCall, wIsi, wLr1, wLr2, wNeg, wLc, wYes, wiSeq, wiR1, wiR2, wiEnum, wiZip, noOwnB, wipeD, wEmp, wListZip, wSortSet, wRevL, wRevT, wOneB, k_mulT, k_add1, k_add2, k_add3, k_add4, k_addL, k_sub, k_mul1, k_mul2, k_mulL, k_div, k_mod, k_pow, k_cmp, k_eq, k_ne, k_ea1, k_ea2, k_ea3, k_ea4, k_in1, k_in2, k_in3, k_in4, k_ix1, k_ix2, k_ix3, k_sl1, k_sl2, k_len1, k_len2, k_len3, k_int1, k_int2, k_abs, k_tuple1, k_tuple2, k_list1, k_list2, k_min2, k_max2, k_non_non, k_ty_int_non, k_ty_bool_non, k_ty_tuple_non, k_ty_str_non, k_ty_list_non, k_non_bl, k_ty_int_bl, k_ty_bool_bl, k_ty_tuple_bl, k_ty_str_bl, k_ty_list_bl, k_non_int, k_ty_int_int, k_ty_bool_int, k_ty_tuple_int, k_ty_str_int, k_ty_list_int, k_non_str, k_ty_int_str, k_ty_bool_str, k_ty_tuple_str, k_ty_str_str, k_ty_list_str, k_non_tup, k_ty_int_tup, k_ty_bool_tup, k_ty_tuple_tup, k_ty_str_tup, k_ty_list_tup, k_non_lst, k_ty_int_lst, k_ty_bool_lst, k_ty_tuple_lst, k_ty_str_lst, k_ty_list_lst, k_non_emp, k_ty_int_emp, k_ty_bool_emp, k_ty_tuple_emp, k_ty_str_emp, k_ty_list_emp, k_seq_non, k_seq_bl, k_seq_int, k_seq_str, k_seq_tup, k_seq_lst, k_seq_emp, k_sz0, k_sz1, k_sz2, k_sz3, k_sz4, k_sz5, k_sz6, k_sz7, k_sz8, k_sz9, k_sz10, k_sz11, k_sz12, k_sz13, k_sz14, k_sz15, k_sz16, k_sz17, k_sz18, k_sz19, k_sz20, k_sz21, k_sz22, k_sz23, k_at0, k_at1, k_at2, k_at3, k_iteT, k_iteF, k_bt1, k_bt2, k_sa0, k_sa1, k_endn, k_endr, List.getElem?_cons_succ, List.getElem?_cons_zero, List.set_cons_succ, List.set_cons_zero, List.length_cons, List.length_nil, List.length_map, List.all_cons, List.all_nil, Nat.reduceAdd, Nat.zero_add, Bool.and_true, Bool.and_self, Option.some.injEq, Dt.int.injEq, Dt.bl.injEq, Dt.str.injEq, Dt.tup.injEq, Dt.lst.injEq, Sv.dat.injEq, Sv.own.injEq, exists_eq_left', exists_eq_left, exists_eq_right, exists_eq', exists_eq, if_true, if_false, Bool.not_false, Bool.not_true, Bool.not_not, true_and, and_true, false_and, and_false, exists_const, reduceCtorEq])
/-! ### any data -/
abbrev Pl (v : Dt) : Prop := ∃ p, v.pr = some p
theorem pl_opq {v : V} : ¬ Pl (.opq v) := fun ⟨p, h⟩ => by simp only [Dt.pr] at h; cases h
theorem pl_dic {ks : List (List L2.Key)} {l : List Dt} : ¬ Pl (.dic ks l) := fun ⟨p, h⟩ => by simp only [Dt.pr] at h; cases h
theorem pl_ins {c : Addr} {ns : List Str} {l : List Dt} : ¬ Pl (.ins c ns l) := fun ⟨p, h⟩ => by simp only [Dt.pr] at h; cases h
theorem prL_mem : ∀ {l : List Dt} {ps : List PyData}, prL l = some ps → ∀ d ∈ l, Pl d
  | [], _, _, d, h => nomatch h
  | a :: l, ps, e, d, h => by
    simp only [prL, Option.bind_eq_some_iff, Option.map_eq_some_iff] at e
    obtain ⟨p, e1, qs, e2, rfl⟩ := e
    rcases List.mem_cons.mp h with rfl | h
    · exact ⟨p, e1⟩
    · exact prL_mem e2 d h
theorem Pl.tup {l : List Dt} (h : Pl (.tup l)) : ∀ d ∈ l, Pl d := by
  obtain ⟨p, h⟩ := h
  simp only [Dt.pr, Option.map_eq_some_iff] at h
  obtain ⟨ps, h, _⟩ := h
  exact prL_mem h
theorem Shw.pl {k n : Nat} {v : Dt} (h : Shw k n v) : Pl v := let ⟨p, e, _⟩ := h; ⟨p, e⟩
/-- an integer within bounds -/
def intIn (v : Dt) (lo hi : Int) : Bool := match v with
  | .int i => decide (lo ≤ i) && decide (i ≤ hi)
  | _ => false
theorem k_intIn {i lo hi : Int} : intIn (.int i) lo hi = (decide (lo ≤ i) && decide (i ≤ hi)) := rfl
def S_is_integer {Ω : Type} : Spc Ω := pureS (ι := Dt × Int × Int) (fun i => [i.1, .int i.2.1, .int i.2.2]) (fun i => Pl i.1) fun i => .bl (intIn i.1 i.2.1 i.2.2)
def S_is_width {Ω : Type} : Spc Ω := pureS (ι := Dt) (fun i => [i]) (fun i => Pl i) fun i => .bl (intIn i 1 1000)
def S_law_whole {Ω : Type} : Spc Ω := S_is_integer
/-- a triple of integers within bounds -/
def nums (v : Dt) (m : Int) : Bool := match v with
  | .tup l => decide (l.length = 3) && l.all fun d => intIn d (0 - m) m
  | _ => false
theorem k_nums {l : List Dt} {m : Int} : nums (.tup l) m = (decide (l.length = 3) && l.all fun d => intIn d (0 - m) m) := rfl
def S_are_numbers {Ω : Type} : Spc Ω := pureS (ι := Dt × Int) (fun i => [i.1, .int i.2]) (fun i => Pl i.1) fun i => .bl (nums i.1 i.2)
def S_law_are_numbers {Ω : Type} : Spc Ω := S_are_numbers
section
variable {Ω : Type} {tg : Tg} {t : DT Ω} {pe : DE Ω} {sl0 : Sl} {body : DS Ω} {D : DD Ω} {w : Ω}
theorem lc_dat (b : Dt → Bool) (f : Dt → Dt) (l : List Dt) {C : List Dt → Ω → Prop}
    (h : ∀ d ∈ l, ∃ sl', bindTg tg d sl0 = some sl' ∧ (∀ C : Bool → Ω → Prop, C (b d) w → t sl' w C) ∧ (b d = true → ∀ C : Dt → Fl → Ω → Prop, C (f d) .cl w → pe sl' w C)) (hC : C ((l.filter b).map f) w) : lcLoop tg t pe sl0 l w C := by
  have := lc_typed (tg := tg) (t := t) (pe := pe) (sl0 := sl0) id b f l (C := C) h hC
  rwa [List.map_id] at this
/-- the first item that is bad ends the walk -/
theorem loop_find (l : List Dt) (bad : Dt → Bool) (J : Sl → Prop) (R : Nat → Prop) {sl : Sl}
    (h : ∀ (i : Nat) (d : Dt) (sl : Sl), l[i]? = some d → d ∈ l → J sl → ∃ sl', bindTg tg (.tup [.int (i : Nat), d]) sl = some sl' ∧ ∀ N : Sl → Ω → Prop, (bad d = false → ∀ s, J s → N s w) → (bad d = true → R i) → body { D with nx := N, ct := N, bk := D.nx } sl' w)
    (h0 : J sl) (hR : ∀ i, l.findIdx? bad = some i → R i) (hC : l.findIdx? bad = none → ∀ s, J s → D.nx s w) : wLoop tg body D (enumD l) sl w := by
  have e : enumD l = enumD (l.map id) := by rw [List.map_id]
  rw [e]
  refine loop_enum id l (fun _ s => J s) (fun i => match l[i]? with | some d => bad d | none => false) (fun i d sl hd hb hj => ?_) h0 (fun hb s hj => ?_)
  · obtain ⟨sl', h1, h2⟩ := h i d sl hd (List.mem_of_getElem? hd) hj
    refine ⟨sl', h1, fun N hN => h2 N (fun hb s hs => hN (by rw [hd]; exact hb) s hs) fun hbd => hR i ?_⟩
    rw [List.findIdx?_eq_some_iff_getElem]
    have hi := (List.getElem?_eq_some_iff.mp hd)
    refine ⟨hi.1, by rw [hi.2]; exact hbd, fun j hj => ?_⟩
    have q := hb j hj
    rw [List.getElem?_eq_getElem (Nat.lt_trans hj hi.1)] at q
    simpa using q
  · refine hC ?_ s hj
    rw [List.findIdx?_eq_none_iff]
    intro d hd
    obtain ⟨i, hi⟩ := List.getElem?_of_mem hd
    have q := hb i (List.getElem?_eq_some_iff.mp hi).1
    rw [hi] at q
    exact q
end
theorem filter_empty {α β : Type} (p : α → Bool) (f : α → β) (l : List α) : ((l.filter fun d => !p d).map f).isEmpty = l.all p := by
  rw [List.isEmpty_map]
  induction l with
  | nil => rfl
  | cons a l ih =>
    rw [List.filter_cons, List.all_cons, ← ih]
    cases p a <;> simp
/-- whether the i-th is bad -/
def badAt (l : List Dt) (bad : Dt → Bool) (i : Nat) : Bool := match l[i]? with
  | some d => bad d
  | none => false
/-- the places of the bad ones; the first of them -/
theorem range_find (l : List Dt) (bad : Dt → Bool) : ((List.range l.length).filter fun i => match l[i]? with | some d => bad d | none => false).head? = l.findIdx? bad := by
  induction l with
  | nil => rfl
  | cons a l ih =>
    rw [List.length_cons, List.range_succ_eq_map, List.filter_cons, List.findIdx?_cons]
    by_cases ha : bad a = true
    · rw [if_pos ha, if_pos (by exact ha)]
      rfl
    · rw [if_neg ha, if_neg (by exact ha), List.filter_map, List.head?_map]
      have e : ((fun i => match (a :: l)[i]? with | some d => bad d | none => false) ∘ Nat.succ) = fun i => match l[i]? with | some d => bad d | none => false := by
        funext i
        simp [Function.comp]
      rw [e, ih]
theorem range_find' (l : List Dt) (bad : Dt → Bool) : ((List.range l.length).filter (badAt l bad)).head? = l.findIdx? bad := range_find l bad
theorem badAt_eq {l : List Dt} {bad : Dt → Bool} {i : Nat} {d : Dt} (h : l[i]? = some d) : badAt l bad i = bad d := by
  unfold badAt
  rw [h]
abbrev p_is_integer {Ω : Type} : DS Ω :=
  (wRet (wAnd (wIsi "int" (wVar 0)) (wAnd (wNot (wIsi "bool" (wVar 0))) (wChain (fun i j => decide (i ≤ j)) (fun i j => decide (i ≤ j)) (wVar 1) (wVar 0) (wVar 2)))))
abbrev p_is_width {Ω : Type} : DS Ω :=
  (wRet (wCall S_is_integer (wCons (wVar 0) (wCons (wC (.int 1)) (wCons (wC (.int 1000)) wNil)))))
abbrev p_are_numbers {Ω : Type} : DS Ω :=
  (wSeq (wIfS (wTOr (wTNot (wTV (wIsi "tuple" (wVar 0)))) (wTV (wOp fNe (wF fLen (wVar 0)) (wC (.int 3))))) (wRet (wC (.bl false))) wNext)
  (wRet (wOp fEq (wL (wLc [2] (.one 2) (wiSeq (wVar 0)) (wTNot (wTV (wCall S_is_integer (wCons (wVar 2) (wCons (wOp fSub (wC (.int 0)) (wVar 1)) (wCons (wVar 1) wNil)))))) (wVar 2))) (wL (wLst wNil)))))
theorem m_is_integer {Ω : Type} : ∀ ds (w : Ω) C, S_is_integer.run ds w C → p_is_integer (endD C) (startD 3 ds) w := by
  rintro ds w C ⟨⟨v, lo, hi⟩, rfl, hp, q⟩
  replace hp : Pl v := hp
  replace q : C (.bl (intIn v lo hi)) w := q
  show p_is_integer _ [some (.dat v), some (.dat (.int lo)), some (.dat (.int hi))] _
  unfold p_is_integer
  cases v
  case opq => exact (pl_opq hp).elim
  case dic => exact (pl_dic hp).elim
  case ins => exact (pl_ins hp).elim
  case int i =>
    walk_at "ck"
    refine ⟨_, _, rfl, rfl, ite2 (fun hd => ?_) (fun hd => ?_)⟩
    · rw [k_intIn, hd, Bool.true_and] at q
      exact q
    · rw [k_intIn, Bool.eq_false_iff.mpr hd, Bool.false_and] at q
      exact q
  all_goals
    walk_at "ck"
    exact q
theorem m_is_width {Ω : Type} : ∀ ds (w : Ω) C, S_is_width.run ds w C → p_is_width (endD C) (startD 1 ds) w := by
  rintro ds w C ⟨v, rfl, hp, q⟩
  show p_is_width _ [some (.dat v)] _
  unfold p_is_width
  walk_at "ck"
  exact use_pure (v, 1, 1000) hp q
abbrev p_law_whole {Ω : Type} : DS Ω := p_is_integer
theorem m_law_whole {Ω : Type} : ∀ ds (w : Ω) C, S_law_whole.run ds w C → p_law_whole (endD C) (startD 3 ds) w := m_is_integer
theorem fl1 {l : List Dt} {n : Nat} : decide (((l.length : Nat) : Int) = (n : Int)) = decide (l.length = n) := by
  by_cases h : l.length = n
  · rw [h]; simp
  · rw [decide_eq_false h, decide_eq_false (by omega)]
theorem m_are_numbers {Ω : Type} : ∀ ds (w : Ω) C, S_are_numbers.run ds w C → p_are_numbers (endD C) (startD 3 ds) w := by
  rintro ds w C ⟨⟨v, m⟩, rfl, hp, q⟩
  replace hp : Pl v := hp
  replace q : C (.bl (nums v m)) w := q
  show p_are_numbers _ [some (.dat v), some (.dat (.int m)), none] _
  unfold p_are_numbers
  cases v
  case opq => exact (pl_opq hp).elim
  case dic => exact (pl_dic hp).elim
  case ins => exact (pl_ins hp).elim
  case tup l =>
    walk_at "ck"
    refine ite2 (fun hd => ?_) (fun hd => ?_)
    · have e : nums (.tup l) m = false := by
        rw [k_nums, decide_eq_false (fun z => by simp [z] at hd), Bool.false_and]
      rw [e] at q
      exact q
    · have hl : l.length = 3 := by
        simp only [Bool.not_eq_true, Bool.not_eq_false', decide_eq_true_eq] at hd
        omega
      refine ⟨by rw [hl]; exact size1M (by decide), ?_⟩
      refine lc_dat (fun d => !intIn d (0 - m) m) id l (fun d hd => ⟨_, rfl, fun C' h => ?_, fun _ C' h => ?_⟩) ?_
      · walk_at "ck"
        exact use_pure (d, 0 - m, m) (hp.tup d hd) ⟨_, rfl, h⟩
      · walk_at "ck"
        exact h
      · walk_at "ck"
        rw [filter_empty]
        have e : nums (.tup l) m = l.all fun d => intIn d (0 - m) m := by
          rw [k_nums, decide_eq_true hl, Bool.true_and]
        rw [e] at q
        exact q
  all_goals
    walk_at "ck"
    exact q
/-! ### prices -/
def toT3 (d : Dt) : T3 := match d with
  | .tup [.int a, .int b, .int c] => ⟨a, b, c⟩
  | _ => ⟨0, 0, 0⟩
theorem toT3_d3 (t : T3) : toT3 (d3 t) = t := rfl
theorem intIn_true {d : Dt} {lo hi : Int} (h : intIn d lo hi = true) : ∃ i, d = .int i ∧ lo ≤ i ∧ i ≤ hi := by
  cases d with
  | int i =>
    rw [k_intIn, Bool.and_eq_true, decide_eq_true_eq, decide_eq_true_eq] at h
    exact ⟨i, rfl, h.1, h.2⟩
  | _ => cases h
theorem nums_true {d : Dt} {m : Int} (h : nums d m = true) : ∃ t, d = d3 t ∧ (-m ≤ t.a ∧ t.a ≤ m) ∧ (-m ≤ t.b ∧ t.b ≤ m) ∧ (-m ≤ t.c ∧ t.c ≤ m) := by
  cases d with
  | tup l =>
    rw [k_nums, Bool.and_eq_true, decide_eq_true_eq] at h
    obtain ⟨hl, h⟩ := h
    match l, hl, h with
    | [a, b, c], _, h =>
      simp only [List.all_cons, List.all_nil, Bool.and_true, Bool.and_eq_true] at h
      obtain ⟨i, rfl, i1, i2⟩ := intIn_true h.1
      obtain ⟨j, rfl, j1, j2⟩ := intIn_true h.2.1
      obtain ⟨k, rfl, k1, k2⟩ := intIn_true h.2.2
      exact ⟨⟨i, j, k⟩, rfl, by show -m ≤ i ∧ i ≤ m; omega, by show -m ≤ j ∧ j ≤ m; omega, by show -m ≤ k ∧ k ≤ m; omega⟩
  | _ => cases h
def corners (w : Int) : List (Int × Int) := [(0, 0), (1, 1), (w, 1), ((w + 1) / 2, (w + 1) / 2)] ++ (if w % 2 = 0 then [((w + 1) / 2 + 1, (w + 1) / 2)] else [])
theorem corners_len (w : Int) : 0 < (corners w).length ∧ (corners w).length ≤ 5 := by
  unfold corners
  split <;> simp
def S_corner_shapes {Ω : Type} : Spc Ω := pureS (ι := Int) (fun w => [.int w]) (fun w => 1 ≤ w ∧ w ≤ 1000) fun w => .lst ((corners w).map dS)
abbrev p_corner_shapes {Ω : Type} : DS Ω :=
  (wSeq (wSet 1 (wOp fDiv (wOp fAdd (wVar 0) (wC (.int 1))) (wC (.int 2))))
  (wSeq (wSet 2 (wL (wLst (wCons (wTup (wCons (wC (.int 0)) (wCons (wC (.int 0)) wNil))) (wCons (wTup (wCons (wC (.int 1)) (wCons (wC (.int 1)) wNil))) (wCons (wTup (wCons (wVar 0) (wCons (wC (.int 1)) wNil))) (wCons (wTup (wCons (wVar 1) (wCons (wVar 1) wNil))) wNil)))))))
  (wRet (wL (wOpL fAddL (wVar 2) (wL (wOpL fMulL (wL (wLst (wCons (wTup (wCons (wOp fAdd (wVar 1) (wC (.int 1))) (wCons (wVar 1) wNil))) wNil))) (wF fInt (wOp fEq (wOp fMod (wVar 0) (wC (.int 2))) (wC (.int 0)))))))))))
theorem m_corner_shapes {Ω : Type} : ∀ ds (w : Ω) C, S_corner_shapes.run ds w C → p_corner_shapes (endD C) (startD 3 ds) w := by
  rintro ds w C ⟨n, rfl, ⟨h1, h2⟩, q⟩
  replace q : C (.lst ((corners n).map dS)) w := q
  show p_corner_shapes _ [some (.dat (.int n)), none, none] _
  unfold p_corner_shapes
  walk_at "ck"
  refine ⟨divw60 (by decide) (by decide), ?_⟩
  walk_at "ck"
  have e : ((corners n).map dS) = [Dt.tup [.int 0, .int 0], .tup [.int 1, .int 1], .tup [.int n, .int 1], .tup [.int ((n + 1) / 2), .int ((n + 1) / 2)]] ++ (List.replicate (if decide (n % 2 = 0) = true then (1 : Int) else 0).toNat [Dt.tup [.int ((n + 1) / 2 + 1), .int ((n + 1) / 2)]]).flatten := by
    unfold corners
    by_cases hz : n % 2 = 0
    · rw [if_pos hz, if_pos (decide_eq_true hz)]
      rfl
    · rw [if_neg hz, if_neg (by simpa using hz)]
      rfl
  rw [e] at q
  refine ⟨by decide, by split <;> decide, by split <;> decide, by split <;> exact size1M (by decide), by split <;> exact size1M (by simp), ?_⟩
  exact q
/-- a room below 1 at some corner -/
def low (w : Int) (d : Dt) : Bool := (corners w).any fun s => decide (roomAt (toT3 d) s < 1)
abbrev two (a : Dt) (x : Str) : Dt := .tup [a, .str x]
def pricesErr (v : Dt) (w most : Int) : Dt := match v with
  | .tup l => if 1 ≤ (l.length : Int) ∧ (l.length : Int) ≤ most then
      match l.findIdx? fun d => !nums d 1000000 with
      | some k => two (.int (k : Nat)) (Str.ofString "price")
      | none => match l.findIdx? (low w) with
        | some k => two (.int (k : Nat)) (Str.ofString "room")
        | none => .non
    else two .non (Str.ofString "prices")
  | _ => two .non (Str.ofString "prices")
def S_prices_error {Ω : Type} : Spc Ω := pureS (ι := Dt × Int × Int) (fun i => [i.1, .int i.2.1, .int i.2.2]) (fun i => Pl i.1 ∧ (1 ≤ i.2.1 ∧ i.2.1 ≤ 1000) ∧ i.2.2 ≤ 100) fun i => pricesErr i.1 i.2.1 i.2.2
theorem bdS_corner {w : Int} {s : Int × Int} (h1 : 1 ≤ w) (h2 : w ≤ 1000) (h : s ∈ corners w) : BdS s := by
  unfold corners at h
  have go : s ∈ [((0 : Int), (0 : Int)), (1, 1), (w, 1), ((w + 1) / 2, (w + 1) / 2), ((w + 1) / 2 + 1, (w + 1) / 2)] := by
    rcases List.mem_append.mp h with h | h
    · simp only [List.mem_cons, List.not_mem_nil, or_false] at h ⊢
      rcases h with h | h | h | h <;> simp [h]
    · split at h
      · simp only [List.mem_cons, List.not_mem_nil, or_false] at h
        simp [h]
      · cases h
  simp only [List.mem_cons, List.not_mem_nil, or_false] at go
  rcases go with rfl | rfl | rfl | rfl | rfl <;> exact ⟨⟨by show _ < _; omega, by show _ < _; omega⟩, ⟨by show _ < _; omega, by show _ < _; omega⟩⟩
theorem findIdx_none_all {p : Dt → Bool} {l : List Dt} (h : (l.findIdx? fun d => !p d) = none) : ∀ d ∈ l, p d = true := by
  rw [List.findIdx?_eq_none_iff] at h
  intro d hd
  have := h d hd
  simpa using this
/-- the least of some rooms is below 1 just if one is -/
theorem least_low {α : Type} {f : α → Int} {l : List α} {m : Int} (hm : m ∈ l.map f) (hle : ∀ y ∈ l.map f, m ≤ y) : decide (m < 1) = l.any fun s => decide (f s < 1) := by
  cases h : l.any fun s => decide (f s < 1) with
  | true =>
    obtain ⟨s, hs, h2⟩ := List.any_eq_true.mp h
    have := hle (f s) (List.mem_map_of_mem hs)
    have := of_decide_eq_true h2
    exact decide_eq_true (by omega)
  | false =>
    obtain ⟨s, hs, rfl⟩ := List.mem_map.mp hm
    rw [List.any_eq_false] at h
    have := h s hs
    simpa using this
abbrev p_prices_error {Ω : Type} : DS Ω :=
  (wSeq (wIfS (wTOr (wTNot (wTV (wIsi "tuple" (wVar 0)))) (wTNot (wTV (wChain (fun i j => decide (i ≤ j)) (fun i j => decide (i ≤ j)) (wC (.int 1)) (wF fLen (wVar 0)) (wVar 2))))) (wRet (wTup (wCons (wC .non) (wCons (wC (.str (Str.ofString "prices"))) wNil)))) wNext)
  (wSeq (wFor (.many [3, 4]) (wiEnum (wVar 0)) (wIfS (wTNot (wTV (wCall S_are_numbers (wCons (wVar 4) (wCons (wC (.int 1000000)) wNil))))) (wRet (wTup (wCons (wVar 3) (wCons (wC (.str (Str.ofString "price"))) wNil)))) wNext))
  (wSeq (wFor (.many [3, 4]) (wiEnum (wVar 0)) (wIfS (wTV (wOp fLt (wF fMin1 (wL (wLc [5] (.one 5) (wiSeq (wCall S_corner_shapes (wCons (wVar 1) wNil))) wYes (wCall S_room_at (wCons (wVar 4) (wCons (wVar 5) wNil)))))) (wC (.int 1)))) (wRet (wTup (wCons (wVar 3) (wCons (wC (.str (Str.ofString "room"))) wNil)))) wNext))
  (wRet (wC .non)))))
theorem m_prices_error {Ω : Type} : ∀ ds (w : Ω) C, S_prices_error.run ds w C → p_prices_error (endD C) (startD 6 ds) w := by
  rintro ds w C ⟨⟨v, n, most⟩, rfl, ⟨hp, ⟨n1, n2⟩, hm⟩, q⟩
  replace hp : Pl v := hp
  replace n1 : 1 ≤ n := n1
  replace n2 : n ≤ 1000 := n2
  replace hm : most ≤ 100 := hm
  replace q : C (pricesErr v n most) w := q
  show p_prices_error _ [some (.dat v), some (.dat (.int n)), some (.dat (.int most)), none, none, none] _
  unfold p_prices_error
  cases v
  case opq => exact (pl_opq hp).elim
  case dic => exact (pl_dic hp).elim
  case ins => exact (pl_ins hp).elim
  case tup l =>
    have qb : (¬ (1 ≤ (l.length : Int) ∧ (l.length : Int) ≤ most)) → C (two .non (Str.ofString "prices")) w := fun z => by
      unfold pricesErr at q
      simp only [if_neg z] at q
      exact q
    walk_at "ck"
    refine ⟨_, _, rfl, rfl, ite2 (fun h1 => ?_) (fun h1 => ?_)⟩
    · have h1 := of_decide_eq_true h1
      refine ite2 (fun h2 => ?_) (fun h2 => ?_)
      · refine qb fun z => ?_
        simp [z.2] at h2
      · have h2 : (l.length : Int) ≤ most := by simpa using h2
        have hq : 1 ≤ (l.length : Int) ∧ (l.length : Int) ≤ most := ⟨h1, h2⟩
        unfold pricesErr at q
        simp only [if_pos hq] at q
        refine loop_find l (fun d => !nums d 1000000) (fun s => ∃ x3 x4, s = [some (.dat (.tup l)), some (.dat (.int n)), some (.dat (.int most)), x3, x4, none]) (fun i => C (two (.int (i : Nat)) (Str.ofString "price")) w) (fun i d sl hd hm hj => ?_) ⟨_, _, rfl⟩ (fun i hi => ?_) (fun hn s hs => ?_)
        · obtain ⟨x3, x4, rfl⟩ := hj
          refine ⟨_, rfl, fun N h3 h4 => ?_⟩
          walk_at "ck"
          refine use_pure (d, 1000000) (hp.tup d hm) ⟨_, rfl, ite2 (fun hd => ?_) (fun hd => ?_)⟩
          · exact h4 hd
          · exact h3 (by simpa using hd) _ ⟨_, _, rfl⟩
        · rw [hi] at q
          exact q
        · obtain ⟨x3, x4, rfl⟩ := hs
          rw [hn] at q
          have hall := findIdx_none_all hn
          walk_at "ck"
          refine loop_find l (low n) (fun s => ∃ x3 x4, s = [some (.dat (.tup l)), some (.dat (.int n)), some (.dat (.int most)), x3, x4, none]) (fun i => C (two (.int (i : Nat)) (Str.ofString "room")) w) (fun i d sl hd hm hj => ?_) ⟨_, _, rfl⟩ (fun i hi => ?_) (fun hn s hs => ?_)
          · obtain ⟨x3, x4, rfl⟩ := hj
            obtain ⟨t, rfl, t1, t2, t3⟩ := nums_true (hall d hm)
            have tb : Bd3 t := ⟨⟨by omega, by omega⟩, ⟨by omega, by omega⟩, ⟨by omega, by omega⟩⟩
            refine ⟨_, rfl, fun N h3 h4 => ?_⟩
            walk_at "ck"
            refine use_pure n ⟨n1, n2⟩ ?_
            walk_at "ck"
            refine ⟨size1M (by have := (corners_len n).2; omega), ?_⟩
            refine lc_map dS (fun s => .int (roomAt t s)) _ (fun s hs => ⟨_, rfl, fun C' h => ?_⟩) ?_
            · walk_at "ck"
              exact use_pure (t, s) ⟨tb, bdS_corner n1 n2 hs⟩ h
            · refine ⟨(corners n).map (roomAt t), by rw [List.map_map]; rfl, by rw [List.length_map]; exact (corners_len n).1, fun m hm hle => ?_⟩
              have e := least_low hm hle
              have e2 : decide (m < 1) = low n (d3 t) := e
              walk_at "ck"
              rw [e2]
              refine ite2 (fun hd => ?_) (fun hd => ?_)
              · exact h4 hd
              · exact h3 (by simpa using hd) _ ⟨_, _, rfl⟩
          · rw [hi] at q
            exact q
          · obtain ⟨x3, x4, rfl⟩ := hs
            rw [hn] at q
            walk_at "ck"
            exact q
    · refine qb fun z => ?_
      simp [z.1] at h1
  all_goals
    walk_at "ck"
    exact q
end Ck
namespace Ck
open PySem PySem.Spec PyProof.Rows L2
local macro_rules | `(tactic| walk_at "ck") => `(tactic| try simp only [wNext, wBrk, wCnt, wSeq, wRet, wRetN, wSet, wOwn, wDrop, wUnp, wPar, wIfS, wApp, wExt, wSetIx, wAug, wFrz, wFor, k_var, k_vk1, k_vk2, k_par, wC, wL, wOp, wOpL, wF, wFL, wNil, wCons, wTup, wLst, wTV, wTAnd, wTOr, wTNot, wAnd, wOr, wNot, wIfx, wIsN, wNotN, wChain, wO0, wO1, wSl, wCall, wIsi, wLr1, wLr2, wNeg, wLc, wYes, wiSeq, wiR1, wiR2, wiEnum, wiZip, noOwnB, wipeD, wEmp, wListZip, wSortSet, wRevL, wRevT, wOneB, k_mulT, k_add1, k_add2, k_add3, k_add4, k_addL, k_sub, k_mul1, k_mul2, k_mulL, k_div, k_mod, k_pow, k_cmp, k_eq, k_ne, k_ea1, k_ea2, k_ea3, k_ea4, k_in1, k_in2, k_in3, k_in4, k_ix1, k_ix2, k_ix3, k_sl1, k_sl2, k_len1, k_len2, k_len3, k_int1, k_int2, k_abs, k_tuple1, k_tuple2, k_list1, k_list2, k_min2, k_max2, k_non_non, k_ty_int_non, k_ty_bool_non, k_ty_tuple_non, k_ty_str_non, k_ty_list_non, k_non_bl, k_ty_int_bl, k_ty_bool_bl, k_ty_tuple_bl, k_ty_str_bl, k_ty_list_bl, k_non_int, k_ty_int_int, k_ty_bool_int, k_ty_tuple_int, k_ty_str_int, k_ty_list_int, k_non_str, k_ty_int_str, k_ty_bool_str, k_ty_tuple_str, k_ty_str_str, k_ty_list_str, k_non_tup, k_ty_int_tup, k_ty_bool_tup, k_ty_tuple_tup, k_ty_str_tup, k_ty_list_tup, k_non_lst, k_ty_int_lst, k_ty_bool_lst, k_ty_tuple_lst, k_ty_str_lst, k_ty_list_lst, k_non_emp, k_ty_int_emp, k_ty_bool_emp, k_ty_tuple_emp, k_ty_str_emp, k_ty_list_emp, k_seq_non, k_seq_bl, k_seq_int, k_seq_str, k_seq_tup, k_seq_lst, k_seq_emp, k_sz0, k_sz1, k_sz2, k_sz3, k_sz4, k_sz5, k_sz6, k_sz7, k_sz8, k_sz9, k_sz10, k_sz11, k_sz12, k_sz13, k_sz14, k_sz15, k_sz16, k_sz17, k_sz18, k_sz19, k_sz20, k_sz21, k_sz22, k_sz23, k_at0, k_at1, k_at2, k_at3, k_iteT, k_iteF, k_bt1, k_bt2, k_sa0, k_sa1, k_endn, k_endr, List.getElem?_cons_succ, List.getElem?_cons_zero, List.set_cons_succ, List.set_cons_zero, List.length_cons, List.length_nil, List.length_map, List.all_cons, List.all_nil, Nat.reduceAdd, Nat.zero_add, Bool.and_true, Bool.and_self, Option.some.injEq, Dt.int.injEq, Dt.bl.injEq, Dt.str.injEq, Dt.tup.injEq, Dt.lst.injEq, Sv.dat.injEq, Sv.own.injEq, exists_eq_left', exists_eq_left, exists_eq_right, exists_eq', exists_eq, if_true, if_false, Bool.not_false, Bool.not_true, Bool.not_not, true_and, and_true, false_and, and_false, exists_const, reduceCtorEq])

/-! ### tests, rules, books -/
def areTests (v : Dt) : Bool := match v with
  | .tup l => decide (l.length ≤ 5) && l.all fun d => nums d 10000000
  | _ => false
theorem k_areTests {l : List Dt} : areTests (.tup l) = (decide (l.length ≤ 5) && l.all fun d => nums d 10000000) := rfl
def S_are_tests {Ω : Type} : Spc Ω := pureS (ι := Dt) (fun i => [i]) (fun i => Pl i) fun i => .bl (areTests i)
def S_law_are_tests {Ω : Type} : Spc Ω := S_are_tests
def isRule (v : Dt) (f : Int) : Bool := match v with
  | .tup [a, b] => areTests a && intIn b 0 (f - 1)
  | _ => false
theorem k_isRule {a b : Dt} {f : Int} : isRule (.tup [a, b]) f = (areTests a && intIn b 0 (f - 1)) := rfl
theorem isRule_len {l : List Dt} {f : Int} (h : l.length ≠ 2) : isRule (.tup l) f = false := by
  match l, h with
  | [], _ => rfl
  | [_], _ => rfl
  | [_, _], h => exact absurd rfl h
  | _ :: _ :: _ :: _, _ => rfl
def S_is_rule {Ω : Type} : Spc Ω := pureS (ι := Dt × Int) (fun i => [i.1, .int i.2]) (fun i => Pl i.1) fun i => .bl (isRule i.1 i.2)
def S_law_is_rule {Ω : Type} : Spc Ω := S_is_rule
abbrev p_are_tests {Ω : Type} : DS Ω :=
  (wSeq (wIfS (wTOr (wTNot (wTV (wIsi "tuple" (wVar 0)))) (wTV (wOp fGt (wF fLen (wVar 0)) (wC (.int 5))))) (wRet (wC (.bl false))) wNext)
  (wRet (wOp fEq (wL (wLc [1] (.one 1) (wiSeq (wVar 0)) (wTNot (wTV (wCall S_are_numbers (wCons (wVar 1) (wCons (wC (.int 10000000)) wNil))))) (wVar 1))) (wL (wLst wNil)))))
abbrev p_is_rule {Ω : Type} : DS Ω :=
  (wSeq (wIfS (wTOr (wTNot (wTV (wIsi "tuple" (wVar 0)))) (wTV (wOp fNe (wF fLen (wVar 0)) (wC (.int 2))))) (wRet (wC (.bl false))) wNext)
  (wRet (wAnd (wCall S_are_tests (wCons (wOp fIx (wVar 0) (wC (.int 0))) wNil)) (wCall S_is_integer (wCons (wOp fIx (wVar 0) (wC (.int 1))) (wCons (wC (.int 0)) (wCons (wOp fSub (wVar 1) (wC (.int 1))) wNil)))))))
theorem m_are_tests {Ω : Type} : ∀ ds (w : Ω) C, S_are_tests.run ds w C → p_are_tests (endD C) (startD 2 ds) w := by
  rintro ds w C ⟨v, rfl, hp, q⟩
  replace hp : Pl v := hp
  replace q : C (.bl (areTests v)) w := q
  show p_are_tests _ [some (.dat v), none] _
  unfold p_are_tests
  cases v
  case opq => exact (pl_opq hp).elim
  case dic => exact (pl_dic hp).elim
  case ins => exact (pl_ins hp).elim
  case tup l =>
    walk_at "ck"
    refine ite2 (fun hd => ?_) (fun hd => ?_)
    · rw [k_areTests, decide_eq_false (fun z => by simp at hd; omega), Bool.false_and] at q
      exact q
    · have hl : l.length ≤ 5 := by simp at hd; omega
      refine ⟨size1M (by omega), lc_dat (fun d => !nums d 10000000) id l (fun d hd => ⟨_, rfl, fun C' h => ?_, fun _ C' h => ?_⟩) ?_⟩
      · walk_at "ck"
        exact use_pure (d, 10000000) (hp.tup d hd) ⟨_, rfl, h⟩
      · walk_at "ck"
        exact h
      · walk_at "ck"
        rw [filter_empty]
        rw [k_areTests, decide_eq_true hl, Bool.true_and] at q
        exact q
  all_goals
    walk_at "ck"
    exact q
theorem m_is_rule {Ω : Type} : ∀ ds (w : Ω) C, S_is_rule.run ds w C → p_is_rule (endD C) (startD 2 ds) w := by
  rintro ds w C ⟨⟨v, f⟩, rfl, hp, q⟩
  replace hp : Pl v := hp
  replace q : C (.bl (isRule v f)) w := q
  show p_is_rule _ [some (.dat v), some (.dat (.int f))] _
  unfold p_is_rule
  cases v
  case opq => exact (pl_opq hp).elim
  case dic => exact (pl_dic hp).elim
  case ins => exact (pl_ins hp).elim
  case tup l =>
    walk_at "ck"
    refine ite2 (fun hd => ?_) (fun hd => ?_)
    · rw [isRule_len fun z => by simp [z] at hd] at q
      exact q
    · match l, hp, q, hd with
      | [a, b], hp, q, _ =>
        walk_at "ck"
        refine use_pure a (hp.tup a (by simp)) ⟨_, rfl, ite2 (fun h => ?_) (fun h => ?_)⟩
        · refine use_pure (b, 0, f - 1) (hp.tup b (by simp)) ?_
          rw [k_isRule, h, Bool.true_and] at q
          exact q
        · rw [k_isRule, Bool.eq_false_iff.mpr h, Bool.false_and] at q
          exact q
      | [], _, _, hd => simp at hd
      | [_], _, _, hd => simp at hd
      | _ :: _ :: _ :: _, _, _, hd => exact absurd (by simp; omega) hd
  all_goals
    walk_at "ck"
    exact q
def intD (d : Dt) : Int := match d with
  | .int i => i
  | _ => 0
def lenD (d : Dt) : Int := match d with
  | .tup l => l.length
  | _ => 0
/-- behind the prices -/
def rulesErr (rs last : Dt) (n : Int) : Dt := match rs with
  | .tup l => if l.length ≤ 10 then
      match l.findIdx? fun d => !isRule d n with
      | some k => two (.int (k : Nat)) (Str.ofString "rule")
      | none => if intIn last 0 (n - 1) = true then .non else two .non (Str.ofString "last")
    else two .non (Str.ofString "rules")
  | _ => two .non (Str.ofString "rules")
def bookErr (v : Dt) : Dt := match v with
  | .tup [w, ps, rs, last] => if intIn w 1 1000 = true then
      if isNon (pricesErr ps (intD w) 6) = some true then rulesErr rs last (lenD ps) else pricesErr ps (intD w) 6
    else two .non (Str.ofString "width")
  | _ => two .non (Str.ofString "book")
theorem k_bookErr {w ps rs last : Dt} : bookErr (.tup [w, ps, rs, last]) = if intIn w 1 1000 = true then
      if isNon (pricesErr ps (intD w) 6) = some true then rulesErr rs last (lenD ps) else pricesErr ps (intD w) 6
    else two .non (Str.ofString "width") := rfl
theorem bookErr_len {l : List Dt} (h : l.length ≠ 4) : bookErr (.tup l) = two .non (Str.ofString "book") := by
  match l, h with
  | [], _ => rfl
  | [_], _ => rfl
  | [_, _], _ => rfl
  | [_, _, _], _ => rfl
  | [_, _, _, _], h => exact absurd rfl h
  | _ :: _ :: _ :: _ :: _ :: _, _ => rfl
def S_book_error {Ω : Type} : Spc Ω := pureS (ι := Dt) (fun i => [i]) (fun i => Pl i) fun i => bookErr i
def S_law_book_error {Ω : Type} : Spc Ω := S_book_error
theorem pricesErr_cases (v : Dt) (w m : Int) : pricesErr v w m = .non ∨ ∃ a x, pricesErr v w m = two a x ∧ (a = .non ∨ ∃ k : Nat, a = .int k) := by
  unfold pricesErr
  cases v <;> try exact .inr ⟨_, _, rfl, .inl rfl⟩
  case tup l =>
    dsimp only
    split
    · split
      · exact .inr ⟨_, _, rfl, .inr ⟨_, rfl⟩⟩
      · split
        · exact .inr ⟨_, _, rfl, .inr ⟨_, rfl⟩⟩
        · exact .inl rfl
    · exact .inr ⟨_, _, rfl, .inl rfl⟩
theorem pricesErr_none {v : Dt} {w m : Int} (h : pricesErr v w m = .non) : ∃ l, v = .tup l ∧ 1 ≤ (l.length : Int) ∧ (l.length : Int) ≤ m ∧ (∀ d ∈ l, nums d 1000000 = true) ∧ ∀ d ∈ l, low w d = false := by
  unfold pricesErr at h
  cases v <;> try (exact absurd h (by intro z; cases z))
  case tup l =>
    dsimp only at h
    split at h
    · rename_i hc
      split at h
      · cases h
      · rename_i h1
        split at h
        · cases h
        · rename_i h2
          refine ⟨l, rfl, hc.1, hc.2, findIdx_none_all h1, fun d hd => ?_⟩
          rw [List.findIdx?_eq_none_iff] at h2
          simpa using h2 d hd
    · cases h
abbrev p_book_error {Ω : Type} : DS Ω :=
  (wSeq (wIfS (wTOr (wTNot (wTV (wIsi "tuple" (wVar 0)))) (wTV (wOp fNe (wF fLen (wVar 0)) (wC (.int 4))))) (wRet (wTup (wCons (wC .non) (wCons (wC (.str (Str.ofString "book"))) wNil)))) wNext)
  (wSeq (wUnp [1, 2, 3, 4] (wVar 0))
  (wSeq (wIfS (wTNot (wTV (wCall S_is_width (wCons (wVar 1) wNil)))) (wRet (wTup (wCons (wC .non) (wCons (wC (.str (Str.ofString "width"))) wNil)))) wNext)
  (wSeq (wSet 5 (wCall S_prices_error (wCons (wVar 2) (wCons (wVar 1) (wCons (wC (.int 6)) wNil)))))
  (wSeq (wIfS (wTV (wNotN (wVar 5))) (wRet (wVar 5)) wNext)
  (wSeq (wIfS (wTOr (wTNot (wTV (wIsi "tuple" (wVar 3)))) (wTV (wOp fGt (wF fLen (wVar 3)) (wC (.int 10))))) (wRet (wTup (wCons (wC .non) (wCons (wC (.str (Str.ofString "rules"))) wNil)))) wNext)
  (wSeq (wFor (.many [6, 7]) (wiEnum (wVar 3)) (wIfS (wTNot (wTV (wCall S_is_rule (wCons (wVar 7) (wCons (wF fLen (wVar 2)) wNil))))) (wRet (wTup (wCons (wVar 6) (wCons (wC (.str (Str.ofString "rule"))) wNil)))) wNext))
  (wRet (wIfx (wTV (wCall S_is_integer (wCons (wVar 4) (wCons (wC (.int 0)) (wCons (wOp fSub (wF fLen (wVar 2)) (wC (.int 1))) wNil))))) (wC .non) (wTup (wCons (wC .non) (wCons (wC (.str (Str.ofString "last"))) wNil))))))))))))
theorem m_book_error {Ω : Type} : ∀ ds (w : Ω) C, S_book_error.run ds w C → p_book_error (endD C) (startD 8 ds) w := by
  rintro ds w C ⟨v, rfl, hp, q⟩
  replace hp : Pl v := hp
  replace q : C (bookErr v) w := q
  show p_book_error _ [some (.dat v), none, none, none, none, none, none, none] _
  unfold p_book_error
  cases v
  case opq => exact (pl_opq hp).elim
  case dic => exact (pl_dic hp).elim
  case ins => exact (pl_ins hp).elim
  case tup l =>
    walk_at "ck"
    refine ite2 (fun hd => ?_) (fun hd => ?_)
    · rw [bookErr_len fun z => by simp [z] at hd] at q
      exact q
    · match l, hp, q, hd with
      | [], _, _, hd => simp at hd
      | [_], _, _, hd => simp at hd
      | [_, _], _, _, hd => simp at hd
      | [_, _, _], _, _, hd => simp at hd
      | _ :: _ :: _ :: _ :: _ :: _, _, _, hd => exact absurd (by simp; omega) hd
      | [wd, ps, rs, last], hp, q, hx =>
        clear hx
        rw [k_bookErr] at q
        walk_at "ck"
        refine use_pure wd (hp.tup wd (by simp)) ⟨_, rfl, ite2 (fun h => ?_) (fun h => ?_)⟩
        · rw [if_neg (by simpa using h)] at q
          exact q
        · have h : intIn wd 1 1000 = true := by simpa using h
          rw [if_pos h] at q
          obtain ⟨n, rfl, n1, n2⟩ := intIn_true h
          refine use_pure (ps, n, 6) ⟨hp.tup ps (by simp), ⟨n1, n2⟩, by show (6 : Int) ≤ 100; decide⟩ ?_
          walk_at "ck"
          by_cases hn : pricesErr ps n 6 = .non
          · have q' : C (rulesErr rs last (lenD ps)) w := by
              have e : isNon (pricesErr ps (intD (.int n)) 6) = some true := by
                show isNon (pricesErr ps n 6) = some true
                rw [hn]
                rfl
              rw [if_pos e] at q
              exact q
            obtain ⟨pl, rfl, p1, p2, p3, p4⟩ := pricesErr_none hn
            refine ⟨true, by rw [hn]; rfl, ?_⟩
            walk_at "ck"
            have hpr : Pl rs := hp.tup rs (by simp)
            cases rs
            case opq => exact (pl_opq hpr).elim
            case dic => exact (pl_dic hpr).elim
            case ins => exact (pl_ins hpr).elim
            case tup rl =>
              walk_at "ck"
              unfold rulesErr at q'
              refine ite2 (fun hd => ?_) (fun hd => ?_)
              · dsimp only at q'
                rw [if_neg fun z => by simp at hd; omega] at q'
                exact q'
              · dsimp only at q'
                rw [if_pos (by simp at hd; omega)] at q'
                refine loop_find rl (fun d => !isRule d (pl.length : Nat)) (fun s => ∃ x5 x6 x7, s = [some (.dat (.tup [.int n, .tup pl, .tup rl, last])), some (.dat (.int n)), some (.dat (.tup pl)), some (.dat (.tup rl)), some (.dat last), x5, x6, x7]) (fun i => C (two (.int (i : Nat)) (Str.ofString "rule")) w) (fun i d sl hd hm hj => ?_) ⟨_, _, _, rfl⟩ (fun i hi => ?_) (fun hn s hs => ?_)
                · obtain ⟨x5, x6, x7, rfl⟩ := hj
                  refine ⟨_, rfl, fun N h3 h4 => ?_⟩
                  walk_at "ck"
                  refine use_pure (d, (pl.length : Int)) (hpr.tup d hm) ⟨_, rfl, ite2 (fun hd => ?_) (fun hd => ?_)⟩
                  · exact h4 hd
                  · exact h3 (by simpa using hd) _ ⟨_, _, _, rfl⟩
                · have hi' : (rl.findIdx? fun d => !isRule d (lenD (.tup pl))) = some i := hi
                  rw [hi'] at q'
                  exact q'
                · obtain ⟨x5, x6, x7, rfl⟩ := hs
                  have hn' : (rl.findIdx? fun d => !isRule d (lenD (.tup pl))) = none := hn
                  rw [hn'] at q'
                  walk_at "ck"
                  refine use_pure (last, 0, (pl.length : Int) - 1) (hp.tup last (by simp)) ⟨_, rfl, ite2 (fun hd => ?_) (fun hd => ?_)⟩
                  · have hd : intIn last 0 (lenD (.tup pl) - 1) = true := hd
                    dsimp only at q'
                    rw [if_pos hd] at q'
                    exact q'
                  · have hd : ¬ intIn last 0 (lenD (.tup pl) - 1) = true := hd
                    dsimp only at q'
                    rw [if_neg hd] at q'
                    exact q'
            all_goals
              walk_at "ck"
              exact q'
          · rcases pricesErr_cases ps n 6 with z | ⟨a, x, z, _⟩
            · exact absurd z hn
            · have e : ¬ isNon (pricesErr ps (intD (.int n)) 6) = some true := by
                show ¬ isNon (pricesErr ps n 6) = some true
                rw [z]
                intro h
                cases h
              rw [if_neg e] at q
              refine ⟨false, by rw [z]; rfl, ?_⟩
              walk_at "ck"
              exact q
  all_goals
    walk_at "ck"
    exact q
end Ck
namespace Ck
open PySem PySem.Spec PyProof.Rows L2
local macro_rules | `(tactic| walk_at "ck") => `(tactic| try simp only [wNext, wBrk, wCnt, wSeq, wRet, wRetN, wSet, wOwn, wDrop, wUnp, wPar, wIfS, wApp, wExt, wSetIx, wAug, wFrz, wFor, k_var, k_vk1, k_vk2, k_par, wC, wL, wOp, wOpL, wF, wFL, wNil, wCons, wTup, wLst, wTV, wTAnd, wTOr, wTNot, wAnd, wOr, wNot, wIfx, wIsN, wNotN, wChain, wO0, wO1, wSl, wCall, wIsi, wLr1, wLr2, wNeg, wLc, wYes, wiSeq, wiR1, wiR2, wiEnum, wiZip, noOwnB, wipeD, k_add1, k_add2, k_add3, k_add4, k_addL, k_sub, k_mul1, k_mul2, k_mulL, k_div, k_mod, k_pow, k_cmp, k_eq, k_ne, k_ea1, k_ea2, k_ea3, k_ea4, k_in1, k_in2, k_in3, k_in4, k_ix1, k_ix2, k_ix3, k_sl1, k_sl2, k_len1, k_len2, k_len3, k_int1, k_int2, k_abs, k_tuple1, k_tuple2, k_list1, k_list2, k_min2, k_max2, k_non_non, k_ty_int_non, k_ty_bool_non, k_ty_tuple_non, k_ty_str_non, k_ty_list_non, k_non_bl, k_ty_int_bl, k_ty_bool_bl, k_ty_tuple_bl, k_ty_str_bl, k_ty_list_bl, k_non_int, k_ty_int_int, k_ty_bool_int, k_ty_tuple_int, k_ty_str_int, k_ty_list_int, k_non_str, k_ty_int_str, k_ty_bool_str, k_ty_tuple_str, k_ty_str_str, k_ty_list_str, k_non_tup, k_ty_int_tup, k_ty_bool_tup, k_ty_tuple_tup, k_ty_str_tup, k_ty_list_tup, k_non_lst, k_ty_int_lst, k_ty_bool_lst, k_ty_tuple_lst, k_ty_str_lst, k_ty_list_lst, k_non_emp, k_ty_int_emp, k_ty_bool_emp, k_ty_tuple_emp, k_ty_str_emp, k_ty_list_emp, k_seq_non, k_seq_bl, k_seq_int, k_seq_str, k_seq_tup, k_seq_lst, k_seq_emp, k_sz0, k_sz1, k_sz2, k_sz3, k_sz4, k_sz5, k_sz6, k_sz7, k_sz8, k_sz9, k_sz10, k_sz11, k_sz12, k_sz13, k_sz14, k_sz15, k_sz16, k_sz17, k_sz18, k_sz19, k_sz20, k_sz21, k_sz22, k_sz23, k_at0, k_at1, k_at2, k_at3, k_iteT, k_iteF, k_bt1, k_bt2, k_sa0, k_sa1, k_endn, k_endr, List.getElem?_cons_succ, List.getElem?_cons_zero, List.set_cons_succ, List.set_cons_zero, List.length_cons, List.length_nil, List.length_map, List.all_cons, List.all_nil, Nat.reduceAdd, Nat.zero_add, Bool.and_true, Bool.and_self, Option.some.injEq, Dt.int.injEq, Dt.bl.injEq, Dt.str.injEq, Dt.tup.injEq, Dt.lst.injEq, Sv.dat.injEq, Sv.own.injEq, exists_eq_left', exists_eq_left, exists_eq_right, exists_eq', exists_eq, true_and, and_true, false_and, and_false, exists_const, reduceCtorEq])
/-! ### what the laws draw -/
/-- a shape of a width -/
def IsSh (w : Int) (s : Int × Int) : Prop := (s.1 = 0 ∧ s.2 = 0) ∨ (1 ≤ s.2 ∧ s.2 ≤ s.1 ∧ s.2 ≤ w - s.1 + 1)
/-- a price of a width as it is drawn -/
structure PriceOk (w B : Int) (t : T3) : Prop where
  a : -B ≤ t.a ∧ t.a ≤ B
  b : -B ≤ t.b ∧ t.b ≤ B
  c : -B ≤ t.c ∧ t.c ≤ B
  room : ∀ s, IsSh w s → 1 ≤ roomAt t s
def TestOk (t : T3) : Prop := (-10000000 ≤ t.a ∧ t.a ≤ 10000000) ∧ (-10000000 ≤ t.b ∧ t.b ≤ 10000000) ∧ (-10000000 ≤ t.c ∧ t.c ≤ 10000000)
structure BookOk (b : Book) : Prop where
  w : 1 ≤ b.w ∧ b.w ≤ 1000
  ps : 1 ≤ b.ps.length ∧ b.ps.length ≤ 6
  pr : ∀ t ∈ b.ps, PriceOk b.w 1000000 t
  rs : b.rs.length ≤ 10
  ts : ∀ r ∈ b.rs, r.ts.length ≤ 5 ∧ (∀ t ∈ r.ts, TestOk t) ∧ 0 ≤ r.f ∧ r.f < b.ps.length
  last : 0 ≤ b.last ∧ b.last < b.ps.length
def S_law_price : Spc Dw := drawS (ι := Int) (fun w => [.int w]) (fun w => 1 ≤ w ∧ w ≤ 1000) (fun _ => 4) (fun w d => ∃ t, d = d3 t ∧ PriceOk w (12 + 4 * w) t)
/-- how many prices at most, by the width's bound: most is the last argument -/
def S_law_prices : Spc Dw := drawS (ι := Int × Int) (fun i => [.int i.1, .int i.2]) (fun i => 1 ≤ i.1 ∧ i.1 ≤ 1000 ∧ 1 ≤ i.2 ∧ i.2 ≤ 6) (fun _ => 26)
  (fun i d => ∃ ps : List T3, d = .tup (ps.map d3) ∧ 1 ≤ ps.length ∧ (ps.length : Int) ≤ i.2 ∧ ∀ t ∈ ps, PriceOk i.1 1000000 t)
def S_law_some_shape : Spc Dw := drawS (ι := Int) (fun w => [.int w]) (fun w => 1 ≤ w ∧ w ≤ 1000) (fun _ => 2) (fun w d => ∃ s, d = dS s ∧ IsSh w s)
def S_law_test : Spc Dw := drawS (ι := Int) (fun w => [.int w]) (fun w => 1 ≤ w ∧ w ≤ 1000) (fun _ => 6) (fun w d => ∃ t, d = d3 t ∧ TestOk t)
def S_law_tests : Spc Dw := drawS (ι := Int) (fun w => [.int w]) (fun w => 1 ≤ w ∧ w ≤ 1000) (fun _ => 31) (fun w d => ∃ ts : List T3, d = .tup (ts.map d3) ∧ ts.length ≤ 5 ∧ ∀ t ∈ ts, TestOk t)
def S_law_book : Spc Dw := drawS (ι := Int) (fun w => [.int w]) (fun w => 1 ≤ w ∧ w ≤ 1000) (fun _ => 200) (fun w d => ∃ b : Book, d = dB b ∧ b.w = w ∧ BookOk b ∧ b.ps.length ≤ 4 ∧ b.rs.length ≤ 5)
def S_law_do_hold {Ω : Type} : Spc Ω := pureS (ι := List T3 × Int × Int) (fun i => [.tup (i.1.map d3), dS i.2]) (fun i => (∀ t ∈ i.1, Bd3 t) ∧ BdS i.2 ∧ i.1.length ≤ 1000) fun i => .bl (holdB i.1 i.2)
def SmallB (b : Book) : Prop := b.rs.length ≤ 1000 ∧ ∀ r ∈ b.rs, r.ts.length ≤ 1000
def S_law_decider {Ω : Type} : Spc Ω := pureS (ι := Book × Int × Int) (fun i => [dB i.1, dS i.2]) (fun i => BookBd i.1 ∧ BdS i.2 ∧ SmallB i.1) fun i => .int (decider i.1.rs i.2)
def S_law_kept {Ω : Type} : Spc Ω := pureS (ι := Book × Int × Int) (fun i => [dB i.1, dS i.2]) (fun i => BookBd i.1 ∧ BdS i.2 ∧ SmallB i.1) fun i => .int (kept i.1 i.2)
def S_law_room {Ω : Type} : Spc Ω := S_room_at
abbrev p_law_one : DS Dw :=
  (wRet (wOp fIx (wVar 1) (wCall S_law_draw (wCons (wVar 0) (wCons (wF fLen (wVar 1)) wNil)))))
abbrev p_law_price : DS Dw :=
  (wSeq (wUnp [2, 3, 4, 5] (wTup (wCons (wCall S_law_draw (wCons (wVar 0) (wCons (wC (.int 6)) wNil))) (wCons (wOp fAdd (wC (.int 1)) (wCall S_law_draw (wCons (wVar 0) (wCons (wC (.int 9)) wNil)))) (wCons (wCall S_law_draw (wCons (wVar 0) (wCons (wC (.int 5)) wNil))) (wCons (wCall S_law_draw (wCons (wVar 0) (wCons (wC (.int 7)) wNil))) wNil))))))
  (wSeq (wIfS (wTV (wOp fLt (wVar 2) (wC (.int 3)))) (wRet (wOp fIx (wL (wLst (wCons (wTup (wCons (wVar 3) (wCons (wVar 4) (wCons (wC (.int 0)) wNil)))) (wCons (wTup (wCons (wOp fAdd (wVar 3) (wOp fDiv (wVar 1) (wOp fAdd (wC (.int 1)) (wVar 4)))) (wCons (wC (.int 0)) (wCons (wC (.int 0)) wNil)))) (wCons (wTup (wCons (wVar 3) (wCons (wC (.int 0)) (wCons (wVar 5) wNil)))) wNil))))) (wVar 2))) wNext)
  (wSeq (wIfS (wTV (wOp fEq (wVar 2) (wC (.int 3)))) (wRet (wTup (wCons (wOp fAdd (wVar 3) (wOp fMul (wVar 4) (wVar 1))) (wCons (wOp fSub (wC (.int 0)) (wVar 4)) (wCons (wC (.int 0)) wNil))))) wNext)
  (wRet (wIfx (wTV (wOp fEq (wVar 2) (wC (.int 4)))) (wTup (wCons (wVar 3) (wCons (wVar 4) (wCons (wVar 5) wNil)))) (wTup (wCons (wOp fAdd (wVar 3) (wOp fMul (wVar 5) (wOp fDiv (wOp fAdd (wVar 1) (wC (.int 1))) (wC (.int 2))))) (wCons (wVar 4) (wCons (wOp fSub (wC (.int 0)) (wVar 5)) wNil)))))))))
abbrev p_law_prices : DS Dw :=
  (wSeq (wSet 3 (wCall S_law_one (wCons (wVar 0) (wCons (wL (wLst (wCons (wC (.int 1)) (wCons (wC (.int 1)) (wCons (wC (.int 1)) (wCons (wC (.int 7)) (wCons (wIfx (wTV (wOp fLt (wVar 1) (wC (.int 200)))) (wC (.int 900)) (wC (.int 90))) wNil))))))) wNil))))
  (wSeq (wOwn 4 (wLst wNil))
  (wSeq (wFor (.one 5) (wiR1 (wOp fAdd (wC (.int 1)) (wCall S_law_draw (wCons (wVar 0) (wCons (wVar 2) wNil))))) (wApp 4 (wF fTuple (wL (wLc [6] (.one 6) (wiSeq (wCall S_law_price (wCons (wVar 0) (wCons (wVar 1) wNil)))) wYes (wOp fMul (wVar 3) (wVar 6)))))))
  (wRet (wF fTuple (wVar 4))))))
abbrev p_law_some_shape : DS Dw :=
  (wSeq (wSet 2 (wCall S_law_draw (wCons (wVar 0) (wCons (wOp fAdd (wVar 1) (wC (.int 1))) wNil))))
  (wRet (wIfx (wTV (wOp fGt (wVar 2) (wC (.int 0)))) (wTup (wCons (wVar 2) (wCons (wOp fAdd (wC (.int 1)) (wCall S_law_draw (wCons (wVar 0) (wCons (wOp fMin2 (wVar 2) (wOp fAdd (wOp fSub (wVar 1) (wVar 2)) (wC (.int 1)))) wNil)))) wNil))) (wTup (wCons (wC (.int 0)) (wCons (wC (.int 0)) wNil))))))
abbrev p_law_test : DS Dw :=
  (wSeq (wSet 2 (wCall S_law_one (wCons (wVar 0) (wCons (wL (wLst (wCons (wC (.int 1)) (wCons (wC (.int 1)) (wCons (wC (.int 2)) (wCons (wC (.int 5)) (wCons (wC (.int 1000)) wNil))))))) wNil))))
  (wSeq (wPar 3 4 (wCons (wOp fSub (wCall S_law_draw (wCons (wVar 0) (wCons (wOp fAdd (wOp fMul (wC (.int 2)) (wVar 2)) (wC (.int 1))) wNil))) (wVar 2)) (wCons (wOp fSub (wCall S_law_draw (wCons (wVar 0) (wCons (wOp fAdd (wOp fMul (wC (.int 2)) (wVar 2)) (wC (.int 1))) wNil))) (wVar 2)) wNil)))
  (wSeq (wUnp [5, 6] (wCall S_law_some_shape (wCons (wVar 0) (wCons (wVar 1) wNil))))
  (wRet (wTup (wCons (wVar 3) (wCons (wVar 4) (wCons (wOp fSub (wOp fAdd (wOp fAdd (wOp fMul (wVar 3) (wVar 5)) (wOp fMul (wVar 4) (wVar 6))) (wCall S_law_draw (wCons (wVar 0) (wCons (wC (.int 3)) wNil)))) (wC (.int 1))) wNil))))))))
abbrev p_law_tests : DS Dw :=
  (wRet (wF fTuple (wL (wLc [2] (.one 2) (wiR1 (wCall S_law_one (wCons (wVar 0) (wCons (wL (wLst (wCons (wC (.int 0)) (wCons (wC (.int 1)) (wCons (wC (.int 1)) (wCons (wC (.int 1)) (wCons (wC (.int 1)) (wCons (wC (.int 2)) (wCons (wC (.int 2)) (wCons (wC (.int 3)) (wCons (wC (.int 5)) wNil))))))))))) wNil)))) wYes (wCall S_law_test (wCons (wVar 0) (wCons (wVar 1) wNil)))))))
abbrev p_law_book : DS Dw :=
  (wSeq (wSet 2 (wCall S_law_prices (wCons (wVar 0) (wCons (wVar 1) (wCons (wC (.int 4)) wNil)))))
  (wSeq (wSet 3 (wL (wLc [4] (.one 4) (wiR1 (wCall S_law_draw (wCons (wVar 0) (wCons (wC (.int 6)) wNil)))) wYes (wTup (wCons (wCall S_law_tests (wCons (wVar 0) (wCons (wVar 1) wNil))) (wCons (wCall S_law_draw (wCons (wVar 0) (wCons (wF fLen (wVar 2)) wNil))) wNil))))))
  (wRet (wTup (wCons (wVar 1) (wCons (wVar 2) (wCons (wF fTuple (wVar 3)) (wCons (wCall S_law_draw (wCons (wVar 0) (wCons (wF fLen (wVar 2)) wNil))) wNil))))))))
abbrev p_law_do_hold {Ω : Type} : DS Ω :=
  (wRet (wOp fEq (wL (wLc [2, 3, 4] (.many [2, 3, 4]) (wiSeq (wVar 0)) (wTV (wOp fGt (wOp fAdd (wOp fMul (wVar 2) (wOp fIx (wVar 1) (wC (.int 0)))) (wOp fMul (wVar 3) (wOp fIx (wVar 1) (wC (.int 1))))) (wVar 4))) (wC (.int 1)))) (wL (wLst wNil))))
abbrev p_law_decider {Ω : Type} : DS Ω :=
  (wSeq (wSet 2 (wL (wLc [3] (.one 3) (wiR1 (wF fLen (wOp fIx (wVar 0) (wC (.int 2))))) (wTV (wCall S_law_do_hold (wCons (wOp fIx (wOp fIx (wOp fIx (wVar 0) (wC (.int 2))) (wVar 3)) (wC (.int 0))) (wCons (wVar 1) wNil)))) (wVar 3))))
  (wRet (wIfx (wTV (wOp fNe (wVar 2) (wL (wLst wNil)))) (wOp fIx (wVar 2) (wC (.int 0))) (wF fLen (wOp fIx (wVar 0) (wC (.int 2)))))))
abbrev p_law_kept {Ω : Type} : DS Ω :=
  (wSeq (wSet 2 (wCall S_law_decider (wCons (wVar 0) (wCons (wVar 1) wNil))))
  (wRet (wIfx (wTV (wOp fLt (wVar 2) (wF fLen (wOp fIx (wVar 0) (wC (.int 2)))))) (wOp fIx (wOp fIx (wOp fIx (wVar 0) (wC (.int 2))) (wVar 2)) (wC (.int 1))) (wOp fIx (wVar 0) (wC (.int 3))))))
abbrev p_law_room {Ω : Type} : DS Ω :=
  (wRet (wOp fAdd (wOp fAdd (wOp fIx (wVar 0) (wC (.int 0))) (wOp fMul (wOp fIx (wVar 0) (wC (.int 1))) (wOp fIx (wVar 1) (wC (.int 0))))) (wOp fMul (wOp fIx (wVar 0) (wC (.int 2))) (wOp fIx (wVar 1) (wC (.int 1))))))
theorem m_law_one : ∀ ds w C, S_law_one.run ds w C → p_law_one (endD C) (startD 2 ds) w := by
  rintro ds ⟨p, n⟩ C ⟨l, rfl, ⟨h1, h2⟩, h3, q⟩
  have h3 : 1 ≤ n := h3
  show p_law_one _ [some (.dat (.opq (.ref p))), some (.dat (.lst l))] _
  unfold p_law_one
  walk_at "ck"
  refine use_draw (by omega) (by omega) (by omega) fun i m hi hl hm => ?_
  have hl' : i.toNat < l.length := by omega
  exact ⟨l[i.toNat], atI_int hi (List.getElem?_eq_getElem hl'), q _ m (List.getElem_mem hl') hm⟩
theorem mul_nn {x y : Int} (h : 0 ≤ x) (k : 0 ≤ y) : 0 ≤ x * y := Int.mul_nonneg h k
theorem mul_mono {x y z : Int} (h : 0 ≤ x) (k : y ≤ z) : x * y ≤ x * z := Int.mul_le_mul_of_nonneg_left k h
theorem price_room {w m r : Int} (hs : IsSh w (m, r)) : (0 ≤ m ∧ (m ≤ w ∨ m = 0)) ∧ 0 ≤ r ∧ r ≤ m ∧ (2 * r ≤ w + 1 ∨ r = 0) := by
  rcases hs with ⟨h1, h2⟩ | ⟨h1, h2, h3⟩
  · have h1 : m = 0 := h1
    have h2 : r = 0 := h2
    omega
  · have h1 : 1 ≤ r := h1
    have h2 : r ≤ m := h2
    have h3 : r ≤ w - m + 1 := h3
    omega
theorem divw2 {i j : Int} (h : 1 ≤ j) (h2 : j ≤ 1000000) : CDivW i j := divw60 (by omega) (by omega)
theorem m_law_price : ∀ ds w C, S_law_price.run ds w C → p_law_price (endD C) (startD 6 ds) w := by
  rintro ds ⟨p, n⟩ C ⟨wd, rfl, ⟨h1, h2⟩, h3, q⟩
  have h3 : 4 ≤ n := h3
  have q : ∀ t m, PriceOk wd (12 + 4 * wd) t → n ≤ m + 4 → C (d3 t) ⟨p, m⟩ := fun t m a b => q _ m ⟨t, rfl, a⟩ b
  show p_law_price _ [some (.dat (.opq (.ref p))), some (.dat (.int wd)), none, none, none, none] _
  unfold p_law_price
  walk_at "ck"
  refine use_draw (by omega) (by omega) (by omega) fun way n1 w0 w1 e1 => ?_
  refine use_draw (by omega) (by omega) (by omega) fun a n2 a0 a1 e2 => ?_
  walk_at "ck"
  refine use_draw (by omega) (by omega) (by omega) fun b n3 b0 b1 e3 => ?_
  refine use_draw (by omega) (by omega) (by omega) fun c n4 c0 c1 e4 => ?_
  walk_at "ck"
  have bw0 : 0 ≤ b * wd := mul_nn b0 (by omega)
  have bw1 : b * wd ≤ 4 * wd := by
    have := mul_mono (x := wd) (by omega) (show b ≤ 4 by omega)
    rw [Int.mul_comm b, Int.mul_comm 4]
    exact this
  have dv0 : 0 ≤ wd / (1 + b) := Int.ediv_nonneg (by omega) (by omega)
  have dv1 : wd / (1 + b) ≤ wd := Int.ediv_le_self _ (by omega)
  have hf0 : 0 ≤ (wd + 1) / 2 := by omega
  have hf1 : (wd + 1) / 2 ≤ wd := by omega
  have ch0 : 0 ≤ c * ((wd + 1) / 2) := mul_nn c0 hf0
  have ch1 : c * ((wd + 1) / 2) ≤ 3 * wd + 3 := by
    have x1 := mul_mono (x := (wd + 1) / 2) hf0 (show c ≤ 6 by omega)
    rw [Int.mul_comm c]
    omega
  have pA : ∀ x y z : Int, 1 ≤ x → 0 ≤ y → 0 ≤ z → x ≤ 12 + 4 * wd → y ≤ 4 → z ≤ 6 → C (d3 ⟨x, y, z⟩) ⟨p, n4⟩ := fun x y z hx hy hz kx ky kz => by
    refine q _ _ ⟨⟨by show _ ≤ x; omega, kx⟩, ⟨by show _ ≤ y; omega, by show y ≤ _; omega⟩, ⟨by show _ ≤ z; omega, by show z ≤ _; omega⟩, ?_⟩ (by omega)
    rintro ⟨m, r⟩ hs
    obtain ⟨⟨m0, m1⟩, r0, r1, r2⟩ := price_room hs
    have z1 := mul_nn hy m0
    have z2 := mul_nn hz r0
    show 1 ≤ x + y * m + z * r
    omega
  refine ite2 (fun hd => ?_) (fun hd => ?_)
  · have hd : way < 3 := of_decide_eq_true hd
    refine ⟨divw2 (by omega) (by omega), ?_⟩
    have hw : way = 0 ∨ way = 1 ∨ way = 2 := by omega
    rcases hw with rfl | rfl | rfl
    · exact ⟨_, k_at0, pA _ _ _ (by omega) b0 (by omega) (by omega) (by omega) (by omega)⟩
    · exact ⟨_, k_at1, pA _ _ _ (by omega) (by omega) (by omega) (by omega) (by omega) (by omega)⟩
    · exact ⟨_, k_at2, pA _ _ _ (by omega) (by omega) (by omega) (by omega) (by omega) (by omega)⟩
  · refine ite2 (fun hd2 => ?_) (fun hd2 => ?_)
    · refine ⟨mulx60 (by omega) (by omega) (by omega) (by omega), ?_⟩
      refine q ⟨1 + a + b * wd, 0 - b, 0⟩ _ ⟨⟨by show _ ≤ 1 + a + b * wd; omega, by show 1 + a + b * wd ≤ _; omega⟩, ⟨by show _ ≤ 0 - b; omega, by show 0 - b ≤ _; omega⟩, ⟨by show _ ≤ (0 : Int); omega, by show (0 : Int) ≤ _; omega⟩, ?_⟩ (by omega)
      rintro ⟨m, r⟩ hs
      obtain ⟨⟨m0, m1⟩, r0, r1, r2⟩ := price_room hs
      have z1 : 0 ≤ b * (wd - m) := mul_nn b0 (by omega)
      rw [Int.mul_sub] at z1
      show 1 ≤ 1 + a + b * wd + (0 - b) * m + 0 * r
      rw [Int.sub_mul]
      omega
    · refine ite2 (fun hd3 => ?_) (fun hd3 => ?_)
      · exact pA _ _ _ (by omega) b0 c0 (by omega) (by omega) (by omega)
      · refine ⟨divw2 (by omega) (by omega), mulx60 (by omega) (by omega) (by omega) (by omega), ?_⟩
        refine q ⟨1 + a + c * ((wd + 1) / 2), b, 0 - c⟩ _ ⟨⟨by show _ ≤ 1 + a + c * ((wd + 1) / 2); omega, by show 1 + a + c * ((wd + 1) / 2) ≤ _; omega⟩, ⟨by show _ ≤ b; omega, by show b ≤ _; omega⟩, ⟨by show _ ≤ 0 - c; omega, by show 0 - c ≤ _; omega⟩, ?_⟩ (by omega)
        rintro ⟨m, r⟩ hs
        obtain ⟨⟨m0, m1⟩, r0, r1, r2⟩ := price_room hs
        have z1 : 0 ≤ c * ((wd + 1) / 2 - r) := mul_nn c0 (by omega)
        have z2 := mul_nn b0 m0
        rw [Int.mul_sub] at z1
        show 1 ≤ 1 + a + c * ((wd + 1) / 2) + b * m + (0 - c) * r
        rw [Int.sub_mul]
        omega
theorem m_law_some_shape : ∀ ds w C, S_law_some_shape.run ds w C → p_law_some_shape (endD C) (startD 3 ds) w := by
  rintro ds ⟨p, n⟩ C ⟨wd, rfl, ⟨h1, h2⟩, h3, q⟩
  have h3 : 2 ≤ n := h3
  have q : ∀ s m, IsSh wd s → n ≤ m + 2 → C (dS s) ⟨p, m⟩ := fun t m a b => q _ m ⟨t, rfl, a⟩ b
  show p_law_some_shape _ [some (.dat (.opq (.ref p))), some (.dat (.int wd)), none] _
  unfold p_law_some_shape
  walk_at "ck"
  refine use_draw (by omega) (by omega) (by omega) fun m n1 m0 m1 e1 => ?_
  walk_at "ck"
  refine ite2 (fun hd => ?_) (fun hd => ?_)
  · have hd : 0 < m := of_decide_eq_true hd
    refine use_draw (by split <;> omega) (by split <;> omega) (by omega) fun r n2 r0 r1 e2 => ?_
    walk_at "ck"
    exact q (m, 1 + r) _ (.inr ⟨by show 1 ≤ 1 + r; omega, by show 1 + r ≤ m; split at r1 <;> omega, by show 1 + r ≤ wd - m + 1; split at r1 <;> omega⟩) (by omega)
  · exact q (0, 0) _ (.inl ⟨rfl, rfl⟩) (by omega)
theorem PriceOk.times {w B m D : Int} {t : T3} (h : PriceOk w B t) (hm : 1 ≤ m) (hB : 0 ≤ B) (k : m * B ≤ D) : PriceOk w D ⟨m * t.a, m * t.b, m * t.c⟩ := by
  have go : ∀ x : Int, -B ≤ x ∧ x ≤ B → -D ≤ m * x ∧ m * x ≤ D := fun x ⟨h1, h2⟩ => by
    have e1 := mul_mono (x := m) (by omega) h1
    have e2 := mul_mono (x := m) (by omega) h2
    rw [Int.mul_neg] at e1
    omega
  refine ⟨go _ h.a, go _ h.b, go _ h.c, fun s hs => ?_⟩
  have h1 := h.room s hs
  have e : m * t.a + m * t.b * s.1 + m * t.c * s.2 = m * roomAt t s := by
    unfold roomAt
    rw [Int.mul_add, Int.mul_add, Int.mul_assoc, Int.mul_assoc]
  show 1 ≤ m * t.a + m * t.b * s.1 + m * t.c * s.2
  rw [e]
  have := mul_mono (x := m) (by omega) h1
  omega
theorem PriceOk.mono {w B D : Int} {t : T3} (h : PriceOk w B t) (k : B ≤ D) : PriceOk w D t := by
  obtain ⟨a, b, c, r⟩ := h
  exact ⟨by omega, by omega, by omega, r⟩
theorem m_law_prices : ∀ ds w C, S_law_prices.run ds w C → p_law_prices (endD C) (startD 7 ds) w := by
  rintro ds ⟨p, n⟩ C ⟨⟨wd, most⟩, rfl, ⟨h1, h2, h3, h4⟩, h5, q⟩
  have h1 : 1 ≤ wd := h1
  have h2 : wd ≤ 1000 := h2
  have h3 : 1 ≤ most := h3
  have h4 : most ≤ 6 := h4
  have h5 : 26 ≤ n := h5
  have q : ∀ (ps : List T3) m, 1 ≤ ps.length → (ps.length : Int) ≤ most → (∀ t ∈ ps, PriceOk wd 1000000 t) → n ≤ m + 26 → C (.tup (ps.map d3)) ⟨p, m⟩ := fun ps m a b c d => q _ m ⟨ps, rfl, a, b, c⟩ d
  show p_law_prices _ [some (.dat (.opq (.ref p))), some (.dat (.int wd)), some (.dat (.int most)), none, none, none, none] _
  unfold p_law_prices
  walk_at "ck"
  have key : ∀ (C' : Dt → Dw → Prop) (x : Int) (hx : x = 900 ∧ wd < 200 ∨ x = 90), (∀ (y : Int) (m : Nat), 1 ≤ y → y * (12 + 4 * wd) ≤ 1000000 → n ≤ m + 1 → C' (.int y) ⟨p, m⟩) → S_law_one.run [.opq (.ref p), .lst [.int 1, .int 1, .int 1, .int 7, .int x]] ⟨p, n⟩ C' := by
    intro C' x hx hC
    refine use_one (by simp) (by simp) (by omega) fun d m hd hm => ?_
    simp only [List.mem_cons, List.not_mem_nil, or_false] at hd
    rcases hd with rfl | rfl | rfl | rfl | rfl
    · exact hC _ _ (by omega) (by omega) hm
    · exact hC _ _ (by omega) (by omega) hm
    · exact hC _ _ (by omega) (by omega) hm
    · exact hC _ _ (by omega) (by omega) hm
    · rcases hx with ⟨rfl, hx⟩ | rfl
      · exact hC _ _ (by omega) (by omega) hm
      · exact hC _ _ (by omega) (by omega) hm
  have H : ∀ Cc : Dt → Dw → Prop, (∀ (y : Int) (m : Nat), 1 ≤ y → y * (12 + 4 * wd) ≤ 1000000 → n ≤ m + 1 → Cc (.int y) ⟨p, m⟩) → (if decide (wd < 200) = true then S_law_one.run [.opq (.ref p), .lst [.int 1, .int 1, .int 1, .int 7, .int 900]] ⟨p, n⟩ Cc else S_law_one.run [.opq (.ref p), .lst [.int 1, .int 1, .int 1, .int 7, .int 90]] ⟨p, n⟩ Cc) :=
    fun Cc h => ite2 (fun hd => key Cc 900 (.inl ⟨rfl, of_decide_eq_true hd⟩) h) (fun hd => key Cc 90 (.inr rfl) h)
  refine H _ fun y n1 y0 y1 e1 => ?_
  refine use_draw (by omega) (by omega) (by omega) fun i n2 i0 i1 e2 => ?_
  walk_at "ck"
  refine ⟨by omega, by omega, ?_⟩
  rw [rngD_eq]
  refine loop_drawN (rngN 0) 4 (fun k sl => ∃ (ps : List T3) (x5 : Option Sv), sl = [some (.dat (.opq (.ref p))), some (.dat (.int wd)), some (.dat (.int most)), some (.dat (.int y)), some (.own (ps.map d3)), x5, none] ∧ ps.length = k ∧ ∀ t ∈ ps, PriceOk wd 1000000 t) _ ?_ ⟨[], _, rfl, rfl, fun t ht => by cases ht⟩ ?_ ?_
  · rintro k j sl hj ⟨ps, x5, rfl, hl, hp⟩
    have hk : ps.length + 1 ≤ 1000000 := by
      have := (List.getElem?_eq_some_iff.mp hj).1
      rw [List.length_range] at this
      omega
    refine ⟨_, rfl, fun m N hm hN => ?_⟩
    walk_at "ck"
    refine ⟨size1M hk, ?_⟩
    refine use_drawS wd ⟨by omega, by omega⟩ hm fun d m2 ⟨t, hd, ht⟩ e3 => ?_
    subst hd
    have tb : ∀ x ∈ [t.a, t.b, t.c], -(2 ^ 60) < x ∧ x < 2 ^ 60 := by
      obtain ⟨⟨a1, a2⟩, ⟨b1, b2⟩, ⟨c1, c2⟩, _⟩ := ht
      intro x hx
      simp only [List.mem_cons, List.not_mem_nil, or_false] at hx
      rcases hx with rfl | rfl | rfl <;> omega
    have yb : y < 2 ^ 60 := by
      have := mul_mono (x := y) (by omega) (show 1 ≤ 12 + 4 * wd by omega)
      omega
    refine ⟨_, rfl, size1M (show 3 ≤ 1000000 by decide), ?_⟩
    refine lc_map Dt.int (fun x => Dt.int (y * x)) [t.a, t.b, t.c] (fun x hx => ⟨_, rfl, fun C hC => ?_⟩) ?_
    · walk_at "ck"
      exact ⟨mulx60 (by omega) yb (tb x hx).1 (tb x hx).2, hC⟩
    · refine hN _ _ ⟨ps ++ [⟨y * t.a, y * t.b, y * t.c⟩], _, by rw [List.map_append]; rfl, by rw [List.length_append]; simp [hl], fun s hs => ?_⟩ e3
      rcases List.mem_append.mp hs with hs | hs
      · exact hp s hs
      · rw [List.mem_singleton.mp hs]
        exact ht.times y0 (by omega) y1
  · rw [List.length_range]
    omega
  · rintro sl m ⟨ps, x5, rfl, hl, hp⟩ e3
    rw [List.length_range] at e3 hl
    walk_at "ck"
    exact q ps m (by omega) (by omega) hp (by omega)
theorem mem5 {C : Dt → Prop} {d : Dt} {a b c e f : Dt} (h : d ∈ [a, b, c, e, f]) (ha : C a) (hb : C b) (hc : C c) (he : C e) (hf : C f) : C d := by
  simp only [List.mem_cons, List.not_mem_nil, or_false] at h
  rcases h with rfl | rfl | rfl | rfl | rfl <;> assumption
theorem m_law_test : ∀ ds w C, S_law_test.run ds w C → p_law_test (endD C) (startD 7 ds) w := by
  rintro ds ⟨p, n⟩ C ⟨wd, rfl, ⟨h1, h2⟩, h3, q⟩
  have h1 : 1 ≤ wd := h1
  have h2 : wd ≤ 1000 := h2
  have h3 : 6 ≤ n := h3
  have q : ∀ (t : T3) m, TestOk t → n ≤ m + 6 → C (d3 t) ⟨p, m⟩ := fun t m a b => q _ m ⟨t, rfl, a⟩ b
  show p_law_test _ [some (.dat (.opq (.ref p))), some (.dat (.int wd)), none, none, none, none, none] _
  unfold p_law_test
  walk_at "ck"
  refine use_one (by simp) (by simp) (by omega) fun d n1 hd e1 => ?_
  obtain ⟨x, rfl, x0, x1⟩ : ∃ x : Int, d = .int x ∧ 1 ≤ x ∧ x ≤ 1000 := by
    refine mem5 (C := fun d => ∃ x : Int, d = .int x ∧ 1 ≤ x ∧ x ≤ 1000) hd ?_ ?_ ?_ ?_ ?_ <;> exact ⟨_, rfl, by decide, by decide⟩
  walk_at "ck"
  have m2 : CMulX 2 x := mulx60 (by omega) (by omega) (by omega) (by omega)
  refine ⟨m2, use_draw (by omega) (by omega) (by omega) fun a n2 a0 a1 e2 => ?_⟩
  walk_at "ck"
  refine ⟨m2, use_draw (by omega) (by omega) (by omega) fun b n3 b0 b1 e3 => ?_⟩
  walk_at "ck"
  refine use_drawS wd ⟨h1, h2⟩ (by show 2 ≤ n3; omega) fun d n4 ⟨⟨u, v⟩, hd, hs⟩ e4 => ?_
  subst hd
  have e4 : n3 ≤ n4 + 2 := e4
  unfold dS
  walk_at "ck"
  obtain ⟨⟨u0, u1⟩, v0, v1, v2⟩ := price_room hs
  have bu : ∀ z : Int, -1000 ≤ z → z ≤ 1000 → ∀ g : Int, 0 ≤ g → g ≤ 1000 → -1000000 ≤ z * g ∧ z * g ≤ 1000000 := by
    intro z z0 z1 g g0 g1
    have k1 := mul_mono (x := g) g0 z0
    have k2 := mul_mono (x := g) g0 z1
    rw [Int.mul_comm g z] at k1 k2
    omega
  have u2 : u ≤ 1000 := by omega
  have := bu (a - x) (by omega) (by omega) u u0 u2
  have := bu (b - x) (by omega) (by omega) v v0 (by omega)
  refine ⟨mulx60 (by omega) (by omega) (by omega) (by omega), mulx60 (by omega) (by omega) (by omega) (by omega), use_draw (by omega) (by omega) (by omega) fun c n5 c0 c1 e5 => ?_⟩
  walk_at "ck"
  exact q ⟨a - x, b - x, (a - x) * u + (b - x) * v + c - 1⟩ n5 ⟨⟨by show _ ≤ a - x; omega, by show a - x ≤ _; omega⟩, ⟨by show _ ≤ b - x; omega, by show b - x ≤ _; omega⟩, ⟨by show _ ≤ (a - x) * u + (b - x) * v + c - 1; omega, by show (a - x) * u + (b - x) * v + c - 1 ≤ _; omega⟩⟩ (by omega)
/-- some data, each of some form: the list of them -/
theorem all_enc {α : Type} {enc : α → Dt} {P : α → Prop} : ∀ {ds : List Dt}, (∀ d ∈ ds, ∃ x, d = enc x ∧ P x) → ∃ xs : List α, ds = xs.map enc ∧ xs.length = ds.length ∧ ∀ x ∈ xs, P x
  | [], _ => ⟨[], rfl, rfl, fun x hx => by cases hx⟩
  | d :: ds, h => by
    obtain ⟨x, rfl, hx⟩ := h d List.mem_cons_self
    obtain ⟨xs, e, hl, hxs⟩ := all_enc (enc := enc) (P := P) (ds := ds) fun y hy => h y (List.mem_cons_of_mem _ hy)
    refine ⟨x :: xs, by rw [e, List.map_cons], by rw [List.length_cons, List.length_cons, hl], fun y hy => ?_⟩
    rcases List.mem_cons.mp hy with rfl | hy
    · exact hx
    · exact hxs y hy
theorem m_law_tests : ∀ ds w C, S_law_tests.run ds w C → p_law_tests (endD C) (startD 3 ds) w := by
  rintro ds ⟨p, n⟩ C ⟨wd, rfl, ⟨h1, h2⟩, h3, q⟩
  have h1 : 1 ≤ wd := h1
  have h2 : wd ≤ 1000 := h2
  have h3 : 31 ≤ n := h3
  have q : ∀ (ts : List T3) m, ts.length ≤ 5 → (∀ t ∈ ts, TestOk t) → n ≤ m + 31 → C (.tup (ts.map d3)) ⟨p, m⟩ := fun t m a b c => q _ m ⟨t, rfl, a, b⟩ c
  show p_law_tests _ [some (.dat (.opq (.ref p))), some (.dat (.int wd)), none] _
  unfold p_law_tests
  walk_at "ck"
  refine use_one (by simp) (by simp) (by omega) fun d n1 hd e1 => ?_
  obtain ⟨x, rfl, x0, x1⟩ : ∃ x : Int, d = .int x ∧ 0 ≤ x ∧ x ≤ 5 := by
    simp only [List.mem_cons, List.not_mem_nil, or_false] at hd
    rcases hd with rfl | rfl | rfl | rfl | rfl | rfl | rfl | rfl | rfl <;> exact ⟨_, rfl, by decide, by decide⟩
  walk_at "ck"
  rw [rngD_eq]
  refine ⟨by omega, by omega, by rw [List.length_map, List.length_range]; exact size1M (by omega), ?_⟩
  refine lc_draw (rngN 0) (fun _ d => ∃ t, d = d3 t ∧ TestOk t) 6 _ (fun y hy => ⟨_, rfl, fun m C' hm hC' => ?_⟩) ?_ ?_
  · walk_at "ck"
    exact use_drawS wd ⟨h1, h2⟩ hm fun d m2 hd e2 => hC' _ _ hd e2
  · rw [List.length_range]
    omega
  · intro ds m hl hds e2
    rw [List.length_range] at hl e2
    obtain ⟨ts, rfl, hl2, hts⟩ := all_enc (enc := d3) (P := TestOk) fun d hd => (hds d hd).elim fun _ h => h.2
    exact q ts m (by omega) hts (by omega)
theorem m_law_book : ∀ ds w C, S_law_book.run ds w C → p_law_book (endD C) (startD 5 ds) w := by
  rintro ds ⟨p, n⟩ C ⟨wd, rfl, ⟨h1, h2⟩, h3, q⟩
  have h1 : 1 ≤ wd := h1
  have h2 : wd ≤ 1000 := h2
  have h3 : 200 ≤ n := h3
  have q : ∀ (b : Book) m, b.w = wd → BookOk b → b.ps.length ≤ 4 → b.rs.length ≤ 5 → n ≤ m + 200 → C (dB b) ⟨p, m⟩ := fun t m a b c d e => q _ m ⟨t, rfl, a, b, c, d⟩ e
  show p_law_book _ [some (.dat (.opq (.ref p))), some (.dat (.int wd)), none, none, none] _
  unfold p_law_book
  walk_at "ck"
  refine use_drawS (wd, 4) ⟨h1, h2, (show (1 : Int) ≤ 4 by decide), (show (4 : Int) ≤ 6 by decide)⟩ (by show 26 ≤ n; omega) fun d n1 ⟨ps, hd, p1, p2, p3⟩ e1 => ?_
  subst hd
  have p2 : (ps.length : Int) ≤ 4 := p2
  have e1 : n ≤ n1 + 26 := e1
  walk_at "ck"
  refine use_draw (by omega) (by omega) (by omega) fun i n2 i0 i1 e2 => ?_
  walk_at "ck"
  rw [rngD_eq]
  refine ⟨by omega, by omega, by rw [List.length_map, List.length_range]; exact size1M (by omega), ?_⟩
  refine lc_draw (rngN 0) (fun _ d => ∃ r : Rule, d = dR r ∧ r.ts.length ≤ 5 ∧ (∀ t ∈ r.ts, TestOk t) ∧ 0 ≤ r.f ∧ r.f < ps.length) 32 _ (fun y hy => ⟨_, rfl, fun m C' hm hC' => ?_⟩) ?_ ?_
  · walk_at "ck"
    refine use_drawS wd ⟨h1, h2⟩ (by show 31 ≤ m; omega) fun d m2 ⟨ts, hd, t1, t2⟩ e2 => ?_
    subst hd
    have e2 : m ≤ m2 + 31 := e2
    walk_at "ck"
    refine use_draw (by omega) (by omega) (by omega) fun f m3 f0 f1 e3 => ?_
    walk_at "ck"
    exact hC' _ _ ⟨⟨ts, f⟩, rfl, t1, t2, f0, f1⟩ (by omega)
  · rw [List.length_range]
    omega
  · intro ds m hl hds e3
    rw [List.length_range] at hl e3
    obtain ⟨rs, rfl, hl2, hrs⟩ := all_enc (enc := dR) (P := fun r : Rule => r.ts.length ≤ 5 ∧ (∀ t ∈ r.ts, TestOk t) ∧ 0 ≤ r.f ∧ r.f < ps.length) fun d hd => (hds d hd).elim fun _ h => h.2
    walk_at "ck"
    refine use_draw (by omega) (by omega) (by omega) fun l m2 l0 l1 e4 => ?_
    walk_at "ck"
    exact q ⟨wd, ps, rs, l⟩ _ rfl ⟨⟨h1, h2⟩, ⟨p1, by show ps.length ≤ 6; omega⟩, p3, by show rs.length ≤ 10; omega, hrs, l0, l1⟩ (by show ps.length ≤ 4; omega) (by show rs.length ≤ 5; omega) (by omega)
end Ck
namespace Ck
open PySem PySem.Spec PyProof.Rows L2
local macro_rules | `(tactic| walk_at "ck") => `(tactic| try simp only [wNext, wBrk, wCnt, wSeq, wRet, wRetN, wSet, wOwn, wDrop, wUnp, wPar, wIfS, wApp, wExt, wSetIx, wAug, wFrz, wFor, k_var, k_vk1, k_vk2, k_par, wC, wL, wOp, wOpL, wF, wFL, wNil, wCons, wTup, wLst, wTV, wTAnd, wTOr, wTNot, wAnd, wOr, wNot, wIfx, wIsN, wNotN, wChain, wO0, wO1, wSl, wCall, wIsi, wLr1, wLr2, wNeg, wLc, wYes, wiSeq, wiR1, wiR2, wiEnum, wiZip, noOwnB, wipeD, wEmp, wListZip, wSortSet, wRevL, wRevT, wOneB, k_mulT, k_add1, k_add2, k_add3, k_add4, k_addL, k_sub, k_mul1, k_mul2, k_mulL, k_div, k_mod, k_pow, k_cmp, k_eq, k_ne, k_ea1, k_ea2, k_ea3, k_ea4, k_in1, k_in2, k_in3, k_in4, k_ix1, k_ix2, k_ix3, k_sl1, k_sl2, k_len1, k_len2, k_len3, k_int1, k_int2, k_abs, k_tuple1, k_tuple2, k_list1, k_list2, k_min2, k_max2, k_non_non, k_ty_int_non, k_ty_bool_non, k_ty_tuple_non, k_ty_str_non, k_ty_list_non, k_non_bl, k_ty_int_bl, k_ty_bool_bl, k_ty_tuple_bl, k_ty_str_bl, k_ty_list_bl, k_non_int, k_ty_int_int, k_ty_bool_int, k_ty_tuple_int, k_ty_str_int, k_ty_list_int, k_non_str, k_ty_int_str, k_ty_bool_str, k_ty_tuple_str, k_ty_str_str, k_ty_list_str, k_non_tup, k_ty_int_tup, k_ty_bool_tup, k_ty_tuple_tup, k_ty_str_tup, k_ty_list_tup, k_non_lst, k_ty_int_lst, k_ty_bool_lst, k_ty_tuple_lst, k_ty_str_lst, k_ty_list_lst, k_non_emp, k_ty_int_emp, k_ty_bool_emp, k_ty_tuple_emp, k_ty_str_emp, k_ty_list_emp, k_seq_non, k_seq_bl, k_seq_int, k_seq_str, k_seq_tup, k_seq_lst, k_seq_emp, k_sz0, k_sz1, k_sz2, k_sz3, k_sz4, k_sz5, k_sz6, k_sz7, k_sz8, k_sz9, k_sz10, k_sz11, k_sz12, k_sz13, k_sz14, k_sz15, k_sz16, k_sz17, k_sz18, k_sz19, k_sz20, k_sz21, k_sz22, k_sz23, k_at0, k_at1, k_at2, k_at3, k_iteT, k_iteF, k_bt1, k_bt2, k_sa0, k_sa1, k_endn, k_endr, List.getElem?_cons_succ, List.getElem?_cons_zero, List.set_cons_succ, List.set_cons_zero, List.length_cons, List.length_nil, List.length_map, List.all_cons, List.all_nil, Nat.reduceAdd, Nat.zero_add, Bool.and_true, Bool.and_self, Option.some.injEq, Dt.int.injEq, Dt.bl.injEq, Dt.str.injEq, Dt.tup.injEq, Dt.lst.injEq, Sv.dat.injEq, Sv.own.injEq, exists_eq_left', exists_eq_left, exists_eq_right, exists_eq', exists_eq, if_true, if_false, Bool.not_false, Bool.not_true, Bool.not_not, true_and, and_true, false_and, and_false, exists_const, reduceCtorEq])

/-! ### all shapes of a width -/
def sizeShapes (w i : Nat) : List (Int × Int) := (List.range (min (i + 1) (w - i))).map fun j => (((i + 1 : Nat) : Int), ((j + 1 : Nat) : Int))
def shapesTo (w k : Nat) : List (Int × Int) := (0, 0) :: (List.range k).flatMap (sizeShapes w)
def shapes (w : Int) : List (Int × Int) := shapesTo w.toNat w.toNat
theorem mem_shapes {w : Int} {s : Int × Int} (h : 1 ≤ w) : s ∈ shapes w ↔ IsSh w s := by
  unfold shapes shapesTo IsSh sizeShapes
  rw [List.mem_cons]
  constructor
  · rintro (rfl | h2)
    · exact .inl ⟨rfl, rfl⟩
    · obtain ⟨i, hi, h2⟩ := List.mem_flatMap.mp h2
      obtain ⟨j, hj, rfl⟩ := List.mem_map.mp h2
      have := List.mem_range.mp hi
      have := List.mem_range.mp hj
      right
      dsimp only
      omega
  · rintro (⟨h1, h2⟩ | ⟨h1, h2, h3⟩)
    · left
      exact Prod.ext h1 h2
    · right
      refine List.mem_flatMap.mpr ⟨(s.1 - 1).toNat, List.mem_range.mpr (by omega), List.mem_map.mpr ⟨(s.2 - 1).toNat, List.mem_range.mpr (by omega), ?_⟩⟩
      exact Prod.ext (by first | rfl | (dsimp only; omega)) (by first | rfl | (dsimp only; omega))
theorem sizeShapes_len (w i : Nat) : (sizeShapes w i).length ≤ w := by
  unfold sizeShapes
  rw [List.length_map, List.length_range]
  omega
theorem shapesTo_len (w : Nat) : ∀ k : Nat, (shapesTo w k).length ≤ 1 + k * w
  | 0 => by simp [shapesTo]
  | k + 1 => by
    have ih := shapesTo_len w k
    have := sizeShapes_len w k
    unfold shapesTo at ih ⊢
    rw [List.length_cons] at ih ⊢
    rw [List.range_succ, List.flatMap_append, List.length_append, List.flatMap_singleton, Nat.add_mul]
    omega
theorem shapesTo_succ (w k : Nat) : shapesTo w (k + 1) = shapesTo w k ++ sizeShapes w k := by
  unfold shapesTo
  rw [List.range_succ, List.flatMap_append, List.flatMap_singleton, List.cons_append]
def S_law_shapes {Ω : Type} : Spc Ω := pureS (ι := Int) (fun w => [.int w]) (fun w => 1 ≤ w ∧ w ≤ 100) fun w => .lst ((shapes w).map dS)
abbrev p_law_shapes {Ω : Type} : DS Ω :=
  (wSeq (wOwn 1 (wLst (wCons (wTup (wCons (wC (.int 0)) (wCons (wC (.int 0)) wNil))) wNil)))
  (wSeq (wFor (.one 2) (wiR2 (wC (.int 1)) (wOp fAdd (wVar 0) (wC (.int 1)))) (wExt 1 (wLc [3] (.one 3) (wiR2 (wC (.int 1)) (wOp fAdd (wOp fMin2 (wVar 2) (wOp fAdd (wOp fSub (wVar 0) (wVar 2)) (wC (.int 1)))) (wC (.int 1)))) wYes (wTup (wCons (wVar 2) (wCons (wVar 3) wNil))))))
  (wFrz 1 (wRet (wVar 1)))))
theorem m_law_shapes {Ω : Type} : ∀ ds (w : Ω) C, S_law_shapes.run ds w C → p_law_shapes (endD C) (startD 4 ds) w := by
  rintro ds w C ⟨n, rfl, ⟨h1, h2⟩, q⟩
  replace q : C (.lst ((shapes n).map dS)) w := q
  replace h1 : 1 ≤ n := h1
  replace h2 : n ≤ 100 := h2
  show p_law_shapes _ [some (.dat (.int n)), none, none, none] _
  unfold p_law_shapes
  walk_at "ck"
  have en : (n + 1 - 1).toNat = n.toNat := by omega
  refine ⟨1, n + 1, rfl, rfl, ⟨by decide, by decide, by omega, by omega⟩, ?_⟩
  rw [en, rngD_eq]
  refine loop_map (rngN 1) (List.range n.toNat) (fun k s => ∃ x2, s = [some (.dat (.int n)), some (.own ((shapesTo n.toNat k).map dS)), x2, none]) (fun _ => false) (fun i y s hy hb hj => ?_) ⟨_, rfl⟩ (fun hb s hj => ?_)
  · obtain ⟨x2, rfl⟩ := hj
    have hy' : y = i := by
      have := List.getElem?_eq_some_iff.mp hy
      obtain ⟨a, b⟩ := this
      rw [List.getElem_range] at b
      exact b.symm
    subst hy'
    have hlt : y < n.toNat := by
      have := (List.getElem?_eq_some_iff.mp hy).1
      rwa [List.length_range] at this
    refine ⟨_, rfl, fun N hN => ?_⟩
    walk_at "ck"
    have em : ((if n - (1 + (y : Int)) + 1 < 1 + (y : Int) then n - (1 + (y : Int)) + 1 else 1 + (y : Int)) + 1 - 1).toNat = min (y + 1) (n.toNat - y) := by
      split <;> omega
    refine ⟨1, _, rfl, rfl, ⟨by decide, by decide, by split <;> omega, by split <;> omega⟩, ?_⟩
    rw [em, rngD_eq]
    refine ⟨by rw [List.length_map, List.length_range]; exact size1M (by omega), ?_⟩
    refine lc_map (rngN 1) (fun j : Nat => dS (((y + 1 : Nat) : Int), ((j + 1 : Nat) : Int))) _ (fun j hj => ⟨_, rfl, fun C' h => ?_⟩) ?_
    · walk_at "ck"
      have e1 : rngN 1 y = .int ((y + 1 : Nat) : Int) := congrArg Dt.int (by omega)
      have e2 : rngN 1 j = .int ((j + 1 : Nat) : Int) := congrArg Dt.int (by omega)
      rw [e1, e2]
      exact h
    · have l1 := shapesTo_len n.toNat y
      have l2 := sizeShapes_len n.toNat y
      have l3 : y * n.toNat ≤ 100 * 100 := Nat.mul_le_mul (by omega) (by omega)
      refine ⟨?_, ?_⟩
      · simp only [List.length_map, List.length_range]
        exact size1M (by omega)
      · refine hN rfl _ ⟨some (.dat (rngN 1 y)), ?_⟩
        rw [shapesTo_succ, List.map_append]
        unfold sizeShapes
        rw [List.map_map]
        rfl
  · obtain ⟨x2, rfl⟩ := hj
    rw [List.length_range]
    walk_at "ck"
    exact q
/-! ### rooms at corners and at all shapes -/
theorem lin_ok {p q R r : Int} (h1 : 1 ≤ p + q) (hR : 1 ≤ p + q * R) (r1 : 1 ≤ r) (r2 : r ≤ R) : 1 ≤ p + q * r := by
  rcases Int.le_total 0 q with z | z
  · have := mul_mono z r1
    omega
  · have := mul_mono (x := -q) (by omega) r2
    rw [Int.neg_mul, Int.neg_mul] at this
    omega
theorem corner_all {w : Int} {t : T3} (h1 : 1 ≤ w) (h : ∀ s ∈ corners w, 1 ≤ roomAt t s) {s : Int × Int} (hs : IsSh w s) : 1 ≤ roomAt t s := by
  have c0 : 1 ≤ roomAt t (0, 0) := h _ (by simp [corners])
  have c1 : 1 ≤ roomAt t (1, 1) := h _ (by simp [corners])
  have c2 : 1 ≤ roomAt t (w, 1) := h _ (by simp [corners])
  have c3 : 1 ≤ roomAt t ((w + 1) / 2, (w + 1) / 2) := h _ (by simp [corners])
  have c4 : 1 ≤ roomAt t (w + 1 - (w + 1) / 2, (w + 1) / 2) := by
    by_cases hz : w % 2 = 0
    · have e : w + 1 - (w + 1) / 2 = (w + 1) / 2 + 1 := by omega
      rw [e]
      exact h _ (by simp [corners, hz])
    · have e : w + 1 - (w + 1) / 2 = (w + 1) / 2 := by omega
      rw [e]
      exact c3
  obtain ⟨m, r⟩ := s
  rcases hs with ⟨rfl, rfl⟩ | ⟨g1, g2, g3⟩
  · exact c0
  · dsimp only at g1 g2 g3
    unfold roomAt at c1 c2 c3 c4 ⊢
    dsimp only at c1 c2 c3 c4 ⊢
    rcases Int.le_total 0 t.b with z | z
    · have k1 := mul_mono z g2
      have k2 := lin_ok (p := t.a) (q := t.b + t.c) (R := (w + 1) / 2) (r := r) (by omega) (by rw [Int.add_mul]; omega) g1 (by omega)
      rw [Int.add_mul] at k2
      omega
    · have k1 := mul_mono (x := -t.b) (y := m) (z := w + 1 - r) (by omega) (by omega)
      rw [Int.neg_mul, Int.neg_mul, Int.mul_sub] at k1
      rw [Int.mul_sub] at c4
      have k3 : t.b * (w + 1) = t.b * w + t.b := by rw [Int.mul_add, Int.mul_one]
      have k2 := lin_ok (p := t.a + t.b * (w + 1)) (q := t.c - t.b) (R := (w + 1) / 2) (r := r) (by omega) (by rw [Int.sub_mul]; omega) g1 (by omega)
      rw [Int.sub_mul] at k2
      omega
theorem corner_sh {w : Int} (h1 : 1 ≤ w) {s : Int × Int} (h : s ∈ corners w) : IsSh w s := by
  unfold corners at h
  rcases List.mem_append.mp h with h | h
  · simp only [List.mem_cons, List.not_mem_nil, or_false] at h
    unfold IsSh
    rcases h with rfl | rfl | rfl | rfl <;> dsimp only <;> omega
  · split at h
    · simp only [List.mem_cons, List.not_mem_nil, or_false] at h
      unfold IsSh
      subst h
      dsimp only
      omega
    · cases h
/-- the shapes at which the law looks -/
def lawList (w : Int) : List (Int × Int) := (if w < 40 then shapes w else [(0, 0), (1, 1), (w, 1)]) ++ (if 1 < w then [(w / 2, w / 2), (w - w / 2, w / 2)] else []) ++ [(w / 2 + 1, (w + 1) / 2)]
theorem lawList_low {w : Int} {t : T3} (h1 : 1 ≤ w) : ((lawList w).any fun s => decide (roomAt t s < 1)) = (corners w).any fun s => decide (roomAt t s < 1) := by
  cases hc : (corners w).any fun s => decide (roomAt t s < 1) with
  | true =>
    obtain ⟨s, hs, hr⟩ := List.any_eq_true.mp hc
    have hsh := corner_sh h1 hs
    refine List.any_eq_true.mpr ⟨s, ?_, hr⟩
    unfold lawList
    by_cases h40 : w < 40
    · rw [if_pos h40, List.append_assoc]
      exact List.mem_append_left _ ((mem_shapes h1).mpr hsh)
    · rw [if_neg h40, if_pos (by omega)]
      have q := hs
      unfold corners at q
      simp only [List.mem_append, List.mem_cons, List.not_mem_nil, or_false]
      rcases List.mem_append.mp q with q | q
      · simp only [List.mem_cons, List.not_mem_nil, or_false] at q
        rcases q with q | q | q | q
        · exact .inl (.inl (.inl q))
        · exact .inl (.inl (.inr (.inl q)))
        · exact .inl (.inl (.inr (.inr q)))
        · by_cases hz : w % 2 = 0
          · refine .inl (.inr (.inl ?_))
            rw [q]
            exact Prod.ext (by first | rfl | (dsimp only; omega)) (by first | rfl | (dsimp only; omega))
          · refine .inr ?_
            rw [q]
            exact Prod.ext (by first | rfl | (dsimp only; omega)) (by first | rfl | (dsimp only; omega))
      · split at q
        · simp only [List.mem_cons, List.not_mem_nil, or_false] at q
          refine .inr ?_
          rw [q]
          exact Prod.ext (by first | rfl | (dsimp only; omega)) (by first | rfl | (dsimp only; omega))
        · cases q
  | false =>
    rw [List.any_eq_false] at hc ⊢
    have hall : ∀ s ∈ corners w, 1 ≤ roomAt t s := fun s hs => by
      have := hc s hs
      simp at this
      omega
    intro s hs hr
    have hr := of_decide_eq_true hr
    have hsh : IsSh w s := by
      unfold lawList at hs
      rcases List.mem_append.mp hs with hs | hs
      · rcases List.mem_append.mp hs with hs | hs
        · split at hs
          · exact (mem_shapes h1).mp hs
          · simp only [List.mem_cons, List.not_mem_nil, or_false] at hs
            unfold IsSh
            rcases hs with rfl | rfl | rfl <;> dsimp only <;> omega
        · split at hs
          · simp only [List.mem_cons, List.not_mem_nil, or_false] at hs
            unfold IsSh
            rcases hs with rfl | rfl <;> dsimp only <;> omega
          · cases hs
      · simp only [List.mem_cons, List.not_mem_nil, or_false] at hs
        unfold IsSh
        subst hs
        dsimp only
        omega
    have := corner_all h1 hall hsh
    omega
abbrev p_law_are_numbers {Ω : Type} : DS Ω :=
  (wSeq (wIfS (wTOr (wTNot (wTV (wIsi "tuple" (wVar 0)))) (wTV (wOp fNe (wF fLen (wVar 0)) (wC (.int 3))))) (wRet (wC (.bl false))) wNext)
  (wRet (wOp fEq (wL (wLc [2] (.one 2) (wiSeq (wVar 0)) (wTNot (wTV (wCall S_law_whole (wCons (wVar 2) (wCons (wOp fSub (wC (.int 0)) (wVar 1)) (wCons (wVar 1) wNil)))))) (wC (.int 1)))) (wL (wLst wNil)))))
abbrev p_law_are_tests {Ω : Type} : DS Ω :=
  (wSeq (wIfS (wTOr (wTNot (wTV (wIsi "tuple" (wVar 0)))) (wTV (wOp fGt (wF fLen (wVar 0)) (wC (.int 5))))) (wRet (wC (.bl false))) wNext)
  (wRet (wOp fEq (wL (wLc [1] (.one 1) (wiSeq (wVar 0)) (wTNot (wTV (wCall S_law_are_numbers (wCons (wVar 1) (wCons (wOp fPow (wC (.int 10)) (wC (.int 7))) wNil))))) (wC (.int 1)))) (wL (wLst wNil)))))
abbrev p_law_is_rule {Ω : Type} : DS Ω :=
  (wSeq (wIfS (wTOr (wTNot (wTV (wIsi "tuple" (wVar 0)))) (wTV (wOp fNe (wF fLen (wVar 0)) (wC (.int 2))))) (wRet (wC (.bl false))) wNext)
  (wRet (wAnd (wCall S_law_are_tests (wCons (wOp fIx (wVar 0) (wC (.int 0))) wNil)) (wCall S_law_whole (wCons (wOp fIx (wVar 0) (wC (.int 1))) (wCons (wC (.int 0)) (wCons (wOp fSub (wVar 1) (wC (.int 1))) wNil)))))))
theorem m_law_are_numbers {Ω : Type} : ∀ ds (w : Ω) C, S_law_are_numbers.run ds w C → p_law_are_numbers (endD C) (startD 3 ds) w := by
  rintro ds w C ⟨⟨v, m⟩, rfl, hp, q⟩
  replace hp : Pl v := hp
  replace q : C (.bl (nums v m)) w := q
  show p_law_are_numbers _ [some (.dat v), some (.dat (.int m)), none] _
  unfold p_law_are_numbers
  cases v
  case opq => exact (pl_opq hp).elim
  case dic => exact (pl_dic hp).elim
  case ins => exact (pl_ins hp).elim
  case tup l =>
    walk_at "ck"
    refine ite2 (fun hd => ?_) (fun hd => ?_)
    · have e : nums (.tup l) m = false := by
        rw [k_nums, decide_eq_false (fun z => by simp [z] at hd), Bool.false_and]
      rw [e] at q
      exact q
    · have hl : l.length = 3 := by
        simp only [Bool.not_eq_true, Bool.not_eq_false', decide_eq_true_eq] at hd
        omega
      refine ⟨by rw [hl]; exact size1M (by decide), ?_⟩
      refine lc_dat (fun d => !intIn d (0 - m) m) (fun _ => .int 1) l (fun d hd => ⟨_, rfl, fun C' h => ?_, fun _ C' h => ?_⟩) ?_
      · walk_at "ck"
        exact use_pure (d, 0 - m, m) (hp.tup d hd) ⟨_, rfl, h⟩
      · walk_at "ck"
        exact h
      · walk_at "ck"
        rw [filter_empty]
        rw [k_nums, decide_eq_true hl, Bool.true_and] at q
        exact q
  all_goals
    walk_at "ck"
    exact q
theorem m_law_are_tests {Ω : Type} : ∀ ds (w : Ω) C, S_law_are_tests.run ds w C → p_law_are_tests (endD C) (startD 2 ds) w := by
  rintro ds w C ⟨v, rfl, hp, q⟩
  replace hp : Pl v := hp
  replace q : C (.bl (areTests v)) w := q
  show p_law_are_tests _ [some (.dat v), none] _
  unfold p_law_are_tests
  cases v
  case opq => exact (pl_opq hp).elim
  case dic => exact (pl_dic hp).elim
  case ins => exact (pl_ins hp).elim
  case tup l =>
    walk_at "ck"
    refine ite2 (fun hd => ?_) (fun hd => ?_)
    · rw [k_areTests, decide_eq_false (fun z => by simp at hd; omega), Bool.false_and] at q
      exact q
    · have hl : l.length ≤ 5 := by simp at hd; omega
      refine ⟨size1M (by omega), lc_dat (fun d => !nums d 10000000) (fun _ => .int 1) l (fun d hd => ⟨_, rfl, fun C' h => ?_, fun _ C' h => ?_⟩) ?_⟩
      · walk_at "ck"
        refine ⟨⟨by decide, by decide, by decide⟩, ?_⟩
        exact use_pure (d, 10000000) (hp.tup d hd) ⟨_, rfl, h⟩
      · walk_at "ck"
        exact h
      · walk_at "ck"
        rw [filter_empty]
        rw [k_areTests, decide_eq_true hl, Bool.true_and] at q
        exact q
  all_goals
    walk_at "ck"
    exact q
theorem m_law_is_rule {Ω : Type} : ∀ ds (w : Ω) C, S_law_is_rule.run ds w C → p_law_is_rule (endD C) (startD 2 ds) w := by
  rintro ds w C ⟨⟨v, f⟩, rfl, hp, q⟩
  replace hp : Pl v := hp
  replace q : C (.bl (isRule v f)) w := q
  show p_law_is_rule _ [some (.dat v), some (.dat (.int f))] _
  unfold p_law_is_rule
  cases v
  case opq => exact (pl_opq hp).elim
  case dic => exact (pl_dic hp).elim
  case ins => exact (pl_ins hp).elim
  case tup l =>
    walk_at "ck"
    refine ite2 (fun hd => ?_) (fun hd => ?_)
    · rw [isRule_len fun z => by simp [z] at hd] at q
      exact q
    · match l, hp, q, hd with
      | [a, b], hp, q, _ =>
        walk_at "ck"
        refine use_pure a (hp.tup a (by simp)) ⟨_, rfl, ite2 (fun h => ?_) (fun h => ?_)⟩
        · refine use_pure (b, 0, f - 1) (hp.tup b (by simp)) ?_
          rw [k_isRule, h, Bool.true_and] at q
          exact q
        · rw [k_isRule, Bool.eq_false_iff.mpr h, Bool.false_and] at q
          exact q
      | [], _, _, hd => simp at hd
      | [_], _, _, hd => simp at hd
      | _ :: _ :: _ :: _, _, _, hd => exact absurd (by simp; omega) hd
  all_goals
    walk_at "ck"
    exact q
end Ck
namespace Ck
open PySem PySem.Spec PyProof.Rows L2 GenW
/-! ### list(each_shape(e)) -/
def isPair (H : Hp) (v : V) (s : Int × Int) : Prop := ∃ t, v = V.ref t ∧ H t = some (.tup [.int s.1, .int s.2])
inductive OutT (H : Hp) : List V → List (Int × Int) → Prop
  | nil : OutT H [] []
  | cons {v : V} {s : Int × Int} {out : List V} {l : List (Int × Int)} (h : isPair H v s) (r : OutT H out l) : OutT H (v :: out) (s :: l)
theorem OutT.mono {H H' : Hp} {out : List V} {l : List (Int × Int)} (e : Same H H') (h : OutT H out l) : OutT H' out l := by
  induction h with
  | nil => exact .nil
  | cons h1 h2 ih =>
    obtain ⟨t, q1, q2⟩ := h1
    exact .cons ⟨t, q1, e _ _ q2⟩ ih
theorem OutT.snoc {H : Hp} {out : List V} {l : List (Int × Int)} {v : V} {s : Int × Int} (h : OutT H out l) (hv : isPair H v s) : OutT H (out ++ [v]) (l ++ [s]) := by
  induction h with
  | nil => exact .cons hv .nil
  | cons h1 _ ih => exact .cons h1 ih
theorem OutT.len {H : Hp} {out : List V} {l : List (Int × Int)} (h : OutT H out l) : out.length = l.length := by
  induction h with
  | nil => rfl
  | cons _ _ ih => rw [List.length_cons, List.length_cons, ih]
def spEach : SpG := fun vs H Q _ => ∃ n : Int, vs = [.int n] ∧ 1 ≤ n ∧ n ≤ 60 ∧ ∀ out H', Same H H' → OutT H' out (shapes n) → Q out H'
structure EachG (P : Program) (w : World) (K : PySem.W.Frag) (mg : Str → Option Value) (base : Heap) (k : Nat) : Prop where
  ex : ∃ (f : Addr) (fd : FuncData), GFn P w K mg base k f fd ["width"] spEach ∧ mg "each_shape" = some (.ref f) ∧ PySem.W.keepIn K (.ref f) = true ∧ Binds K fd ["width"] []
theorem for_rangeG {lo : Int} {n : Nat} {g : TG} {tb : TGn} {D : GEnds} {ys : List V} {σ : L2.St} {H : Hp} (Pv : Nat → List V → L2.St → Hp → Prop) (h0 : Pv 0 ys σ H)
    (hs : ∀ i ys σ H, i < n → Pv i ys σ H → g (.int (lo + i)) σ H fun σ2 H2 => tb { D with nx := Pv (i + 1), ct := Pv (i + 1), bk := D.nx } ys σ2 H2) (hd : ∀ ys σ H, Pv n ys σ H → D.nx ys σ H) :
    ∃ W : Nat → Nat → List V → L2.St → Hp → Prop, (∃ m, W 0 m ys σ H) ∧ ∀ i m ys σ H, W i m ys σ H →
      ((Itr lo n).stop i H ∧ D.nx ys σ H) ∨ ((Itr lo n).go i H ∧ ∃ N : List V → L2.St → Hp → Prop, (∀ ys' σ' H', N ys' σ' H' → ∃ m', m' < m ∧ W (i + 1) m' ys' σ' H') ∧ ∀ x H', (Itr lo n).yld i H x H' → g x σ H' fun σ2 H2 => tb { D with nx := N, ct := N, bk := D.nx } ys σ2 H2) := by
  refine ⟨fun i m ys σ H => m = n - i ∧ i ≤ n ∧ Pv i ys σ H, ⟨n, by simp, Nat.zero_le _, h0⟩, ?_⟩
  rintro i m ys σ H ⟨rfl, hi, p⟩
  rcases Nat.lt_or_ge i n with hlt | hge
  · refine .inr ⟨hlt, Pv (i + 1), fun ys' σ' H' p' => ⟨n - (i + 1), by omega, rfl, hlt, p'⟩, ?_⟩
    rintro x H' ⟨rfl, rfl⟩
    exact hs i ys σ _ hlt p
  · obtain rfl : i = n := by omega
    exact .inl ⟨Nat.le_refl _, hd ys σ H p⟩
section
variable {Ω : Type} {X : Cx} {W : Wd Ω} {K : PySem.W.Frag} {B F G H : Hp} {w : Ω} {e : Expr} {pa : DE Ω} {p p2 pos pos2 : Pos} {j k : Nat}
/-- tuples of ints that stand become what never changes -/
theorem HR.addT {out : List V} {l : List (Int × Int)} (h : OutT H out l) : ∀ {F : Hp}, HR W B F G H w → ∃ F2, HR W B F2 G H w ∧ Same F F2 ∧ DrL K F2 out (l.map dS) := by
  induction h with
  | nil => exact fun {F} r => ⟨F, r, Same.refl _, .nil⟩
  | @cons v s out l h1 h2 ih =>
    intro F r
    obtain ⟨t, rfl, ht⟩ := h1
    have key : ∃ F1, HR W B F1 G H w ∧ Same F F1 ∧ F1 t = some (.tup [.int s.1, .int s.2]) := by
      cases q : F t with
      | none => exact ⟨_, r.tupF ht rfl q, sameUpd q, upd_same⟩
      | some u =>
        have := r.f _ _ q
        rw [ht] at this
        cases this
        exact ⟨F, r, Same.refl _, q⟩
    obtain ⟨F1, r1, e1, q1⟩ := key
    obtain ⟨F2, r2, e2, d2⟩ := ih r1
    exact ⟨F2, r2, e1.trans e2, .cons (.tup (e2 _ _ q1) (.cons (.int _) (.cons (.int _) .nil))) d2⟩
theorem HR.later {H' : Hp} (r : HR W B F G H w) (e : Same H H') : HR W B F G H' w := ⟨fun a o h => ⟨e _ _ (r.b a o h).1, (r.b a o h).2⟩, r.f.trans e, r.g.trans e, r.d, r.w, r.k⟩
def wEach (pa : DE Ω) : DL Ω := fun sl w C => pa sl w fun d _ w' => ∃ n : Int, d = .int n ∧ 1 ≤ n ∧ n ≤ 60 ∧ C ((shapes n).map dS) w'
theorem dl_each (c : EachG X.prog X.w X.K X.mg X.base j) (hr : Room k X.A) (hjk : j + 3 ≤ k) (hg : Gl X "list") (hmg : X.mg "list" = none) (hg2 : Gl X "each_shape") (ha : PD X W e pa)
    (he : starEach (e :: []) X.env = (false, eval e X.env) :: starEach [] X.env := by rfl) (he2 : starEach [.Call (.Name "each_shape" p2) [e] [] pos2] X.env = (false, eval (.Call (.Name "each_shape" p2) [e] [] pos2) X.env) :: starEach [] X.env := by rfl)
    (hpl : (backTo pos2 (starEach [] X.env)).any (·.1) = false := by rfl) : PDL X W (.Call (.Name "list" p) [.Call (.Name "each_shape" p2) [e] [] pos2] [] pos) (wEach pa) := by
  have H0 := c.ex
  constructor
  · constructor
    intro pins s σ H Q I z
    obtain ⟨f, fd, F, hm, hk, hb⟩ := H0
    refine (pe_listG (nm := "list") (pgen_call (dvs := []) (ds := []) (E := L2.E0) F (hr.mono (by omega)) hg2 hm hk hb .nil (pa_cons ha.run pa_nil he) (by decide) he hpl) (passes_call LamX.takes0 fun _ _ _ _ h => h) (fun _ _ _ h => h.elim) (hr.mono hjk) hg hmg PySem.Pv.boot_list (by decide) (by decide) he2).run pins s σ H Q I ?_
    obtain ⟨B, F, G, w, sl, r, z⟩ := z
    refine ⟨B, F, G, w, sl, r, ha.mono _ _ _ _ (fun d fl w1 ⟨n, ed, n1, n2, zc⟩ v F1 G1 H1 r1 e1 f1 => ?_) z⟩
    subst ed
    have hv := (f1.da r1).int
    subst hv
    refine ⟨n, rfl, n1, n2, fun out H2 eH hO p hp => ?_⟩
    obtain ⟨F2, r2, e2, d2⟩ := HR.addT (K := X.K) hO (r1.hr.toRest.2.later eH)
    have R2 := r1.back r2 e2
    exact zc p out F2 G1 _ (R2.newOwn hp) (e1.trans e2) (R2.fresh hp).1 (R2.fresh hp).2 upd_same (R2.hr.f.free hp) (R2.hr.g.free hp) d2
  · intro sl w C C' hC z
    exact ha.mono _ _ _ _ (fun d fl w1 ⟨n, h1, h2, h3, h4⟩ => ⟨n, h1, h2, h3, hC _ _ h4⟩) z
end
end Ck
namespace Ck
open PySem PySem.Spec PyProof.Rows L2 GenW
/-! ### for x in each_shape(e), over data -/
def spEachF : SpF := fun vs yl ed => ∃ n : Int, vs = [.int n] ∧ 1 ≤ n ∧ n ≤ 60 ∧ (∀ i H0 x H, (∃ s, (shapes n)[i]? = some s ∧ isPair H x s) → Same H0 H → yl i H0 x H) ∧ ∀ i H0 H, i = (shapes n).length → Same H0 H → ed i H0 H
structure EachF (P : Program) (w : World) (K : PySem.W.Frag) (mg : Str → Option Value) (base : Heap) (k : Nat) : Prop where
  ex : ∃ (f : Addr) (fd : FuncData), GFf P w K mg base k f fd ["width"] spEachF ∧ mg "each_shape" = some (.ref f) ∧ PySem.W.keepIn K (.ref f) = true ∧ Binds K fd ["width"] []
theorem shapes_few {n : Int} (h : n ≤ 60) : (shapes n).length < sizeLine := by
  have l1 := shapesTo_len n.toNat n.toNat
  have l2 : n.toNat * n.toNat ≤ 60 * 60 := Nat.mul_le_mul (by omega) (by omega)
  exact Nat.lt_of_le_of_lt l1 (Nat.lt_of_lt_of_le (show 1 + n.toNat * n.toNat < 1000000 by omega) (size1M (Nat.le_refl _)))
section
variable {Ω : Type} {X : Cx} {W : Wd Ω} {e tgE : Expr} {pa : DE Ω} {p : DS Ω} {p2 pos pos2 : Pos} {j k : Nat} {g : TG} {tg : Tg} {body : List Stmt}
def wShp (pa : DE Ω) : DI Ω := fun sl w C => pa sl w fun d _ w' => ∃ n : Int, d = .int n ∧ 1 ≤ n ∧ n ≤ 60 ∧ C ((shapes n).map dS) w'
theorem SR.later2 {K : PySem.W.Frag} {B F G H H' : Hp} {w : Ω} {σ : L2.St} {sl : Sl} (r : SR K W B F G H w σ sl) (e : Same H H') : SR K W B F G H' w σ sl := r.back (r.hr.toRest.2.later e) (Same.refl _)
theorem SR.pair {K : PySem.W.Frag} {B F G H H' : Hp} {w : Ω} {σ : L2.St} {sl : Sl} (r : SR K W B F G H w σ sl) (e : Same H H') {x : V} {s : Int × Int} (h : isPair H' x s) : ∃ F2, SR K W B F2 G H' w σ sl ∧ Same F F2 ∧ Dr K F2 x (dS s) := by
  obtain ⟨F2, r2, e2, d2⟩ := HR.addT (K := K) (OutT.cons h .nil) (r.hr.toRest.2.later e)
  cases d2 with
  | cons q _ => exact ⟨F2, r.back r2 e2, e2, q⟩
theorem ds_forG (c : EachF X.prog X.w X.K X.mg X.base j) (hx : ∀ e s, ¬ X.xe e s) (hc : X.calm = true) (hr : Room k X.A) (hjk : j + 1 ≤ k) (hg2 : Gl X "each_shape") (ha : PD X W e pa) (hg : PGD X tgE g tg) (hb : PDB X W body p)
    (he2 : starEach [e] X.env = (false, eval e X.env) :: starEach [] X.env := by rfl) (hpl : (backTo pos2 (starEach [] X.env)).any (·.1) = false := by rfl) (hs : ∀ x, foldedSetIterable (.Call (.Name "each_shape" p2) [e] [] pos2) X.env x = pure x := by intro _; rfl) :
    PDS X W (.For tgE (.Call (.Name "each_shape" p2) [e] [] pos2) body [] pos) (wFor tg (wShp pa) p) := by
  obtain ⟨f, fd, F, hm, hk, hbd⟩ := c.ex
  refine ⟨ps_imp (ps_forF hx hc (hr.mono hjk) (pgf_call F (hr.mono (by omega)) hg2 hm hk hbd (pa_cons ha.run pa_nil he2) (by decide) he2 hpl) hg.pg hb.run hs) fun D σ H ⟨B, F, G, w, sl, r, z⟩ => ?_,
    fun D D' l sl w z => ha.mono _ _ _ _ (fun d fl w1 ⟨n, h1, h2, h3, h4⟩ => ⟨n, h1, h2, h3, wLoop_mono hb.mono l _ _ _ h4⟩) z⟩
  refine ⟨B, F, G, w, sl, r, ha.mono _ _ _ _ (fun d fl w1 ⟨n, ed, n1, n2, z⟩ v F1 G1 H1 r1 e1 f1 => ?_) z⟩
  subst ed
  have hv := (f1.da r1).int
  subst hv
  have few := shapes_few n2
  have ll : ((shapes n).map dS).length = (shapes n).length := List.length_map _
  refine ⟨fun i H0 x H => (∃ s, (shapes n)[i]? = some s ∧ isPair H x s) ∧ Same H0 H, fun i H0 H => i = (shapes n).length ∧ Same H0 H, ⟨n, rfl, n1, n2, fun i H0 x H h1 h2 => ⟨h1, h2⟩, fun i H0 H h1 h2 => ⟨h1, h2⟩⟩, fun i σ' H' => i ≤ (shapes n).length ∧ ∃ F' G' w' sl', SR X.K W B F' G' H' w' σ' sl' ∧ Same F1 F' ∧ wLoop tg p (up X.K W B F D) (((shapes n).map dS).drop i) sl' w', ⟨Nat.zero_le _, F1, G1, w1, sl, r1, Same.refl _, z⟩, fun i σ' H' hi => Nat.lt_of_le_of_lt hi.1 few, ?_⟩
  rintro i σ' H' ⟨hi, F', G', w', sl', r', e', z'⟩
  refine ⟨fun H2 ⟨q1, q2⟩ => ?_, fun x H2 ⟨⟨s, q1, q2⟩, q3⟩ => ?_⟩
  · rw [q1, ← ll, List.drop_length] at z'
    exact z' σ' F' G' H2 (r'.later2 q2) (e1.trans e')
  · have hlt : i < (shapes n).length := (List.getElem?_eq_some_iff.mp q1).1
    have hd : ((shapes n).map dS).drop i = dS s :: ((shapes n).map dS).drop (i + 1) := by
      rw [List.drop_eq_getElem_cons (by rw [ll]; exact hlt), List.getElem_map, (List.getElem?_eq_some_iff.mp q1).2]
    rw [hd] at z'
    obtain ⟨sl2, b1, b2⟩ := z'
    obtain ⟨F2, r2, e2, k2⟩ := r'.pair q3 q2
    refine hg.run r2 k2 b1 fun σ3 r3 _ => ⟨B, F2, G', w', sl2, r3, hb.mono _ _ ⟨fun sl4 w4 z4 σ4 F4 G4 H4 r4 e4 => ?_, ?_, ?_, fun sl4 w4 z4 σ4 F4 G4 H4 r4 e4 => ?_⟩ _ _ b2⟩
    · exact ⟨hlt, F4, G4, w4, sl4, r4, (e'.trans e2).trans e4, z4⟩
    · exact upV_mono ((e1.trans e').trans e2) fun _ _ z => z
    · exact upSl_mono ((e1.trans e').trans e2) fun _ _ z => z
    · exact ⟨hlt, F4, G4, w4, sl4, r4, (e'.trans e2).trans e4, z4⟩
end
theorem for_rangeF {lo : Int} {n : Nat} {g : TG} {tb : TFn} {D : FEnds} {ys : List V} {H0 : Hp} {σ : L2.St} {H : Hp} (Pv : Nat → List V → Hp → L2.St → Hp → Prop) (h0 : Pv 0 ys H0 σ H)
    (hs : ∀ i ys H0 σ H, i < n → Pv i ys H0 σ H → g (.int (lo + i)) σ H fun σ2 H2 => tb { D with nx := Pv (i + 1), ct := Pv (i + 1), bk := D.nx } ys H0 σ2 H2) (hd : ∀ ys H0 σ H, Pv n ys H0 σ H → D.nx ys H0 σ H) :
    ∃ W : Nat → Nat → List V → Hp → L2.St → Hp → Prop, (∃ m, W 0 m ys H0 σ H) ∧ ∀ i m ys H0 σ H, W i m ys H0 σ H →
      ((Itr lo n).stop i H ∧ D.nx ys H0 σ H) ∨ ((Itr lo n).go i H ∧ ∃ N : List V → Hp → L2.St → Hp → Prop, (∀ ys' H0' σ' H', N ys' H0' σ' H' → ∃ m', m' < m ∧ W (i + 1) m' ys' H0' σ' H') ∧ ∀ x H', (Itr lo n).yld i H x H' → g x σ H' fun σ2 H2 => tb { D with nx := N, ct := N, bk := D.nx } ys H0 σ2 H2) := by
  refine ⟨fun i m ys H0 σ H => m = n - i ∧ i ≤ n ∧ Pv i ys H0 σ H, ⟨n, by simp, Nat.zero_le _, h0⟩, ?_⟩
  rintro i m ys H0 σ H ⟨rfl, hi, p⟩
  rcases Nat.lt_or_ge i n with hlt | hge
  · refine .inr ⟨hlt, Pv (i + 1), fun ys' H0' σ' H' p' => ⟨n - (i + 1), by omega, rfl, hlt, p'⟩, ?_⟩
    rintro x H' ⟨rfl, rfl⟩
    exact hs i ys H0 σ _ hlt p
  · obtain rfl : i = n := by omega
    exact .inl ⟨Nat.le_refl _, hd ys H0 σ H p⟩
end Ck
namespace Ck
/-! ### ascending places and their runs -/
abbrev Asc (l : List Int) : Prop := l.Pairwise (· < ·)
/-- a run ahead of others: joined to the next one, if that begins just behind it -/
def mergeR (p : Int × Int) : List (Int × Int) → List (Int × Int)
  | [] => [p]
  | q :: t => if q.1 = p.2 + 1 then (p.1, q.2) :: t else p :: q :: t
theorem mergeR_pos {p q : Int × Int} {t : List (Int × Int)} (h : q.1 = p.2 + 1) : mergeR p (q :: t) = (p.1, q.2) :: t := if_pos h
theorem mergeR_neg {p q : Int × Int} {t : List (Int × Int)} (h : ¬ q.1 = p.2 + 1) : mergeR p (q :: t) = p :: q :: t := if_neg h
def runsC : List Int → List (Int × Int)
  | [] => []
  | x :: l => mergeR (x, x) (runsC l)
def pushR (acc : List (Int × Int)) (x : Int) : List (Int × Int) := match acc.getLast? with
  | none => acc ++ [(x, x)]
  | some p => if p.2 = x - 1 then acc.dropLast ++ [(p.1, x)] else acc ++ [(x, x)]
theorem merge_merge {a b x : Int} {R : List (Int × Int)} (h : x = b + 1) : mergeR (a, b) (mergeR (x, x) R) = mergeR (a, x) R := by
  cases R with
  | nil => simp [mergeR, h]
  | cons q t =>
    by_cases hq : q.1 = x + 1
    · rw [mergeR_pos hq, mergeR_pos (by exact h), mergeR_pos hq]
    · rw [mergeR_neg hq, mergeR_pos (by exact h), mergeR_neg hq]
theorem merge_apart {a b x : Int} {R : List (Int × Int)} (h : x ≠ b + 1) : mergeR (a, b) (mergeR (x, x) R) = (a, b) :: mergeR (x, x) R := by
  cases R with
  | nil => simp [mergeR, h]
  | cons q t =>
    by_cases hq : q.1 = x + 1
    · rw [mergeR_pos hq, mergeR_neg (by exact h)]
    · rw [mergeR_neg hq, mergeR_neg (by exact h)]
theorem foldl_push : ∀ (l : List Int) (r : List (Int × Int)) (a b : Int), l.foldl pushR (r ++ [(a, b)]) = r ++ mergeR (a, b) (runsC l)
  | [], r, a, b => by simp [runsC, mergeR]
  | x :: l, r, a, b => by
    rw [List.foldl_cons]
    have e : pushR (r ++ [(a, b)]) x = if b = x - 1 then r ++ [(a, x)] else (r ++ [(a, b)]) ++ [(x, x)] := by
      unfold pushR
      simp
    rw [e]
    by_cases h : b = x - 1
    · rw [if_pos h, foldl_push l r a x]
      show _ = r ++ mergeR (a, b) (mergeR (x, x) (runsC l))
      rw [merge_merge (by omega)]
    · rw [if_neg h, foldl_push l (r ++ [(a, b)]) x x]
      show _ = r ++ mergeR (a, b) (mergeR (x, x) (runsC l))
      rw [merge_apart (by omega), List.append_assoc]
      rfl
theorem foldl_runs (l : List Int) : l.foldl pushR [] = runsC l := by
  cases l with
  | nil => rfl
  | cons x l =>
    rw [List.foldl_cons]
    show l.foldl pushR ([] ++ [(x, x)]) = _
    rw [foldl_push]
    rfl
/-! ### the members of runs -/
def span (p : Int × Int) : List Int := (List.range (p.2 - p.1 + 1).toNat).map fun (k : Nat) => p.1 + (k : Int)
def placesR (rs : List (Int × Int)) : List Int := rs.flatMap span
theorem mem_span {p : Int × Int} {x : Int} : x ∈ span p ↔ p.1 ≤ x ∧ x ≤ p.2 := by
  unfold span
  rw [List.mem_map]
  constructor
  · rintro ⟨k, hk, rfl⟩
    have := List.mem_range.mp hk
    omega
  · rintro ⟨h1, h2⟩
    exact ⟨(x - p.1).toNat, List.mem_range.mpr (by omega), by omega⟩
theorem span_len {p : Int × Int} (h : p.1 ≤ p.2 + 1) : ((span p).length : Int) = p.2 - p.1 + 1 := by
  unfold span
  rw [List.length_map, List.length_range]
  omega
theorem span_cons {a b : Int} (h : a ≤ b) : span (a, b) = a :: span (a + 1, b) := by
  unfold span
  have e : (b - a + 1).toNat = (b - (a + 1) + 1).toNat + 1 := by omega
  dsimp only
  rw [e, List.range_succ_eq_map, List.map_cons, List.map_map]
  congr 1
  · simp
  · refine List.map_congr_left fun k _ => ?_
    simp [Function.comp]
    omega
theorem span_one (x : Int) : span (x, x) = [x] := by
  rw [span_cons (Int.le_refl x)]
  unfold span
  have : (x - (x + 1) + 1).toNat = 0 := by omega
  dsimp only
  rw [this]
  rfl
/-- the runs rs from lo on: ascending, with room between two -/
def RunsOk (lo : Int) : List (Int × Int) → Prop
  | [] => True
  | p :: r => lo ≤ p.1 ∧ p.1 ≤ p.2 ∧ RunsOk (p.2 + 2) r
theorem RunsOk.mono {lo lo' : Int} (h : lo' ≤ lo) : ∀ {rs : List (Int × Int)}, RunsOk lo rs → RunsOk lo' rs
  | [], _ => trivial
  | _ :: _, ⟨a, b, c⟩ => ⟨by omega, b, c⟩
theorem runsC_ok {lo : Int} : ∀ {l : List Int}, Asc l → (∀ x ∈ l, lo ≤ x) → RunsOk lo (runsC l) ∧ placesR (runsC l) = l
  | [], _, _ => ⟨trivial, rfl⟩
  | x :: l, h, hl => by
    obtain ⟨h1, h2⟩ := List.pairwise_cons.mp h
    obtain ⟨i1, i2⟩ := runsC_ok (lo := x + 1) h2 fun y hy => h1 y hy
    show RunsOk lo (mergeR (x, x) (runsC l)) ∧ placesR (mergeR (x, x) (runsC l)) = x :: l
    have hx := hl x List.mem_cons_self
    cases hR : runsC l with
    | nil =>
      rw [hR] at i2
      refine ⟨⟨hx, Int.le_refl _, trivial⟩, ?_⟩
      rw [← i2]
      show span (x, x) ++ [] = [x]
      rw [span_one]
      rfl
    | cons q t =>
      rw [hR] at i1 i2
      obtain ⟨j1, j2, j3⟩ := i1
      by_cases hq : q.1 = x + 1
      · rw [mergeR_pos hq]
        refine ⟨⟨hx, by show x ≤ q.2; omega, j3⟩, ?_⟩
        show span (x, q.2) ++ placesR t = x :: l
        rw [span_cons (by omega), List.cons_append]
        congr 1
        rw [← i2]
        show _ = span q ++ placesR t
        rw [← hq]
      · rw [mergeR_neg hq]
        refine ⟨⟨hx, Int.le_refl _, by show x + 2 ≤ q.1; omega, j2, j3⟩, ?_⟩
        show span (x, x) ++ (span q ++ placesR t) = x :: l
        rw [span_one, ← i2]
        rfl
theorem runsC_places {rs : List (Int × Int)} {l : List Int} (h : Asc l) (e : placesR rs = l) (ok : ∀ lo, RunsOk lo rs → runsC (placesR rs) = rs) {lo : Int} (h2 : RunsOk lo rs) : runsC l = rs := by
  rw [← e]
  exact ok lo h2
theorem runs_span {R : List (Int × Int)} {b : Int} (hR : RunsOk (b + 2) R) : ∀ (n : Nat) (a : Int), b - a = (n : Int) → ∀ l : List Int, runsC l = R → runsC (span (a, b) ++ l) = (a, b) :: R
  | 0, a, h, l, e => by
    have : a = b := by omega
    subst this
    rw [span_one]
    show mergeR (a, a) (runsC l) = _
    rw [e]
    cases R with
    | nil => rfl
    | cons q t =>
      have := hR.1
      rw [mergeR_neg (by dsimp only; omega)]
  | n + 1, a, h, l, e => by
    rw [span_cons (by omega), List.cons_append]
    show mergeR (a, a) (runsC (span (a + 1, b) ++ l)) = _
    rw [runs_span hR n (a + 1) (by omega) l e]
    rw [mergeR_pos rfl]
theorem runsC_of {lo : Int} : ∀ {rs : List (Int × Int)}, RunsOk lo rs → runsC (placesR rs) = rs
  | [], _ => rfl
  | (a, b) :: r, ⟨_, h2, h3⟩ => by
    show runsC (span (a, b) ++ placesR r) = _
    have h2 : a ≤ b := h2
    exact runs_span h3 (b - a).toNat a (by omega) _ (runsC_of h3)
theorem placesR_lo {lo : Int} : ∀ {rs : List (Int × Int)}, RunsOk lo rs → ∀ x ∈ placesR rs, lo ≤ x
  | [], _, x, h => nomatch h
  | (a, b) :: r, ⟨h1, h2, h3⟩, x, h => by
    rcases List.mem_append.mp (show x ∈ span (a, b) ++ placesR r from h) with z | z
    · have := mem_span.mp z
      dsimp only at h1 this
      omega
    · have := placesR_lo h3 x z
      dsimp only at h1 h2 this
      omega
theorem span_asc (p : Int × Int) : Asc (span p) := by
  unfold span
  refine List.pairwise_map.mpr (List.Pairwise.imp ?_ List.pairwise_lt_range)
  intro a b h
  omega
theorem placesR_asc {lo : Int} : ∀ {rs : List (Int × Int)}, RunsOk lo rs → Asc (placesR rs)
  | [], _ => List.Pairwise.nil
  | (a, b) :: r, ⟨h1, h2, h3⟩ => by
    show Asc (span (a, b) ++ placesR r)
    refine List.pairwise_append.mpr ⟨span_asc _, placesR_asc h3, fun x hx y hy => ?_⟩
    have := mem_span.mp hx
    have := placesR_lo h3 y hy
    dsimp only at *
    omega
/-! ### sizes and shapes -/
def sizeR (rs : List (Int × Int)) : Int := (rs.map fun p => p.2 - p.1 + 1).sum
theorem sizeR_places {lo : Int} : ∀ {rs : List (Int × Int)}, RunsOk lo rs → sizeR rs = (placesR rs).length
  | [], _ => rfl
  | (a, b) :: r, ⟨h1, h2, h3⟩ => by
    show (b - a + 1) + sizeR r = ((span (a, b) ++ placesR r).length : Nat)
    rw [List.length_append, sizeR_places h3]
    have := span_len (p := (a, b)) (by dsimp only at h2 ⊢; omega)
    dsimp only at this
    omega
/-! ### the law's own way -/
def starts (l : List Int) : List Int := l.filter fun x => !decide (x - 1 ∈ l)
def stops (l : List Int) : List Int := l.filter fun x => !decide (x + 1 ∈ l)
theorem starts_cons {x : Int} {l : List Int} (h : Asc (x :: l)) : starts (x :: l) = x :: (starts l).filter fun y => !decide (y = x + 1) := by
  obtain ⟨h1, h2⟩ := List.pairwise_cons.mp h
  unfold starts
  rw [List.filter_cons]
  have hx : decide (x - 1 ∈ x :: l) = false := by
    refine decide_eq_false fun z => ?_
    rcases List.mem_cons.mp z with z | z
    · omega
    · have := h1 _ z
      omega
  rw [hx, Bool.not_false, if_pos rfl]
  congr 1
  rw [List.filter_filter]
  refine List.filter_congr fun y hy => ?_
  by_cases e : y = x + 1
  · subst e
    simp
  · have : decide (y - 1 ∈ x :: l) = decide (y - 1 ∈ l) := by
      by_cases z : y - 1 ∈ l
      · rw [decide_eq_true z, decide_eq_true (List.mem_cons_of_mem _ z)]
      · rw [decide_eq_false z, decide_eq_false]
        intro q
        rcases List.mem_cons.mp q with q | q
        · omega
        · exact z q
    rw [this, decide_eq_false e]
    simp
theorem stops_cons {x : Int} {l : List Int} (h : Asc (x :: l)) : stops (x :: l) = if x + 1 ∈ l then stops l else x :: stops l := by
  obtain ⟨h1, h2⟩ := List.pairwise_cons.mp h
  unfold stops
  rw [List.filter_cons]
  have e1 : ∀ y ∈ l, (!decide (y + 1 ∈ x :: l)) = !decide (y + 1 ∈ l) := fun y hy => by
    by_cases z : y + 1 ∈ l
    · rw [decide_eq_true z, decide_eq_true (List.mem_cons_of_mem _ z)]
    · rw [decide_eq_false z, decide_eq_false]
      intro q
      rcases List.mem_cons.mp q with q | q
      · have := h1 y hy
        omega
      · exact z q
  rw [List.filter_congr e1]
  by_cases hx : x + 1 ∈ l
  · rw [if_pos hx, decide_eq_true (List.mem_cons_of_mem _ hx), Bool.not_true, if_neg Bool.false_ne_true]
  · rw [if_neg hx, decide_eq_false (fun q => by
      rcases List.mem_cons.mp q with q | q
      · omega
      · exact hx q), Bool.not_false, if_pos rfl]
/-- what stands at the head of the starts of ascending places -/
theorem starts_head {l : List Int} (h : Asc l) : (l = [] ∧ starts l = []) ∨ ∃ y t u, l = y :: t ∧ starts l = y :: u ∧ ∀ z ∈ u, y + 1 < z := by
  cases l with
  | nil => exact .inl ⟨rfl, rfl⟩
  | cons y t =>
    refine .inr ⟨y, t, _, rfl, starts_cons h, fun z hz => ?_⟩
    obtain ⟨h1, h2⟩ := List.pairwise_cons.mp h
    obtain ⟨k1, k2⟩ := List.mem_filter.mp hz
    have k3 := (List.mem_filter.mp k1).1
    have := h1 z k3
    have : z ≠ y + 1 := by simpa using k2
    omega
theorem zip_runs : ∀ {l : List Int}, Asc l → (starts l).zip (stops l) = runsC l ∧ (starts l).length = (stops l).length
  | [], _ => ⟨rfl, rfl⟩
  | x :: l, h => by
    obtain ⟨h1, h2⟩ := List.pairwise_cons.mp h
    obtain ⟨i1, i2⟩ := zip_runs h2
    rw [starts_cons h, stops_cons h]
    show _ = mergeR (x, x) (runsC l) ∧ _
    rw [← i1]
    rcases starts_head h2 with ⟨e1, e2⟩ | ⟨y, t, u, e1, e2, hu⟩
    · subst e1
      simp [starts, stops, mergeR]
    · have hu' : u.filter (fun z => !decide (z = x + 1)) = u := by
        rw [List.filter_eq_self]
        intro z hz
        have := hu z hz
        have := h1 y (by rw [e1]; exact List.mem_cons_self)
        simp
        omega
      rw [e2] at i2 ⊢
      cases hs : stops l with
      | nil => rw [hs] at i2; simp at i2
      | cons s v =>
        rw [hs] at i2
        have hl : u.length = v.length := by simpa using i2
        rw [List.filter_cons]
        by_cases hy : y = x + 1
        · have hm : x + 1 ∈ l := by rw [e1, hy]; exact List.mem_cons_self
          rw [if_pos hm]
          simp [hy, hu', mergeR, hl]
        · have hm : x + 1 ∉ l := by
            rw [e1]
            intro z
            rcases List.mem_cons.mp z with z | z
            · omega
            · have h3 := (List.pairwise_cons.mp (by rw [e1] at h2; exact h2)).1 _ z
              have := h1 y (by rw [e1]; exact List.mem_cons_self)
              omega
          rw [if_neg hm]
          simp [hy, hu', mergeR, hl]
theorem shape_runs {l : List Int} (h : Asc l) : ((starts l).length : Int) = (runsC l).length ∧ sizeR (runsC l) = l.length := by
  obtain ⟨i1, i2⟩ := zip_runs h
  constructor
  · rw [← i1, List.length_zip, ← i2, Nat.min_self]
  · obtain ⟨lo, hlo⟩ : ∃ lo : Int, ∀ x ∈ l, lo ≤ x := by
      cases l with
      | nil => exact ⟨0, fun x h => nomatch h⟩
      | cons y t =>
        refine ⟨y, fun x hx => ?_⟩
        rcases List.mem_cons.mp hx with z | z
        · omega
        · have := (List.pairwise_cons.mp h).1 x z
          omega
    obtain ⟨j1, j2⟩ := runsC_ok h hlo
    rw [sizeR_places j1, j2]
end Ck
namespace Ck
open PySem PySem.Spec PyProof.Rows L2
local macro_rules | `(tactic| walk_at "ck") => `(tactic| try simp only [wNext, wBrk, wCnt, wSeq, wRet, wRetN, wSet, wOwn, wDrop, wUnp, wPar, wIfS, wApp, wExt, wSetIx, wAug, wFrz, wFor, k_var, k_vk1, k_vk2, k_par, wC, wL, wOp, wOpL, wF, wFL, wNil, wCons, wTup, wLst, wTV, wTAnd, wTOr, wTNot, wAnd, wOr, wNot, wIfx, wIsN, wNotN, wChain, wO0, wO1, wSl, wCall, wIsi, wLr1, wLr2, wNeg, wLc, wYes, wiSeq, wiR1, wiR2, wiEnum, wiZip, noOwnB, wipeD, wEmp, wListZip, wSortSet, wRevL, wRevT, wOneB, k_mulT, k_add1, k_add2, k_add3, k_add4, k_addL, k_sub, k_mul1, k_mul2, k_mulL, k_div, k_mod, k_pow, k_cmp, k_eq, k_ne, k_ea1, k_ea2, k_ea3, k_ea4, k_in1, k_in2, k_in3, k_in4, k_ix1, k_ix2, k_ix3, k_sl1, k_sl2, k_len1, k_len2, k_len3, k_int1, k_int2, k_abs, k_tuple1, k_tuple2, k_list1, k_list2, k_min2, k_max2, k_non_non, k_ty_int_non, k_ty_bool_non, k_ty_tuple_non, k_ty_str_non, k_ty_list_non, k_non_bl, k_ty_int_bl, k_ty_bool_bl, k_ty_tuple_bl, k_ty_str_bl, k_ty_list_bl, k_non_int, k_ty_int_int, k_ty_bool_int, k_ty_tuple_int, k_ty_str_int, k_ty_list_int, k_non_str, k_ty_int_str, k_ty_bool_str, k_ty_tuple_str, k_ty_str_str, k_ty_list_str, k_non_tup, k_ty_int_tup, k_ty_bool_tup, k_ty_tuple_tup, k_ty_str_tup, k_ty_list_tup, k_non_lst, k_ty_int_lst, k_ty_bool_lst, k_ty_tuple_lst, k_ty_str_lst, k_ty_list_lst, k_non_emp, k_ty_int_emp, k_ty_bool_emp, k_ty_tuple_emp, k_ty_str_emp, k_ty_list_emp, k_seq_non, k_seq_bl, k_seq_int, k_seq_str, k_seq_tup, k_seq_lst, k_seq_emp, k_sz0, k_sz1, k_sz2, k_sz3, k_sz4, k_sz5, k_sz6, k_sz7, k_sz8, k_sz9, k_sz10, k_sz11, k_sz12, k_sz13, k_sz14, k_sz15, k_sz16, k_sz17, k_sz18, k_sz19, k_sz20, k_sz21, k_sz22, k_sz23, k_at0, k_at1, k_at2, k_at3, k_iteT, k_iteF, k_bt1, k_bt2, k_sa0, k_sa1, k_endn, k_endr, List.getElem?_cons_succ, List.getElem?_cons_zero, List.set_cons_succ, List.set_cons_zero, List.length_cons, List.length_nil, List.length_map, List.all_cons, List.all_nil, Nat.reduceAdd, Nat.zero_add, Bool.and_true, Bool.and_self, Option.some.injEq, Dt.int.injEq, Dt.bl.injEq, Dt.str.injEq, Dt.tup.injEq, Dt.lst.injEq, Sv.dat.injEq, Sv.own.injEq, exists_eq_left', exists_eq_left, exists_eq_right, exists_eq', exists_eq, if_true, if_false, Bool.not_false, Bool.not_true, Bool.not_not, true_and, and_true, false_and, and_false, exists_const, reduceCtorEq])

/-! ### drawn sets, their runs -/
theorem mem_cutD {l : List Dt} {lo hi : Option Int} {d : Dt} (h : d ∈ cutD l lo hi) : d ∈ l := List.mem_of_mem_drop (List.mem_of_mem_take h)
theorem inD_int {x : Int} {l : List Int} : inD (.int x) (l.map .int) = decide (x ∈ l) := by
  unfold inD inV
  rw [List.map_map, List.any_map]
  by_cases h : x ∈ l
  · rw [decide_eq_true h]
    refine List.any_eq_true.mpr ⟨x, h, ?_⟩
    simp [Function.comp, fv, eqV]
  · rw [decide_eq_false h, List.any_eq_false]
    intro y hy hz
    have : y = x := by simpa [Function.comp, fv, eqV] using hz
    exact h (this ▸ hy)
theorem flat_ints (l : List Int) : (l.map Dt.int).all flatD = true := by
  rw [List.all_map]
  exact List.all_eq_true.mpr fun _ _ => rfl
/-- a comprehension whose test draws -/
theorem lc_drawT {tg : Tg} {t : DT Dw} {pe : DE Dw} {sl0 : Sl} {α : Type} (enc : α → Dt) (f : α → Dt) (c : Nat) {p : Addr} : ∀ (ys : List α) {n : Nat} {C : List Dt → Dw → Prop},
    (∀ y ∈ ys, ∃ sl', bindTg tg (enc y) sl0 = some sl' ∧ (∀ (n : Nat) (C : Bool → Dw → Prop), c ≤ n → (∀ b m, n ≤ m + c → C b ⟨p, m⟩) → t sl' ⟨p, n⟩ C) ∧ ∀ (n : Nat) (C : Dt → Fl → Dw → Prop), C (f y) .cl ⟨p, n⟩ → pe sl' ⟨p, n⟩ C) →
    ys.length * c ≤ n → (∀ (zs : List α) (m : Nat), zs.Sublist ys → n ≤ m + ys.length * c → C (zs.map f) ⟨p, m⟩) → lcLoop tg t pe sl0 (ys.map enc) ⟨p, n⟩ C
  | [], n, C, _, _, hC => hC [] n (List.Sublist.refl _) (by simp)
  | y :: ys, n, C, h, hn, hC => by
    obtain ⟨sl', h1, h2, h3⟩ := h y List.mem_cons_self
    rw [List.length_cons, Nat.add_mul] at hn
    refine ⟨sl', h1, h2 n _ (by omega) fun b m hm => ?_⟩
    have ih := fun C => lc_drawT enc f c (n := m) (C := C) ys (fun z hz => h z (List.mem_cons_of_mem _ hz)) (by omega)
    cases b with
    | true =>
      refine h3 m _ ⟨rfl, ih _ fun zs k hz hk => ?_⟩
      exact hC (y :: zs) k (hz.cons₂ y) (by rw [List.length_cons, Nat.add_mul]; omega)
    | false =>
      refine ih _ fun zs k hz hk => ?_
      exact hC zs k (hz.cons y) (by rw [List.length_cons, Nat.add_mul]; omega)
def S_law_set : Spc Dw := drawS (ι := Int) (fun w => [.int w]) (fun w => 1 ≤ w ∧ w ≤ 60) (fun w => w.toNat + 10) (fun w d => ∃ l : List Int, d = .lst (l.map .int) ∧ Asc l ∧ ∀ x ∈ l, 0 ≤ x ∧ x < w)
def S_law_runs {Ω : Type} : Spc Ω := pureS (ι := List Int) (fun l => [.lst (l.map .int)]) (fun l => Asc l ∧ l.length ≤ 100000) fun l => .tup ((runsC l).map dS)
abbrev p_law_runs {Ω : Type} : DS Ω :=
  (wSeq (wSet 1 (wL (wLc [3] (.one 3) (wiSeq (wVar 0)) (wTV (wOp (fIn true) (wOp fSub (wVar 3) (wC (.int 1))) (wVar 0))) (wVar 3))))
  (wSeq (wSet 2 (wL (wLc [3] (.one 3) (wiSeq (wVar 0)) (wTV (wOp (fIn true) (wOp fAdd (wVar 3) (wC (.int 1))) (wVar 0))) (wVar 3))))
  (wRet (wF fTuple (wL (wListZip (wVar 1) (wVar 2)))))))
abbrev p_law_set : DS Dw :=
  (wSeq (wSet 2 (wCall S_law_draw (wCons (wVar 0) (wCons (wC (.int 4)) wNil))))
  (wSeq (wIfS (wTV (wOp fLt (wVar 2) (wC (.int 3)))) (wSeq (wSet 3 (wCall S_law_one (wCons (wVar 0) (wCons (wL (wOpL fAddL (wSl fSl (wL (wLst (wCons (wL (wLst (wCons (wC (.int 0)) (wCons (wC (.int 0)) (wCons (wC (.int 0)) (wCons (wC (.int 1)) wNil)))))) (wCons (wL (wLst (wCons (wC (.int 0)) (wCons (wC (.int 1)) wNil)))) (wCons (wL (wLst (wCons (wC (.int 0)) (wCons (wC (.int 1)) (wCons (wC (.int 1)) (wCons (wC (.int 1)) (wCons (wC (.int 1)) wNil))))))) wNil))))) (wO1 (wVar 2)) (wO1 (wOp fAdd (wVar 2) (wC (.int 1))))) (wL (wLst (wCons (wL (wLst (wCons (wC (.int 0)) (wCons (wC (.int 1)) wNil)))) wNil))))) wNil))))
  (wRet (wL (wLc [7] (.one 7) (wiR1 (wVar 1)) (wTV (wOp fEq (wCall S_law_one (wCons (wVar 0) (wCons (wVar 3) wNil))) (wC (.int 1)))) (wVar 7))))) wNext)
  (wSeq (wSet 4 (wL (wLst wNil)))
  (wSeq (wFor (.one 5) (wiR1 (wCall S_law_draw (wCons (wVar 0) (wCons (wC (.int 4)) wNil)))) (wSeq (wSet 6 (wCall S_law_draw (wCons (wVar 0) (wCons (wVar 1) wNil))))
  (wSet 4 (wL (wOpL fAddL (wVar 4) (wL (wLr2 (wVar 6) (wOp fMin2 (wVar 1) (wOp fAdd (wOp fAdd (wVar 6) (wC (.int 1))) (wCall S_law_draw (wCons (wVar 0) (wCons (wVar 1) wNil))))))))))))
  (wRet (wL (wSortSet (wVar 4))))))))
theorem m_law_runs {Ω : Type} : ∀ ds (w : Ω) C, S_law_runs.run ds w C → p_law_runs (endD C) (startD 4 ds) w := by
  rintro ds w C ⟨l, rfl, ⟨ha, hl⟩, q⟩
  replace q : C (.tup ((runsC l).map dS)) w := q
  show p_law_runs _ [some (.dat (.lst (l.map .int))), none, none, none] _
  unfold p_law_runs
  walk_at "ck"
  refine ⟨size1M (by omega), lc_typed Dt.int (fun x => !decide (x - 1 ∈ l)) Dt.int l (fun x hx => ⟨_, rfl, fun C' h => ?_, fun _ C' h => ?_⟩) ?_⟩
  · walk_at "ck"
    refine ⟨rfl, flat_ints l, ?_⟩
    rw [inD_int]
    exact h
  · walk_at "ck"
    exact h
  · walk_at "ck"
    refine ⟨size1M (by omega), lc_typed Dt.int (fun x => !decide (x + 1 ∈ l)) Dt.int l (fun x hx => ⟨_, rfl, fun C' h => ?_, fun _ C' h => ?_⟩) ?_⟩
    · walk_at "ck"
      refine ⟨rfl, flat_ints l, ?_⟩
      rw [inD_int]
      exact h
    · walk_at "ck"
      exact h
    · walk_at "ck"
      have e : zipD ((starts l).map Dt.int) ((stops l).map Dt.int) = (runsC l).map dS := by
        rw [← (zip_runs ha).1]
        unfold zipD
        rw [List.zipWith_map, List.zip, List.map_zipWith]
        rfl
      refine ⟨_, _, rfl, rfl, ?_⟩
      show C (.tup (zipD ((starts l).map Dt.int) ((stops l).map Dt.int))) w
      rw [e]
      exact q
theorem rngD_ints (lo : Int) (n : Nat) : rngD lo n = ((List.range n).map fun (k : Nat) => lo + (k : Int)).map Dt.int := by
  rw [rngD_eq, List.map_map]
  rfl
theorem m_law_set : ∀ ds w C, S_law_set.run ds w C → p_law_set (endD C) (startD 8 ds) w := by
  rintro ds ⟨p, n⟩ C ⟨wd, rfl, ⟨h1, h2⟩, h3, q⟩
  replace h1 : 1 ≤ wd := h1
  replace h2 : wd ≤ 60 := h2
  replace h3 : wd.toNat + 10 ≤ n := h3
  replace q : ∀ (l : List Int) m, Asc l → (∀ x ∈ l, 0 ≤ x ∧ x < wd) → n ≤ m + (wd.toNat + 10) → C (.lst (l.map .int)) ⟨p, m⟩ := fun l m a b c => q _ m ⟨l, rfl, a, b⟩ c
  show p_law_set _ [some (.dat (.opq (.ref p))), some (.dat (.int wd)), none, none, none, none, none, none] _
  unfold p_law_set
  walk_at "ck"
  refine use_draw (by decide) (by decide) (by omega) fun way n1 w0 w1 e1 => ?_
  walk_at "ck"
  refine ite2 (fun hd => ?_) (fun hd => ?_)
  · have hcl : (cutD [Dt.lst [.int 0, .int 0, .int 0, .int 1], .lst [.int 0, .int 1], .lst [.int 0, .int 1, .int 1, .int 1, .int 1]] (some way) (some (way + 1))).length ≤ 3 := by
      unfold cutD
      rw [List.length_take, List.length_drop]
      simp
      omega
    refine ⟨size1M (by omega), ?_⟩
    refine use_one (by simp) (by simp; omega) (by omega) fun d n2 hd2 e2 => ?_
    obtain ⟨xs, rfl, x0, x1⟩ : ∃ xs : List Int, d = .lst (xs.map .int) ∧ 0 < xs.length ∧ xs.length ≤ 5 := by
      rcases List.mem_append.mp hd2 with z | z
      · have z := mem_cutD z
        simp only [List.mem_cons, List.not_mem_nil, or_false] at z
        rcases z with rfl | rfl | rfl
        · exact ⟨[0, 0, 0, 1], rfl, by decide, by decide⟩
        · exact ⟨[0, 1], rfl, by decide, by decide⟩
        · exact ⟨[0, 1, 1, 1, 1], rfl, by decide, by decide⟩
      · rw [List.mem_singleton.mp z]
        exact ⟨[0, 1], rfl, by decide, by decide⟩
    walk_at "ck"
    rw [rngD_eq]
    refine ⟨by omega, by omega, by rw [List.length_map, List.length_range]; exact size1M (by omega), ?_⟩
    refine lc_drawT (rngN 0) (rngN 0) 1 _ (fun y hy => ⟨_, rfl, fun m C' hm hC' => ?_, fun m C' h => ?_⟩) (by rw [List.length_range]; omega) ?_
    · walk_at "ck"
      refine use_one (by rw [List.length_map]; exact x0) (by rw [List.length_map]; omega) hm fun d m2 hd e => ?_
      obtain ⟨x, _, rfl⟩ := List.mem_map.mp hd
      walk_at "ck"
      exact hC' _ _ e
    · walk_at "ck"
      exact h
    · intro zs m hz hm
      rw [List.length_range] at hm
      have e : zs.map (rngN 0) = (zs.map fun (k : Nat) => (0 : Int) + (k : Int)).map Dt.int := by rw [List.map_map]; rfl
      rw [e]
      refine q _ m ?_ (fun x hx => ?_) (by omega)
      · refine List.pairwise_map.mpr ((List.Pairwise.sublist hz List.pairwise_lt_range).imp ?_)
        intro a b h
        omega
      · obtain ⟨k, hk, rfl⟩ := List.mem_map.mp hx
        have := List.mem_range.mp (hz.subset hk)
        omega
  · refine use_draw (by decide) (by decide) (by omega) fun m n2 m0 m1 e2 => ?_
    walk_at "ck"
    rw [rngD_eq]
    refine ⟨by omega, by omega, ?_⟩
    refine loop_drawN (rngN 0) 2 (fun k sl => ∃ x5 x6, ∃ l : List Int, sl = [some (.dat (.opq (.ref p))), some (.dat (.int wd)), some (.dat (.int way)), none, some (.dat (.lst (l.map .int))), x5, x6, none] ∧ l.length ≤ 60 * k ∧ ∀ x ∈ l, 0 ≤ x ∧ x < wd) _ ?_ ⟨_, _, [], rfl, by simp, by simp⟩ (by rw [List.length_range]; omega) ?_
    · rintro k j sl hj ⟨x5, x6, l, rfl, hl, hx⟩
      have hk : k < m.toNat := by
        have := (List.getElem?_eq_some_iff.mp hj).1
        rwa [List.length_range] at this
      refine ⟨_, rfl, fun n3 N hn3 hN => ?_⟩
      walk_at "ck"
      refine use_draw (by omega) (by omega) (by omega) fun s n4 s0 s1 e4 => ?_
      walk_at "ck"
      refine use_draw (by omega) (by omega) (by omega) fun u n5 u0 u1 e5 => ?_
      walk_at "ck"
      obtain ⟨b, hb⟩ : ∃ b, (if s + 1 + u < wd then s + 1 + u else wd) = b := ⟨_, rfl⟩
      have b1 : s < b ∧ b ≤ wd := by
        rw [← hb]
        split <;> omega
      rw [hb]
      refine ⟨s, b, rfl, rfl, ⟨by omega, by omega, by omega, by omega, by omega⟩, ?_⟩
      rw [rngD_ints]
      refine ⟨?_, ?_⟩
      · simp only [List.length_map, List.length_range]
        exact size1M (by omega)
      · refine hN _ _ ⟨_, _, l ++ (List.range (b - s).toNat).map fun (k : Nat) => s + (k : Int), by rw [List.map_append], ?_, fun x hx' => ?_⟩ (by omega)
        · rw [List.length_append, List.length_map, List.length_range]
          omega
        · rcases List.mem_append.mp hx' with z | z
          · exact hx x z
          · obtain ⟨k, hk, rfl⟩ := List.mem_map.mp z
            have := List.mem_range.mp hk
            omega
    · rintro sl n3 ⟨x5, x6, l, rfl, hl, hx⟩ e3
      rw [List.length_range] at e3 hl
      walk_at "ck"
      refine ⟨l, (List.range 60).map fun (k : Nat) => (k : Int), rfl, by omega, by rw [List.length_map, List.length_range]; decide, fun x hm => ?_, fun us hs hm => ?_⟩
      · obtain ⟨a, b⟩ := hx x hm
        exact List.mem_map.mpr ⟨x.toNat, List.mem_range.mpr (by omega), by omega⟩
      · exact q us n3 hs (fun x h => hx x ((hm x).mp h)) (by omega)
end Ck
namespace Ck
open PySem PySem.Spec PyProof.Rows L2
local macro_rules | `(tactic| walk_at "ck") => `(tactic| try simp only [wNext, wBrk, wCnt, wSeq, wRet, wRetN, wSet, wOwn, wDrop, wUnp, wPar, wIfS, wApp, wExt, wSetIx, wAug, wFrz, wFor, k_var, k_vk1, k_vk2, k_par, wC, wL, wOp, wOpL, wF, wFL, wNil, wCons, wTup, wLst, wTV, wTAnd, wTOr, wTNot, wAnd, wOr, wNot, wIfx, wIsN, wNotN, wChain, wO0, wO1, wSl, wCall, wIsi, wLr1, wLr2, wNeg, wLc, wYes, wiSeq, wiR1, wiR2, wiEnum, wiZip, noOwnB, wipeD, wEmp, wListZip, wSortSet, wRevL, wRevT, wOneB, k_mulT, k_add1, k_add2, k_add3, k_add4, k_addL, k_sub, k_mul1, k_mul2, k_mulL, k_div, k_mod, k_pow, k_cmp, k_eq, k_ne, k_ea1, k_ea2, k_ea3, k_ea4, k_in1, k_in2, k_in3, k_in4, k_ix1, k_ix2, k_ix3, k_sl1, k_sl2, k_len1, k_len2, k_len3, k_int1, k_int2, k_abs, k_tuple1, k_tuple2, k_list1, k_list2, k_min2, k_max2, k_non_non, k_ty_int_non, k_ty_bool_non, k_ty_tuple_non, k_ty_str_non, k_ty_list_non, k_non_bl, k_ty_int_bl, k_ty_bool_bl, k_ty_tuple_bl, k_ty_str_bl, k_ty_list_bl, k_non_int, k_ty_int_int, k_ty_bool_int, k_ty_tuple_int, k_ty_str_int, k_ty_list_int, k_non_str, k_ty_int_str, k_ty_bool_str, k_ty_tuple_str, k_ty_str_str, k_ty_list_str, k_non_tup, k_ty_int_tup, k_ty_bool_tup, k_ty_tuple_tup, k_ty_str_tup, k_ty_list_tup, k_non_lst, k_ty_int_lst, k_ty_bool_lst, k_ty_tuple_lst, k_ty_str_lst, k_ty_list_lst, k_non_emp, k_ty_int_emp, k_ty_bool_emp, k_ty_tuple_emp, k_ty_str_emp, k_ty_list_emp, k_seq_non, k_seq_bl, k_seq_int, k_seq_str, k_seq_tup, k_seq_lst, k_seq_emp, k_sz0, k_sz1, k_sz2, k_sz3, k_sz4, k_sz5, k_sz6, k_sz7, k_sz8, k_sz9, k_sz10, k_sz11, k_sz12, k_sz13, k_sz14, k_sz15, k_sz16, k_sz17, k_sz18, k_sz19, k_sz20, k_sz21, k_sz22, k_sz23, k_at0, k_at1, k_at2, k_at3, k_iteT, k_iteF, k_bt1, k_bt2, k_sa0, k_sa1, k_endn, k_endr, List.getElem?_cons_succ, List.getElem?_cons_zero, List.set_cons_succ, List.set_cons_zero, List.length_cons, List.length_nil, List.length_map, List.all_cons, List.all_nil, Nat.reduceAdd, Nat.zero_add, Bool.and_true, Bool.and_self, Option.some.injEq, Dt.int.injEq, Dt.bl.injEq, Dt.str.injEq, Dt.tup.injEq, Dt.lst.injEq, Sv.dat.injEq, Sv.own.injEq, exists_eq_left', exists_eq_left, exists_eq_right, exists_eq', exists_eq, if_true, if_false, Bool.not_false, Bool.not_true, Bool.not_not, true_and, and_true, false_and, and_false, exists_const, reduceCtorEq])

section
variable {Ω : Type} {tg : Tg} {t : DT Ω} {pe : DE Ω} {sl0 : Sl} {w : Ω}
/-- the places of the bad items of l, by a comprehension over its places -/
theorem lc_range (l : List Dt) (bad : Dt → Bool) {C : List Dt → Ω → Prop}
    (h : ∀ (i : Nat) (d : Dt), l[i]? = some d → d ∈ l → ∃ sl', bindTg tg (.int (0 + (i : Int))) sl0 = some sl' ∧ (∀ C : Bool → Ω → Prop, C (bad d) w → t sl' w C) ∧ (bad d = true → ∀ C : Dt → Fl → Ω → Prop, C (.int (0 + (i : Int))) .cl w → pe sl' w C))
    (hN : l.findIdx? bad = none → C [] w) (hS : ∀ (k : Nat) (r : List Dt), l.findIdx? bad = some k → C (.int (k : Nat) :: r) w) : lcLoop tg t pe sl0 (rngD 0 l.length) w C := by
  rw [rngD_eq]
  refine lc_typed (rngN 0) (badAt l bad) (rngN 0) _ (fun i hi => ?_) ?_
  · have hi := List.mem_range.mp hi
    have hd := List.getElem?_eq_getElem hi
    obtain ⟨sl', h1, h2, h3⟩ := h i _ hd (List.getElem_mem hi)
    rw [badAt_eq hd]
    exact ⟨sl', h1, h2, h3⟩
  · have e := range_find' l bad
    cases hf : (List.range l.length).filter (badAt l bad) with
    | nil =>
      rw [hf] at e
      exact hN e.symm
    | cons k r =>
      rw [hf] at e
      have ek : rngN 0 k = .int (k : Nat) := congrArg Dt.int (Int.zero_add _)
      rw [List.map_cons, ek]
      exact hS k _ e.symm
end
theorem atI0 {a : Dt} {l : List Dt} {C : Dt → Prop} (h : C a) : ∃ d, L2.atI (a :: l) 0 = some d ∧ C d := ⟨a, k_at0, h⟩
def S_law_prices_error {Ω : Type} : Spc Ω := S_prices_error
theorem bdS_sh {w : Int} {s : Int × Int} (h1 : 1 ≤ w) (h2 : w ≤ 1000) (h : IsSh w s) : BdS s := by
  obtain ⟨⟨a, b⟩, c, d, _⟩ := price_room (m := s.1) (r := s.2) h
  exact ⟨⟨by omega, by omega⟩, ⟨by omega, by omega⟩⟩
theorem lawList_sh {w : Int} {s : Int × Int} (h1 : 1 ≤ w) (hs : s ∈ lawList w) : IsSh w s := by
  unfold lawList at hs
  rcases List.mem_append.mp hs with hs | hs
  · rcases List.mem_append.mp hs with hs | hs
    · split at hs
      · exact (mem_shapes h1).mp hs
      · simp only [List.mem_cons, List.not_mem_nil, or_false] at hs
        unfold IsSh
        rcases hs with rfl | rfl | rfl <;> dsimp only <;> omega
    · split at hs
      · simp only [List.mem_cons, List.not_mem_nil, or_false] at hs
        unfold IsSh
        rcases hs with rfl | rfl <;> dsimp only <;> omega
      · cases hs
  · simp only [List.mem_cons, List.not_mem_nil, or_false] at hs
    unfold IsSh
    subst hs
    dsimp only
    omega
theorem lawList_len {w : Int} (h1 : 1 ≤ w) : 0 < (lawList w).length ∧ (lawList w).length ≤ 10000 := by
  have h : (shapes w).length ≤ 1 + w.toNat * w.toNat := shapesTo_len _ _
  unfold lawList
  rw [List.length_append, List.length_append, List.length_singleton]
  by_cases h40 : w < 40
  · rw [if_pos h40]
    have : w.toNat * w.toNat ≤ 40 * 40 := Nat.mul_le_mul (by omega) (by omega)
    split <;> simp <;> omega
  · rw [if_neg h40]
    split <;> simp
def p_law_prices_error_1 {Ω : Type} : DS Ω :=
  (wSeq (wSet 4 (wL (wOpL fAddL (wVar 4) (wL (wOpL fMulL (wL (wLst (wCons (wTup (wCons (wOp fDiv (wVar 1) (wC (.int 2))) (wCons (wOp fDiv (wVar 1) (wC (.int 2))) wNil))) (wCons (wTup (wCons (wOp fSub (wVar 1) (wOp fDiv (wVar 1) (wC (.int 2)))) (wCons (wOp fDiv (wVar 1) (wC (.int 2))) wNil))) wNil)))) (wF fInt (wOp fGt (wVar 1) (wC (.int 1)))))))))
  (wSeq (wSet 4 (wL (wOpL fAddL (wVar 4) (wL (wLst (wCons (wTup (wCons (wOp fAdd (wOp fDiv (wVar 1) (wC (.int 2))) (wC (.int 1))) (wCons (wOp fDiv (wOp fAdd (wVar 1) (wC (.int 1))) (wC (.int 2))) wNil))) wNil))))))
  (wSeq (wSet 3 (wL (wLc [5] (.one 5) (wiR1 (wF fLen (wVar 0))) (wTV (wOp fLt (wF fMin1 (wL (wLc [6] (.one 6) (wiSeq (wVar 4)) wYes (wCall S_law_room (wCons (wOp fIx (wVar 0) (wVar 5)) (wCons (wVar 6) wNil)))))) (wC (.int 1)))) (wVar 5))))
  (wRet (wIfx (wTV (wOp fNe (wVar 3) (wL (wLst wNil)))) (wTup (wCons (wOp fIx (wVar 3) (wC (.int 0))) (wCons (wC (.str (Str.ofString "room"))) wNil))) (wC .non))))))
abbrev p_law_prices_error {Ω : Type} : DS Ω :=
  (wSeq (wIfS (wTOr (wTNot (wTV (wIsi "tuple" (wVar 0)))) (wTNot (wTV (wChain (fun i j => decide (i ≤ j)) (fun i j => decide (i ≤ j)) (wC (.int 1)) (wF fLen (wVar 0)) (wVar 2))))) (wRet (wTup (wCons (wC .non) (wCons (wC (.str (Str.ofString "prices"))) wNil)))) wNext)
  (wSeq (wSet 3 (wL (wLc [5] (.one 5) (wiR1 (wF fLen (wVar 0))) (wTNot (wTV (wCall S_law_are_numbers (wCons (wOp fIx (wVar 0) (wVar 5)) (wCons (wOp fPow (wC (.int 10)) (wC (.int 6))) wNil))))) (wVar 5))))
  (wSeq (wIfS (wTV (wOp fNe (wVar 3) (wL (wLst wNil)))) (wRet (wTup (wCons (wOp fIx (wVar 3) (wC (.int 0))) (wCons (wC (.str (Str.ofString "price"))) wNil)))) wNext)
  (wSeq (wSet 4 (wIfx (wTV (wOp fLt (wVar 1) (wC (.int 40)))) (wCall S_law_shapes (wCons (wVar 1) wNil)) (wL (wLst (wCons (wTup (wCons (wC (.int 0)) (wCons (wC (.int 0)) wNil))) (wCons (wTup (wCons (wC (.int 1)) (wCons (wC (.int 1)) wNil))) (wCons (wTup (wCons (wVar 1) (wCons (wC (.int 1)) wNil))) wNil)))))))
  p_law_prices_error_1))))
/-- behind the list of shapes -/
theorem m_law_prices_error_1 {Ω : Type} {w : Ω} {C : Dt → Ω → Prop} {l : List Dt} {n most : Int} (n1 : 1 ≤ n) (n2 : n ≤ 1000) (h1 : 1 ≤ (l.length : Int)) (h2 : (l.length : Int) ≤ 100) (hall : ∀ d ∈ l, nums d 1000000 = true) {l0 : List (Int × Int)} (e0 : l0 = if n < 40 then shapes n else [(0, 0), (1, 1), (n, 1)])
    (q : C (match l.findIdx? (low n) with | some k => two (.int (k : Nat)) (Str.ofString "room") | none => .non) w) :
    p_law_prices_error_1 (endD C) [some (.dat (.tup l)), some (.dat (.int n)), some (.dat (.int most)), some (.dat (.lst [])), some (.dat (.lst (l0.map dS))), none, none] w := by
  have hL := lawList_len n1
  have e1 : l0 ++ (if 1 < n then [(n / 2, n / 2), (n - n / 2, n / 2)] else []) ++ [(n / 2 + 1, (n + 1) / 2)] = lawList n := by
    rw [e0]
    rfl
  have l0le : l0.length ≤ 10000 := by
    rw [← e1, List.length_append, List.length_append] at hL
    omega
  unfold p_law_prices_error_1
  walk_at "ck"
  refine ⟨divw2 (by decide) (by decide), divw2 (by decide) (by decide), divw2 (by decide) (by decide), divw2 (by decide) (by decide), by split <;> decide, by split <;> decide, size1M (by split <;> decide), ?_⟩
  have er : (List.replicate (if decide (1 < n) = true then (1 : Int) else 0).toNat [Dt.tup [.int (n / 2), .int (n / 2)], Dt.tup [.int (n - n / 2), .int (n / 2)]]).flatten = (if 1 < n then [(n / 2, n / 2), (n - n / 2, n / 2)] else []).map dS := by
    by_cases hz : 1 < n
    · rw [if_pos hz, if_pos (decide_eq_true hz)]
      rfl
    · rw [if_neg hz, if_neg (by simpa using hz)]
      rfl
  rw [er, ← List.map_append]
  have eL : (l0 ++ if 1 < n then [(n / 2, n / 2), (n - n / 2, n / 2)] else []).map dS ++ [Dt.tup [.int (n / 2 + 1), .int ((n + 1) / 2)]] = (lawList n).map dS := by
    rw [← e1, List.map_append (l₁ := l0 ++ _)]
    rfl
  have hl2 : (l0 ++ if 1 < n then [(n / 2, n / 2), (n - n / 2, n / 2)] else []).length ≤ 20000 := by
    rw [List.length_append]
    split <;> simp <;> omega
  walk_at "ck"
  rw [eL]
  refine ⟨by rw [← List.length_append]; exact size1M (by omega), divw2 (by decide) (by decide), divw60 (by decide) (by decide), size1M (by omega), by omega, by omega, by rw [rng_len]; exact size1M (by omega), ?_⟩
  refine lc_range l (low n) (fun i d hd hmem => ⟨_, rfl, fun C' h => ?_, fun _ C' h => ?_⟩) (fun hn => ?_) (fun k r hk => ?_)
  · obtain ⟨t, rfl, t1, t2, t3⟩ := nums_true (hall d hmem)
    have tb : Bd3 t := ⟨⟨by omega, by omega⟩, ⟨by omega, by omega⟩, ⟨by omega, by omega⟩⟩
    walk_at "ck"
    refine ⟨size1M (by omega), lc_map dS (fun s => .int (roomAt t s)) _ (fun s hs => ⟨_, rfl, fun C' h => ?_⟩) ?_⟩
    · walk_at "ck"
      refine ⟨d3 t, by rw [Int.zero_add]; exact atI_nat hd, ?_⟩
      exact use_pure (t, s) ⟨tb, bdS_sh n1 n2 (lawList_sh n1 hs)⟩ h
    · refine ⟨(lawList n).map (roomAt t), by rw [List.map_map]; rfl, by rw [List.length_map]; exact hL.1, fun m hm hle => ?_⟩
      have e := least_low hm hle
      have e2 : decide (m < 1) = low n (d3 t) := e.trans (lawList_low n1)
      walk_at "ck"
      rw [e2]
      exact h
  · walk_at "ck"
    exact h
  · rw [hn] at q
    exact ite2 (fun h => absurd h (by decide)) fun _ => q
  · rw [hk] at q
    exact ite2 (fun _ => atI0 q) (fun h => absurd rfl h)
theorem m_law_prices_error {Ω : Type} : ∀ ds (w : Ω) C, S_law_prices_error.run ds w C → p_law_prices_error (endD C) (startD 7 ds) w := by
  rintro ds w C ⟨⟨v, n, most⟩, rfl, ⟨hp, ⟨n1, n2⟩, hm⟩, q⟩
  replace hp : Pl v := hp
  replace n1 : 1 ≤ n := n1
  replace n2 : n ≤ 1000 := n2
  replace hm : most ≤ 100 := hm
  replace q : C (pricesErr v n most) w := q
  show p_law_prices_error _ [some (.dat v), some (.dat (.int n)), some (.dat (.int most)), none, none, none, none] _
  unfold p_law_prices_error
  cases v
  case opq => exact (pl_opq hp).elim
  case dic => exact (pl_dic hp).elim
  case ins => exact (pl_ins hp).elim
  case tup l =>
    have qb : (¬ (1 ≤ (l.length : Int) ∧ (l.length : Int) ≤ most)) → C (two .non (Str.ofString "prices")) w := fun z => by
      unfold pricesErr at q
      simp only [if_neg z] at q
      exact q
    walk_at "ck"
    refine ⟨_, _, rfl, rfl, ite2 (fun h1 => ?_) (fun h1 => ?_)⟩
    · have h1 := of_decide_eq_true h1
      refine ite2 (fun h2 => ?_) (fun h2 => ?_)
      · refine qb fun z => ?_
        simp [z.2] at h2
      · have h2 : (l.length : Int) ≤ most := by simpa using h2
        have hq : 1 ≤ (l.length : Int) ∧ (l.length : Int) ≤ most := ⟨h1, h2⟩
        unfold pricesErr at q
        simp only [if_pos hq] at q
        refine ⟨by omega, by omega, by rw [rng_len]; exact size1M (by omega), ?_⟩
        refine lc_range l (fun d => !nums d 1000000) (fun i d hd hmem => ⟨_, rfl, fun C' h => ?_, fun _ C' h => ?_⟩) (fun hn => ?_) (fun k r hk => ?_)
        · walk_at "ck"
          refine ⟨d, by rw [Int.zero_add]; exact atI_nat hd, ⟨by decide, by decide, by decide⟩, ?_⟩
          exact use_pure (d, 1000000) (hp.tup d hmem) ⟨_, rfl, h⟩
        · walk_at "ck"
          exact h
        · rw [hn] at q
          have hall := findIdx_none_all hn
          walk_at "ck"
          refine ite2 (fun h => absurd h (by decide)) fun _ => ite2 (fun h40 => ?_) (fun h40 => ?_)
          · have h40 := of_decide_eq_true h40
            refine use_pure n ⟨n1, by omega⟩ ?_
            exact m_law_prices_error_1 n1 n2 h1 (by omega) hall (l0 := shapes n) (by rw [if_pos h40]) q
          · exact m_law_prices_error_1 n1 n2 h1 (by omega) hall (l0 := [(0, 0), (1, 1), (n, 1)]) (by rw [if_neg (by simpa using h40)]) q
        · rw [hk] at q
          walk_at "ck"
          exact ite2 (fun _ => q) (fun h => absurd rfl h)
    · refine qb fun z => ?_
      simp [z.1] at h1
  all_goals
    walk_at "ck"
    exact q
abbrev p_law_book_error {Ω : Type} : DS Ω :=
  (wSeq (wIfS (wTOr (wTNot (wTV (wIsi "tuple" (wVar 0)))) (wTV (wOp fNe (wF fLen (wVar 0)) (wC (.int 4))))) (wRet (wTup (wCons (wC .non) (wCons (wC (.str (Str.ofString "book"))) wNil)))) wNext)
  (wSeq (wIfS (wTNot (wTV (wCall S_law_whole (wCons (wOp fIx (wVar 0) (wC (.int 0))) (wCons (wC (.int 1)) (wCons (wC (.int 1000)) wNil)))))) (wRet (wTup (wCons (wC .non) (wCons (wC (.str (Str.ofString "width"))) wNil)))) wNext)
  (wSeq (wSet 1 (wCall S_law_prices_error (wCons (wOp fIx (wVar 0) (wC (.int 1))) (wCons (wOp fIx (wVar 0) (wC (.int 0))) (wCons (wC (.int 6)) wNil)))))
  (wSeq (wIfS (wTV (wNotN (wVar 1))) (wRet (wVar 1)) wNext)
  (wSeq (wIfS (wTOr (wTNot (wTV (wIsi "tuple" (wOp fIx (wVar 0) (wC (.int 2)))))) (wTV (wOp fGt (wF fLen (wOp fIx (wVar 0) (wC (.int 2)))) (wC (.int 10))))) (wRet (wTup (wCons (wC .non) (wCons (wC (.str (Str.ofString "rules"))) wNil)))) wNext)
  (wSeq (wSet 2 (wL (wLc [3] (.one 3) (wiR1 (wF fLen (wOp fIx (wVar 0) (wC (.int 2))))) (wTNot (wTV (wCall S_law_is_rule (wCons (wOp fIx (wOp fIx (wVar 0) (wC (.int 2))) (wVar 3)) (wCons (wF fLen (wOp fIx (wVar 0) (wC (.int 1)))) wNil))))) (wVar 3))))
  (wSeq (wIfS (wTV (wOp fNe (wVar 2) (wL (wLst wNil)))) (wRet (wTup (wCons (wOp fIx (wVar 2) (wC (.int 0))) (wCons (wC (.str (Str.ofString "rule"))) wNil)))) wNext)
  (wRet (wIfx (wTV (wCall S_law_whole (wCons (wOp fIx (wVar 0) (wC (.int 3))) (wCons (wC (.int 0)) (wCons (wOp fSub (wF fLen (wOp fIx (wVar 0) (wC (.int 1)))) (wC (.int 1))) wNil))))) (wC .non) (wTup (wCons (wC .non) (wCons (wC (.str (Str.ofString "last"))) wNil))))))))))))
theorem m_law_book_error {Ω : Type} : ∀ ds (w : Ω) C, S_law_book_error.run ds w C → p_law_book_error (endD C) (startD 4 ds) w := by
  rintro ds w C ⟨v, rfl, hp, q⟩
  replace hp : Pl v := hp
  replace q : C (bookErr v) w := q
  show p_law_book_error _ [some (.dat v), none, none, none] _
  unfold p_law_book_error
  cases v
  case opq => exact (pl_opq hp).elim
  case dic => exact (pl_dic hp).elim
  case ins => exact (pl_ins hp).elim
  case tup l =>
    walk_at "ck"
    refine ite2 (fun hd => ?_) (fun hd => ?_)
    · rw [bookErr_len fun z => by simp [z] at hd] at q
      exact q
    · match l, hp, q, hd with
      | [], _, _, hd => simp at hd
      | [_], _, _, hd => simp at hd
      | [_, _], _, _, hd => simp at hd
      | [_, _, _], _, _, hd => simp at hd
      | _ :: _ :: _ :: _ :: _ :: _, _, _, hd => exact absurd (by simp; omega) hd
      | [wd, ps, rs, last], hp, q, hx =>
        clear hx
        rw [k_bookErr] at q
        walk_at "ck"
        refine use_pure (wd, 1, 1000) (hp.tup wd (by simp)) ⟨_, rfl, ite2 (fun h => ?_) (fun h => ?_)⟩
        · have h : ¬ intIn wd 1 1000 = true := by simpa using h
          rw [if_neg h] at q
          exact q
        · have h : intIn wd 1 1000 = true := by simpa using h
          rw [if_pos h] at q
          obtain ⟨n, rfl, n1, n2⟩ := intIn_true h
          refine use_pure (ps, n, 6) ⟨hp.tup ps (by simp), ⟨n1, n2⟩, by show (6 : Int) ≤ 100; decide⟩ ?_
          walk_at "ck"
          by_cases hn : pricesErr ps n 6 = .non
          · have q' : C (rulesErr rs last (lenD ps)) w := by
              have e : isNon (pricesErr ps (intD (.int n)) 6) = some true := by
                show isNon (pricesErr ps n 6) = some true
                rw [hn]
                rfl
              rw [if_pos e] at q
              exact q
            obtain ⟨pl, rfl, p1, p2, p3, p4⟩ := pricesErr_none hn
            refine ⟨true, by rw [hn]; rfl, ?_⟩
            walk_at "ck"
            have hpr : Pl rs := hp.tup rs (by simp)
            cases rs
            case opq => exact (pl_opq hpr).elim
            case dic => exact (pl_dic hpr).elim
            case ins => exact (pl_ins hpr).elim
            case tup rl =>
              walk_at "ck"
              unfold rulesErr at q'
              refine ite2 (fun hd => ?_) (fun hd => ?_)
              · dsimp only at q'
                rw [if_neg fun z => by simp at hd; omega] at q'
                exact q'
              · have hl : rl.length ≤ 10 := by simp at hd; omega
                dsimp only at q'
                rw [if_pos hl] at q'
                refine ⟨by omega, by omega, by rw [rng_len]; exact size1M (by omega), ?_⟩
                refine lc_range rl (fun d => !isRule d (pl.length : Nat)) (fun i d hd hmem => ⟨_, rfl, fun C' h => ?_, fun _ C' h => ?_⟩) (fun hn => ?_) (fun k r hk => ?_)
                · walk_at "ck"
                  refine ⟨d, by rw [Int.zero_add]; exact atI_nat hd, ?_⟩
                  exact use_pure (d, (pl.length : Int)) (hpr.tup d hmem) ⟨_, rfl, h⟩
                · walk_at "ck"
                  exact h
                · have hn' : (rl.findIdx? fun d => !isRule d (lenD (.tup pl))) = none := hn
                  rw [hn'] at q'
                  walk_at "ck"
                  refine ite2 (fun h => absurd h (by decide)) fun _ => ?_
                  refine use_pure (last, 0, (pl.length : Int) - 1) (hp.tup last (by simp)) ⟨_, rfl, ite2 (fun hd => ?_) (fun hd => ?_)⟩
                  · have hd : intIn last 0 (lenD (.tup pl) - 1) = true := hd
                    dsimp only at q'
                    rw [if_pos hd] at q'
                    exact q'
                  · have hd : ¬ intIn last 0 (lenD (.tup pl) - 1) = true := hd
                    dsimp only at q'
                    rw [if_neg hd] at q'
                    exact q'
                · have hk' : (rl.findIdx? fun d => !isRule d (lenD (.tup pl))) = some k := hk
                  rw [hk'] at q'
                  walk_at "ck"
                  exact ite2 (fun _ => q') (fun h => absurd rfl h)
            all_goals
              walk_at "ck"
              exact q'
          · rcases pricesErr_cases ps n 6 with z | ⟨a, x, z, _⟩
            · exact absurd z hn
            · have e : ¬ isNon (pricesErr ps (intD (.int n)) 6) = some true := by
                show ¬ isNon (pricesErr ps n 6) = some true
                rw [z]
                intro h
                cases h
              rw [if_neg e] at q
              refine ⟨false, by rw [z]; rfl, ?_⟩
              walk_at "ck"
              exact q
  all_goals
    walk_at "ck"
    exact q
/-! ### a value with something in it changed -/
theorem shw_pr {k n : Nat} {d : Dt} {p : PyData} (e : d.pr = some p) (h : Shw k n d) : Shp k n p := by
  obtain ⟨p', e', a⟩ := h
  rw [e] at e'
  cases e'
  exact a
/-- items, one by one: what they weigh and how deep they are -/
def It2 (k n : Nat) : List Dt → Prop
  | [] => True
  | d :: l => ∃ a b, a + b + 1 ≤ k ∧ Shw a n d ∧ It2 b n l
theorem it2_shw {n : Nat} : ∀ {k : Nat} {l : List Dt}, It2 k n l → ShwL k n l
  | k, [], _ => shwL_nil.mono (Nat.zero_le _) (Nat.le_refl _)
  | k, d :: l, ⟨a, b, h, h1, h2⟩ => (shwL_cons h1 (it2_shw h2)).mono (by omega) (Nat.le_refl _)
theorem shw_it2 {n : Nat} : ∀ {k : Nat} {l : List Dt}, ShwL k n l → It2 k n l
  | k, [], _ => trivial
  | k, d :: l, ⟨ps, e, a⟩ => by
    simp only [prL, Option.bind_eq_some_iff, Option.map_eq_some_iff] at e
    obtain ⟨p, e1, qs, e2, rfl⟩ := e
    have a1 := a.lf
    have a2 := a.sh
    have a4 := a.bk
    have a5 := a.dp
    simp only [PyData.leavesShortAll, PyData.showableAll, PyData.bulkAll, PyData.depthAll, Bool.and_eq_true] at a1 a2 a4 a5
    refine ⟨p.bulk, PyData.bulkAll qs, by omega, ⟨p, e1, a1.1, a2.1, Nat.le_refl _, by omega⟩, shw_it2 ⟨qs, e2, a1.2, a2.2, Nat.le_refl _, by omega⟩⟩
theorem shwL_len : ∀ {k n : Nat} {l : List Dt}, ShwL k n l → l.length ≤ k := fun {k n l} h => by
  have h := shw_it2 h
  induction l generalizing k with
  | nil => exact Nat.zero_le _
  | cons d l ih =>
    obtain ⟨a, b, h1, _, h3⟩ := h
    have := ih (k := b) (it2_shw h3) h3
    rw [List.length_cons]
    omega
theorem tup_shw {k n : Nat} {l : List Dt} (h : Shw k n (.tup l)) : ∃ n', n = n' + 1 ∧ ShwL k n' l := by
  obtain ⟨p, e, a⟩ := h
  simp only [Dt.pr, Option.map_eq_some_iff] at e
  obtain ⟨ps, e1, rfl⟩ := e
  have a1 := a.lf
  have a2 := a.sh
  have a4 := a.bk
  have a5 := a.dp
  simp only [PyData.leavesShort, PyData.showable, PyData.bulk, PyData.depth] at a1 a2 a4 a5
  exact ⟨n - 1, by omega, ps, e1, a1, a2, a4, by omega⟩
end Ck
namespace Ck
open PySem PySem.Spec PyProof.Rows L2
local macro_rules | `(tactic| walk_at "ck") => `(tactic| try simp only [wNext, wBrk, wCnt, wSeq, wRet, wRetN, wSet, wOwn, wDrop, wUnp, wPar, wIfS, wApp, wExt, wSetIx, wAug, wFrz, wFor, k_var, k_vk1, k_vk2, k_par, wC, wL, wOp, wOpL, wF, wFL, wNil, wCons, wTup, wLst, wTV, wTAnd, wTOr, wTNot, wAnd, wOr, wNot, wIfx, wIsN, wNotN, wChain, wO0, wO1, wSl, wCall, wIsi, wLr1, wLr2, wNeg, wLc, wYes, wiSeq, wiR1, wiR2, wiEnum, wiZip, noOwnB, wipeD, k_add1, k_add2, k_add3, k_add4, k_addL, k_sub, k_mul1, k_mul2, k_mulL, k_div, k_mod, k_pow, k_cmp, k_eq, k_ne, k_ea1, k_ea2, k_ea3, k_ea4, k_in1, k_in2, k_in3, k_in4, k_ix1, k_ix2, k_ix3, k_sl1, k_sl2, k_len1, k_len2, k_len3, k_int1, k_int2, k_abs, k_tuple1, k_tuple2, k_list1, k_list2, k_min2, k_max2, k_non_non, k_ty_int_non, k_ty_bool_non, k_ty_tuple_non, k_ty_str_non, k_ty_list_non, k_non_bl, k_ty_int_bl, k_ty_bool_bl, k_ty_tuple_bl, k_ty_str_bl, k_ty_list_bl, k_non_int, k_ty_int_int, k_ty_bool_int, k_ty_tuple_int, k_ty_str_int, k_ty_list_int, k_non_str, k_ty_int_str, k_ty_bool_str, k_ty_tuple_str, k_ty_str_str, k_ty_list_str, k_non_tup, k_ty_int_tup, k_ty_bool_tup, k_ty_tuple_tup, k_ty_str_tup, k_ty_list_tup, k_non_lst, k_ty_int_lst, k_ty_bool_lst, k_ty_tuple_lst, k_ty_str_lst, k_ty_list_lst, k_non_emp, k_ty_int_emp, k_ty_bool_emp, k_ty_tuple_emp, k_ty_str_emp, k_ty_list_emp, k_seq_non, k_seq_bl, k_seq_int, k_seq_str, k_seq_tup, k_seq_lst, k_seq_emp, k_sz0, k_sz1, k_sz2, k_sz3, k_sz4, k_sz5, k_sz6, k_sz7, k_sz8, k_sz9, k_sz10, k_sz11, k_sz12, k_sz13, k_sz14, k_sz15, k_sz16, k_sz17, k_sz18, k_sz19, k_sz20, k_sz21, k_sz22, k_sz23, k_at0, k_at1, k_at2, k_at3, k_iteT, k_iteF, k_bt1, k_bt2, k_sa0, k_sa1, k_endn, k_endr, List.getElem?_cons_succ, List.getElem?_cons_zero, List.set_cons_succ, List.set_cons_zero, List.length_cons, List.length_nil, List.length_map, List.all_cons, List.all_nil, Nat.reduceAdd, Nat.zero_add, Bool.and_true, Bool.and_self, Option.some.injEq, Dt.int.injEq, Dt.bl.injEq, Dt.str.injEq, Dt.tup.injEq, Dt.lst.injEq, Sv.dat.injEq, Sv.own.injEq, exists_eq_left', exists_eq_left, exists_eq_right, exists_eq', exists_eq, true_and, and_true, false_and, and_false, exists_const, reduceCtorEq])
theorem holdB_filter (ts : List T3) (s : Int × Int) : (ts.filter fun t => decide (t.c < t.a * s.1 + t.b * s.2)).isEmpty = holdB ts s := by
  unfold holdB
  rw [Bool.eq_iff_iff, List.isEmpty_iff, List.filter_eq_nil_iff, List.all_eq_true]
  constructor
  · intro h t ht
    have := h t ht
    simpa using this
  · intro h t ht
    have := h t ht
    simpa using this
theorem m_law_do_hold {Ω : Type} : ∀ ds (w : Ω) C, S_law_do_hold.run ds w C → p_law_do_hold (endD C) (startD 5 ds) w := by
  rintro ds w C ⟨⟨ts, s⟩, rfl, ⟨h1, ⟨h2, h3⟩, h4⟩, q⟩
  have h1 : ∀ t ∈ ts, Bd3 t := h1
  have h4 : ts.length ≤ 1000 := h4
  have q : C (.bl (holdB ts s)) w := q
  show p_law_do_hold _ [some (.dat (.tup (ts.map d3))), some (.dat (dS s)), none, none, none] _
  unfold p_law_do_hold
  walk_at "ck"
  refine ⟨size1M (by omega), lc_typed d3 (fun t => decide (t.c < t.a * s.1 + t.b * s.2)) (fun _ => .int 1) ts (fun t ht => ⟨_, rfl, fun C hC => ?_, fun _ C hC => ?_⟩) ?_⟩
  · unfold dS
    walk_at "ck"
    exact ⟨(h1 t ht).1.mul h2, (h1 t ht).2.1.mul h3, hC⟩
  · walk_at "ck"
    exact hC
  · rw [List.isEmpty_map, holdB_filter]
    exact q
theorem decider_range (rs : List Rule) (s : Int × Int) : ((List.range rs.length).filter fun i => match rs[i]? with | some r => holdB r.ts s | none => false).head? = if decider rs s < rs.length then some (decider rs s) else none := by
  rw [List.head?_filter]
  split
  · rename_i h
    rw [List.find?_range_eq_some]
    refine ⟨?_, List.mem_range.mpr h, fun j hj => ?_⟩
    · rw [List.getElem?_eq_getElem h]
      exact List.findIdx_getElem (w := h)
    · have hj2 : j < rs.length := Nat.lt_trans hj h
      rw [List.getElem?_eq_getElem hj2]
      have := List.not_of_lt_findIdx hj
      simpa using this
  · rename_i h
    rw [List.find?_range_eq_none]
    intro i hi
    rw [List.getElem?_eq_getElem hi]
    have e : decider rs s = rs.length := Nat.le_antisymm List.findIdx_le_length (Nat.le_of_not_lt h)
    have := (List.findIdx_eq_length.mp e) _ (List.getElem_mem hi)
    simpa using this
theorem m_law_decider {Ω : Type} : ∀ ds (w : Ω) C, S_law_decider.run ds w C → p_law_decider (endD C) (startD 4 ds) w := by
  rintro ds w C ⟨⟨b, s⟩, rfl, ⟨h1, h2, h3, h4⟩, q⟩
  have h3 : b.rs.length ≤ 1000 := h3
  have h4 : ∀ r ∈ b.rs, r.ts.length ≤ 1000 := h4
  have q : C (.int (decider b.rs s : Nat)) w := q
  show p_law_decider _ [some (.dat (dB b)), some (.dat (dS s)), none, none] _
  unfold p_law_decider dB
  walk_at "ck"
  rw [rngD_eq, Int.toNat_natCast]
  refine ⟨by omega, by omega, by rw [List.length_map, List.length_range]; exact size1M (by omega), ?_⟩
  refine lc_typed (rngN 0) (fun i => match b.rs[i]? with | some r => holdB r.ts s | none => false) (rngN 0) _ (fun i hi => ⟨_, rfl, fun C hC => ?_, fun _ C hC => ?_⟩) ?_
  · have hi := List.mem_range.mp hi
    walk_at "ck"
    refine ⟨dR b.rs[i], by rw [Int.zero_add]; exact atI_nat (by rw [List.getElem?_map, List.getElem?_eq_getElem hi]; rfl), ?_⟩
    unfold dR
    walk_at "ck"
    refine use_pure (b.rs[i].ts, s) ⟨h1.2 _ (List.getElem_mem hi), h2, h4 _ (List.getElem_mem hi)⟩ ?_
    walk_at "ck"
    rw [List.getElem?_eq_getElem hi] at hC
    exact hC
  · walk_at "ck"
    exact hC
  · have e := decider_range b.rs s
    generalize (List.range b.rs.length).filter (fun i => match b.rs[i]? with | some r => holdB r.ts s | none => false) = l at e ⊢
    cases l with
    | nil =>
      have e1 : ¬ decider b.rs s < b.rs.length := fun h => by
        rw [if_pos h] at e
        cases e
      have e2 : decider b.rs s = b.rs.length := Nat.le_antisymm List.findIdx_le_length (Nat.le_of_not_lt e1)
      rw [e2] at q
      exact q
    | cons x l =>
      have e1 : decider b.rs s < b.rs.length := Nat.lt_of_not_le fun h => by
        rw [if_neg (Nat.not_lt.mpr h)] at e
        cases e
      rw [if_pos e1] at e
      have e : x = decider b.rs s := by
        cases e
        rfl
      refine ⟨_, k_at0, ?_⟩
      rw [e]
      show C (.int (0 + (decider b.rs s : Nat))) w
      rw [Int.zero_add]
      exact q
theorem m_law_kept {Ω : Type} : ∀ ds (w : Ω) C, S_law_kept.run ds w C → p_law_kept (endD C) (startD 3 ds) w := by
  rintro ds w C ⟨⟨b, s⟩, rfl, ⟨h1, h2, h3⟩, q⟩
  have q : C (.int (kept b s)) w := q
  show p_law_kept _ [some (.dat (dB b)), some (.dat (dS s)), none] _
  unfold p_law_kept dB
  walk_at "ck"
  refine use_pure (ok := fun i => BookBd i.1 ∧ BdS i.2 ∧ SmallB i.1) (b, s) ⟨h1, h2, h3⟩ ?_
  refine ⟨_, rfl, ?_⟩
  unfold kept at q
  refine ite2 (fun h => ?_) (fun h => ?_)
  · have h : decider b.rs s < b.rs.length := Int.ofNat_lt.mp (of_decide_eq_true h)
    have hg := List.getElem?_eq_getElem h
    refine ⟨dR b.rs[decider b.rs s], atI_nat (by rw [List.getElem?_map, hg]; rfl), _, k_at1, ?_⟩
    rw [hg] at q
    exact q
  · have h : b.rs.length ≤ decider b.rs s := Nat.le_of_not_lt fun k => h (decide_eq_true (Int.ofNat_lt.mpr k))
    rw [List.getElem?_eq_none h] at q
    exact q
theorem m_law_room {Ω : Type} : ∀ ds (w : Ω) C, S_law_room.run ds w C → p_law_room (endD C) (startD 2 ds) w := m_room_at
end Ck
namespace Ck
open PySem PySem.Spec PyProof.Rows L2
local macro_rules | `(tactic| walk_at "ck") => `(tactic| try simp only [wNext, wBrk, wCnt, wSeq, wRet, wRetN, wSet, wOwn, wDrop, wUnp, wPar, wIfS, wApp, wExt, wSetIx, wAug, wFrz, wFor, k_var, k_vk1, k_vk2, k_par, wC, wL, wOp, wOpL, wF, wFL, wNil, wCons, wTup, wLst, wTV, wTAnd, wTOr, wTNot, wAnd, wOr, wNot, wIfx, wIsN, wNotN, wChain, wO0, wO1, wSl, wCall, wIsi, wLr1, wLr2, wNeg, wLc, wYes, wiSeq, wiR1, wiR2, wiEnum, wiZip, noOwnB, wipeD, wEmp, wListZip, wSortSet, wRevL, wRevT, wOneB, k_mulT, k_add1, k_add2, k_add3, k_add4, k_addL, k_sub, k_mul1, k_mul2, k_mulL, k_div, k_mod, k_pow, k_cmp, k_eq, k_ne, k_ea1, k_ea2, k_ea3, k_ea4, k_in1, k_in2, k_in3, k_in4, k_ix1, k_ix2, k_ix3, k_sl1, k_sl2, k_len1, k_len2, k_len3, k_int1, k_int2, k_abs, k_tuple1, k_tuple2, k_list1, k_list2, k_min2, k_max2, k_non_non, k_ty_int_non, k_ty_bool_non, k_ty_tuple_non, k_ty_str_non, k_ty_list_non, k_non_bl, k_ty_int_bl, k_ty_bool_bl, k_ty_tuple_bl, k_ty_str_bl, k_ty_list_bl, k_non_int, k_ty_int_int, k_ty_bool_int, k_ty_tuple_int, k_ty_str_int, k_ty_list_int, k_non_str, k_ty_int_str, k_ty_bool_str, k_ty_tuple_str, k_ty_str_str, k_ty_list_str, k_non_tup, k_ty_int_tup, k_ty_bool_tup, k_ty_tuple_tup, k_ty_str_tup, k_ty_list_tup, k_non_lst, k_ty_int_lst, k_ty_bool_lst, k_ty_tuple_lst, k_ty_str_lst, k_ty_list_lst, k_non_emp, k_ty_int_emp, k_ty_bool_emp, k_ty_tuple_emp, k_ty_str_emp, k_ty_list_emp, k_seq_non, k_seq_bl, k_seq_int, k_seq_str, k_seq_tup, k_seq_lst, k_seq_emp, k_sz0, k_sz1, k_sz2, k_sz3, k_sz4, k_sz5, k_sz6, k_sz7, k_sz8, k_sz9, k_sz10, k_sz11, k_sz12, k_sz13, k_sz14, k_sz15, k_sz16, k_sz17, k_sz18, k_sz19, k_sz20, k_sz21, k_sz22, k_sz23, k_at0, k_at1, k_at2, k_at3, k_iteT, k_iteF, k_bt1, k_bt2, k_sa0, k_sa1, k_endn, k_endr, List.getElem?_cons_succ, List.getElem?_cons_zero, List.set_cons_succ, List.set_cons_zero, List.length_cons, List.length_nil, List.length_map, List.all_cons, List.all_nil, Nat.reduceAdd, Nat.zero_add, Bool.and_true, Bool.and_self, Option.some.injEq, Dt.int.injEq, Dt.bl.injEq, Dt.str.injEq, Dt.tup.injEq, Dt.lst.injEq, Sv.dat.injEq, Sv.own.injEq, exists_eq_left', exists_eq_left, exists_eq_right, exists_eq', exists_eq, if_true, if_false, Bool.not_false, Bool.not_true, Bool.not_not, true_and, and_true, false_and, and_false, exists_const, reduceCtorEq])

/-! ### runs: their shapes, their places, one place toggled -/
section
variable {Ω : Type} {tg : Tg} {body : DS Ω} {D : DD Ω} {w : Ω}
/-- a loop that ends at its end: J, what holds behind the first ones -/
theorem loop_pre {α : Type} (enc : α → Dt) (all : List α) (J : List α → Sl → Prop)
    (h : ∀ (pre : List α) (y : α) (suf : List α) (sl : Sl), pre ++ y :: suf = all → J pre sl → ∃ sl', bindTg tg (enc y) sl = some sl' ∧ ∀ N : Sl → Ω → Prop, (∀ s, J (pre ++ [y]) s → N s w) → body { D with nx := N, ct := N, bk := D.nx } sl' w)
    (hC : ∀ s, J all s → D.nx s w) : ∀ (ys pre : List α) {sl : Sl}, pre ++ ys = all → J pre sl → wLoop tg body D (ys.map enc) sl w
  | [], pre, sl, e, hj => hC sl (by rw [List.append_nil] at e; exact e ▸ hj)
  | y :: ys, pre, sl, e, hj => by
    obtain ⟨sl', h1, h2⟩ := h pre y ys sl e hj
    exact ⟨sl', h1, h2 _ fun s hs => loop_pre enc all J h hC ys (pre ++ [y]) (by rw [List.append_assoc]; exact e) hs⟩
end
theorem placesR_app (a b : List (Int × Int)) : placesR (a ++ b) = placesR a ++ placesR b := List.flatMap_append
theorem span_rng (s : Int × Int) : rngD s.1 (s.2 + 1 - s.1).toNat = (span s).map Dt.int := by
  rw [rngD_ints]
  unfold span
  have e : s.2 + 1 - s.1 = s.2 - s.1 + 1 := by omega
  rw [e]
theorem last_at {α : Type} {l : List α} {d : α} : L2.atI (l ++ [d]) (-1) = some d := by
  unfold L2.atI
  have e : ixN (l ++ [d]).length (-1) = some l.length := by
    unfold ixN
    rw [List.length_append]
    simp
    try omega
  rw [e]
  simp
theorem ixN_last {n : Nat} : ixN (n + 1) (-1) = some n := by
  unfold ixN
  simp
  try omega
def S_shape_of {Ω : Type} : Spc Ω := pureS (ι := List (Int × Int)) (fun i => [.tup (i.map dS)]) (fun i => i.length ≤ 100000) fun i => dS (sizeR i, i.length)
def S_places_in {Ω : Type} : Spc Ω := pureS (ι := List (Int × Int)) (fun i => [.tup (i.map dS)]) (fun i => (placesR i).length ≤ 100000 ∧ ∀ s ∈ i, -1000000 ≤ s.1 ∧ s.1 ≤ 1000000 ∧ -1000000 ≤ s.2 ∧ s.2 ≤ 1000000) fun i => .lst ((placesR i).map .int)
def S_law_places {Ω : Type} : Spc Ω := S_places_in
def S_runs_of {Ω : Type} : Spc Ω := pureS (ι := List Int) (fun i => [.lst (i.map .int)]) (fun i => i.length ≤ 100000) fun i => .tup ((runsC i).map dS)
abbrev p_shape_of {Ω : Type} : DS Ω :=
  (wRet (wTup (wCons (wF fSum (wL (wLc [1, 2] (.many [1, 2]) (wiSeq (wVar 0)) wYes (wOp fAdd (wOp fSub (wVar 2) (wVar 1)) (wC (.int 1)))))) (wCons (wF fLen (wVar 0)) wNil))))
abbrev p_places_in {Ω : Type} : DS Ω :=
  (wSeq (wOwn 1 (wLst wNil))
  (wSeq (wFor (.many [2, 3]) (wiSeq (wVar 0)) (wExt 1 (wLr2 (wVar 2) (wOp fAdd (wVar 3) (wC (.int 1))))))
  (wFrz 1 (wRet (wVar 1)))))
abbrev p_law_places {Ω : Type} : DS Ω := p_places_in
abbrev p_runs_of {Ω : Type} : DS Ω :=
  (wSeq (wOwn 1 (wLst wNil))
  (wSeq (wFor (.one 2) (wiSeq (wVar 0)) (wIfS (wTAnd (wTV (wOp fNe (wVar 1) (wL (wLst wNil)))) (wTV (wOp fEq (wOp fIx (wOp fIx (wVar 1) (wNeg (wC (.int 1)))) (wC (.int 1))) (wOp fSub (wVar 2) (wC (.int 1)))))) (wSetIx 1 (wTup (wCons (wOp fIx (wOp fIx (wVar 1) (wNeg (wC (.int 1)))) (wC (.int 0))) (wCons (wVar 2) wNil))) (wNeg (wC (.int 1)))) (wApp 1 (wTup (wCons (wVar 2) (wCons (wVar 2) wNil))))))
  (wRet (wF fTuple (wVar 1)))))
theorem m_shape_of {Ω : Type} : ∀ ds (w : Ω) C, S_shape_of.run ds w C → p_shape_of (endD C) (startD 3 ds) w := by
  rintro ds w C ⟨rs, rfl, hl, q⟩
  replace hl : rs.length ≤ 100000 := hl
  replace q : C (dS (sizeR rs, rs.length)) w := q
  show p_shape_of _ [some (.dat (.tup (rs.map dS))), none, none] _
  unfold p_shape_of
  walk_at "ck"
  refine ⟨size1M (by omega), lc_map dS (fun s => .int (s.2 - s.1 + 1)) rs (fun s hs => ⟨_, rfl, fun C' h => ?_⟩) ?_⟩
  · walk_at "ck"
    exact h
  · walk_at "ck"
    refine ⟨rs.map fun p => p.2 - p.1 + 1, by rw [List.map_map]; rfl, ?_⟩
    walk_at "ck"
    exact q
theorem m_places_in {Ω : Type} : ∀ ds (w : Ω) C, S_places_in.run ds w C → p_places_in (endD C) (startD 4 ds) w := by
  rintro ds w C ⟨rs, rfl, ⟨hl, hb⟩, q⟩
  replace hl : (placesR rs).length ≤ 100000 := hl
  replace hb : ∀ s ∈ rs, -1000000 ≤ s.1 ∧ s.1 ≤ 1000000 ∧ -1000000 ≤ s.2 ∧ s.2 ≤ 1000000 := hb
  replace q : C (.lst ((placesR rs).map .int)) w := q
  show p_places_in _ [some (.dat (.tup (rs.map dS))), none, none, none] _
  unfold p_places_in
  walk_at "ck"
  refine loop_pre dS rs (fun pre sl => ∃ x2 x3, sl = [some (.dat (.tup (rs.map dS))), some (.own ((placesR pre).map .int)), x2, x3]) (fun pre s suf sl e hj => ?_) (fun s hs => ?_) rs [] rfl ⟨_, _, rfl⟩
  · obtain ⟨x2, x3, rfl⟩ := hj
    obtain ⟨b1, b2, b3, b4⟩ := hb s (by rw [← e]; simp)
    have hl2 : (placesR (pre ++ [s])).length ≤ 100000 := by
      have e2 : placesR rs = placesR (pre ++ [s]) ++ placesR suf := by rw [← placesR_app, ← e]; simp
      rw [e2, List.length_append] at hl
      omega
    have es : placesR (pre ++ [s]) = placesR pre ++ span s := by
      rw [placesR_app]
      show _ ++ (span s ++ []) = _
      rw [List.append_nil]
    rw [es] at hl2
    rw [List.length_append] at hl2
    refine ⟨_, rfl, fun N hN => ?_⟩
    walk_at "ck"
    refine ⟨s.1, s.2 + 1, rfl, rfl, ⟨by omega, by omega, by omega, by omega⟩, ?_⟩
    rw [span_rng, List.length_map]
    exact ⟨size1M (by omega), hN _ ⟨_, _, by rw [es, List.map_append]⟩⟩
  · obtain ⟨x2, x3, rfl⟩ := hs
    walk_at "ck"
    exact q
theorem m_law_places {Ω : Type} : ∀ ds (w : Ω) C, S_law_places.run ds w C → p_law_places (endD C) (startD 4 ds) w := m_places_in
theorem runs_push_len (l : List Int) : (l.foldl pushR []).length ≤ l.length := by
  rw [foldl_runs]
  induction l with
  | nil => exact Nat.le_refl _
  | cons x l ih =>
    show (mergeR (x, x) (runsC l)).length ≤ _
    unfold mergeR
    split
    · exact Nat.le_add_left _ _
    · rename_i q t e
      rw [e] at ih
      rw [List.length_cons] at ih ⊢
      split
      · rw [List.length_cons]; omega
      · rw [List.length_cons, List.length_cons]; omega
theorem m_runs_of {Ω : Type} : ∀ ds (w : Ω) C, S_runs_of.run ds w C → p_runs_of (endD C) (startD 3 ds) w := by
  rintro ds w C ⟨l, rfl, hl, q⟩
  replace hl : l.length ≤ 100000 := hl
  replace q : C (.tup ((runsC l).map dS)) w := q
  show p_runs_of _ [some (.dat (.lst (l.map .int))), none, none] _
  unfold p_runs_of
  walk_at "ck"
  refine loop_pre Dt.int l (fun pre sl => ∃ x2, sl = [some (.dat (.lst (l.map .int))), some (.own ((pre.foldl pushR []).map dS)), x2]) (fun pre x suf sl e hj => ?_) (fun s hs => ?_) l [] rfl ⟨_, rfl⟩
  · obtain ⟨x2, rfl⟩ := hj
    have hl2 : (pre.foldl pushR []).length ≤ 100000 := by
      have := runs_push_len pre
      have e2 : l.length = pre.length + (suf.length + 1) := by rw [← e]; simp
      omega
    refine ⟨_, rfl, fun N hN => ?_⟩
    have ef : (pre ++ [x]).foldl pushR [] = pushR (pre.foldl pushR []) x := by rw [List.foldl_append]; rfl
    rw [ef] at hN
    obtain ⟨acc, hacc⟩ : ∃ acc, pre.foldl pushR [] = acc := ⟨_, rfl⟩
    rw [hacc] at hN hl2 ⊢
    walk_at "ck"
    rcases List.eq_nil_or_concat acc with rfl | ⟨r, p, rfl⟩
    · refine ⟨by decide, hN _ ⟨_, rfl⟩⟩
    · rw [List.concat_eq_append] at hN hl2 ⊢
      have e1 : L2.atI ((r ++ [p]).map dS) (-1) = some (.tup [.int p.1, .int p.2]) := by
        rw [List.map_append]
        exact last_at
      have e2 : ((r ++ [p]).map dS).isEmpty = false := by simp
      have e3 : ixN (r ++ [p]).length (-1) = some r.length := by
        rw [List.length_append]
        exact ixN_last
      have ep : pushR (r ++ [p]) x = if p.2 = x - 1 then r ++ [(p.1, x)] else (r ++ [p]) ++ [(x, x)] := by
        unfold pushR
        simp
      rw [e2]
      refine ⟨_, e1, ?_⟩
      walk_at "ck"
      refine ite2 (fun hd => ?_) (fun hd => ?_)
      · have hd : p.2 = x - 1 := of_decide_eq_true hd
        rw [ep, if_pos hd] at hN
        refine ⟨_, e1, ?_⟩
        walk_at "ck"
        refine ⟨-1, r.length, rfl, e3, ?_⟩
        have e4 : ((r ++ [p]).map dS).set r.length (.tup [.int p.1, .int x]) = (r ++ [(p.1, x)]).map dS := by
          rw [List.map_append, List.map_append, List.set_append_right _ _ (by simp)]
          simp [dS]
        rw [e4]
        exact hN _ ⟨_, rfl⟩
      · have hd : ¬ p.2 = x - 1 := fun z => hd (decide_eq_true z)
        rw [ep, if_neg hd] at hN
        refine ⟨by have : 1000000 < sizeLine + 1 := Nat.lt_succ_of_le (size1M (Nat.le_refl _)); omega, ?_⟩
        have e4 : (r ++ [p]).map dS ++ [Dt.tup [.int x, .int x]] = ((r ++ [p]) ++ [(x, x)]).map dS := by
          rw [List.map_append (l₂ := [(x, x)])]
          rfl
        rw [e4]
        exact hN _ ⟨_, rfl⟩
  · obtain ⟨x2, rfl⟩ := hs
    rw [foldl_runs]
    walk_at "ck"
    exact q
/-! ### one place more or less -/
def insA (x : Int) : List Int → List Int
  | [] => [x]
  | y :: t => if x < y then x :: y :: t else y :: insA x t
theorem insA_perm (x : Int) : ∀ l : List Int, (insA x l).Perm (l ++ [x])
  | [] => List.Perm.refl _
  | y :: t => by
    unfold insA
    split
    · exact (List.perm_append_comm (l₁ := [x]) (l₂ := y :: t))
    · exact (insA_perm x t).cons y
theorem mem_insA {x z : Int} {l : List Int} : z ∈ insA x l ↔ z ∈ l ∨ z = x := by
  rw [(insA_perm x l).mem_iff, List.mem_append, List.mem_singleton]
theorem insA_asc {x : Int} : ∀ {l : List Int}, Asc l → x ∉ l → Asc (insA x l)
  | [], _, _ => List.pairwise_singleton _ _
  | y :: t, h, hx => by
    obtain ⟨h1, h2⟩ := List.pairwise_cons.mp h
    unfold insA
    split
    · rename_i hlt
      refine List.pairwise_cons.mpr ⟨fun z hz => ?_, h⟩
      rcases List.mem_cons.mp hz with rfl | hz
      · exact hlt
      · have := h1 z hz
        omega
    · rename_i hlt
      refine List.pairwise_cons.mpr ⟨fun z hz => ?_, insA_asc h2 fun z => hx (List.mem_cons_of_mem _ z)⟩
      rcases mem_insA.mp hz with hz | rfl
      · exact h1 z hz
      · have : z ≠ y := fun e => hx (e ▸ List.mem_cons_self)
        omega
theorem sorted_eq {l : List Int} {x : Int} (h : Asc l) (hx : x ∉ l) {ns : List Int} (hp : ns.Perm (l ++ [x])) (hs : ns.Pairwise (· ≤ ·)) : ns = insA x l := by
  refine List.Perm.eq_of_pairwise (le := fun a b => a ≤ b) (fun a b _ _ h1 h2 => Int.le_antisymm h1 h2) hs ((insA_asc h hx).imp fun h => Int.le_of_lt h) (hp.trans (insA_perm x l).symm)
def togA (l : List Int) (x : Int) : List Int := if x ∈ l then l.filter fun y => !decide (y = x) else insA x l
theorem togA_asc {l : List Int} {x : Int} (h : Asc l) : Asc (togA l x) := by
  unfold togA
  split
  · exact h.filter _
  · rename_i hx
    exact insA_asc h hx
theorem mem_togA {l : List Int} {x z : Int} (hz : z ∈ togA l x) : z ∈ l ∨ z = x := by
  unfold togA at hz
  split at hz
  · exact .inl (List.mem_filter.mp hz).1
  · exact mem_insA.mp hz
theorem togA_len {l : List Int} {x : Int} : (togA l x).length ≤ l.length + 1 := by
  unfold togA
  split
  · exact Nat.le_succ_of_le (List.length_filter_le _ _)
  · rw [(insA_perm x l).length_eq, List.length_append]
    exact Nat.le_refl _
/-- places in order, not too many and not too far -/
structure Pls (l : List Int) : Prop where
  a : Asc l
  n : l.length ≤ 10000
  b : ∀ x ∈ l, -100000 ≤ x ∧ x ≤ 100000
theorem runsC_mem {l : List Int} (h : Asc l) {s : Int × Int} (hs : s ∈ runsC l) : s.1 ∈ l ∧ s.2 ∈ l := by
  rw [← (zip_runs h).1] at hs
  obtain ⟨h1, h2⟩ := List.of_mem_zip (a := s.1) (b := s.2) hs
  exact ⟨(List.mem_filter.mp h1).1, (List.mem_filter.mp h2).1⟩
theorem runsC_len {l : List Int} (h : Asc l) : (runsC l).length ≤ l.length := by
  rw [← (zip_runs h).1, List.length_zip]
  have : (starts l).length ≤ l.length := List.length_filter_le _ _
  omega
theorem Pls.places {l : List Int} (h : Pls l) : placesR (runsC l) = l := (runsC_ok (lo := -100000) h.a fun x hx => (h.b x hx).1).2
theorem Pls.runs {l : List Int} (h : Pls l) : ∀ s ∈ runsC l, -1000000 ≤ s.1 ∧ s.1 ≤ 1000000 ∧ -1000000 ≤ s.2 ∧ s.2 ≤ 1000000 := fun s hs => by
  obtain ⟨m1, m2⟩ := runsC_mem h.a hs
  have := h.b _ m1
  have := h.b _ m2
  omega
theorem Pls.tog {l : List Int} (h : Pls l) {x : Int} (hx : -100000 ≤ x ∧ x ≤ 100000) (hl : l.length < 10000) : Pls (togA l x) :=
  ⟨togA_asc h.a, Nat.le_trans togA_len hl, fun z hz => by
    rcases mem_togA hz with hz | rfl
    · exact h.b z hz
    · exact hx⟩
def S_toggled {Ω : Type} : Spc Ω := pureS (ι := List Int × Int) (fun i => [.tup ((runsC i.1).map dS), .int i.2]) (fun i => Pls i.1) fun i => .tup ((runsC (togA i.1 i.2)).map dS)
def S_law_toggled {Ω : Type} : Spc Ω := pureS (ι := List Int × Int) (fun i => [.lst (i.1.map .int), .int i.2]) (fun i => Pls i.1) fun i => .lst ((togA i.1 i.2).map .int)
def S_law_shape {Ω : Type} : Spc Ω := pureS (ι := List Int) (fun i => [.lst (i.map .int)]) (fun i => i.length ≤ 100000) fun i => dS (i.length, (starts i).length)
abbrev p_toggled {Ω : Type} : DS Ω :=
  (wSeq (wSet 2 (wCall S_places_in (wCons (wVar 0) wNil)))
  (wSeq (wIfS (wTV (wOp (fIn false) (wVar 1) (wVar 2))) (wRet (wCall S_runs_of (wCons (wL (wLc [3] (.one 3) (wiSeq (wVar 2)) (wTV (wOp fNe (wVar 3) (wVar 1))) (wVar 3))) wNil))) wNext)
  (wRet (wCall S_runs_of (wCons (wL (wFL fSorted (wL (wOpL fAddL (wVar 2) (wL (wLst (wCons (wVar 1) wNil))))))) wNil)))))
abbrev p_law_toggled {Ω : Type} : DS Ω :=
  (wSeq (wIfS (wTV (wOp (fIn false) (wVar 1) (wVar 0))) (wRet (wL (wLc [2] (.one 2) (wiSeq (wVar 0)) (wTV (wOp fNe (wVar 2) (wVar 1))) (wVar 2)))) wNext)
  (wRet (wL (wFL fSorted (wL (wOpL fAddL (wVar 0) (wL (wLst (wCons (wVar 1) wNil)))))))))
abbrev p_law_shape {Ω : Type} : DS Ω :=
  (wRet (wTup (wCons (wF fLen (wVar 0)) (wCons (wF fLen (wL (wLc [1] (.one 1) (wiSeq (wVar 0)) (wTV (wOp (fIn true) (wOp fSub (wVar 1) (wC (.int 1))) (wVar 0))) (wVar 1)))) wNil))))
theorem m_law_shape {Ω : Type} : ∀ ds (w : Ω) C, S_law_shape.run ds w C → p_law_shape (endD C) (startD 2 ds) w := by
  rintro ds w C ⟨l, rfl, hl, q⟩
  replace hl : l.length ≤ 100000 := hl
  replace q : C (dS (l.length, (starts l).length)) w := q
  show p_law_shape _ [some (.dat (.lst (l.map .int))), none] _
  unfold p_law_shape
  walk_at "ck"
  refine ⟨size1M (by omega), lc_typed Dt.int (fun x => !decide (x - 1 ∈ l)) Dt.int l (fun x hx => ⟨_, rfl, fun C' h => ?_, fun _ C' h => ?_⟩) ?_⟩
  · walk_at "ck"
    refine ⟨rfl, flat_ints l, ?_⟩
    rw [inD_int]
    exact h
  · walk_at "ck"
    exact h
  · walk_at "ck"
    exact q
theorem m_law_toggled {Ω : Type} : ∀ ds (w : Ω) C, S_law_toggled.run ds w C → p_law_toggled (endD C) (startD 3 ds) w := by
  rintro ds w C ⟨⟨l, x⟩, rfl, hl, q⟩
  replace hl : Pls l := hl
  replace q : C (.lst ((togA l x).map .int)) w := q
  have hn := hl.n
  unfold togA at q
  show p_law_toggled _ [some (.dat (.lst (l.map .int))), some (.dat (.int x)), none] _
  unfold p_law_toggled
  walk_at "ck"
  refine ⟨rfl, flat_ints l, ?_⟩
  rw [inD_int]
  refine ite2 (fun hd => ?_) (fun hd => ?_)
  · rw [if_pos (of_decide_eq_true hd)] at q
    refine ⟨size1M (by omega), lc_typed Dt.int (fun y => !decide (y = x)) Dt.int l (fun y hy => ⟨_, rfl, fun C' h => ?_, fun _ C' h => ?_⟩) ?_⟩
    · walk_at "ck"
      exact h
    · walk_at "ck"
      exact h
    · exact q
  · have hx : x ∉ l := fun z => hd (decide_eq_true z)
    rw [if_neg hx] at q
    refine ⟨size1M (by omega), l ++ [x], by rw [List.map_append]; rfl, fun ns hp hs => ?_⟩
    rw [sorted_eq hl.a hx hp hs]
    exact q
theorem m_toggled {Ω : Type} : ∀ ds (w : Ω) C, S_toggled.run ds w C → p_toggled (endD C) (startD 4 ds) w := by
  rintro ds w C ⟨⟨l, x⟩, rfl, hl, q⟩
  replace hl : Pls l := hl
  replace q : C (.tup ((runsC (togA l x)).map dS)) w := q
  have hn := hl.n
  show p_toggled _ [some (.dat (.tup ((runsC l).map dS))), some (.dat (.int x)), none, none] _
  unfold p_toggled
  walk_at "ck"
  refine use_pure (runsC l) ⟨by rw [hl.places]; omega, hl.runs⟩ ?_
  rw [hl.places]
  have ht := togA_len (l := l) (x := x)
  walk_at "ck"
  refine ⟨rfl, flat_ints l, ?_⟩
  rw [inD_int]
  refine ite2 (fun hd => ?_) (fun hd => ?_)
  · have e : togA l x = l.filter fun y => !decide (y = x) := if_pos (of_decide_eq_true hd)
    rw [e] at q ht
    refine ⟨size1M (by omega), lc_typed Dt.int (fun y => !decide (y = x)) Dt.int l (fun y hy => ⟨_, rfl, fun C' h => ?_, fun _ C' h => ?_⟩) ?_⟩
    · walk_at "ck"
      exact h
    · walk_at "ck"
      exact h
    · exact use_pure (l.filter fun y => !decide (y = x)) (by show _ ≤ 100000; omega) q
  · have hx : x ∉ l := fun z => hd (decide_eq_true z)
    have e : togA l x = insA x l := if_neg hx
    rw [e] at q ht
    refine ⟨size1M (by omega), l ++ [x], by rw [List.map_append]; rfl, fun ns hp hs => ?_⟩
    rw [sorted_eq hl.a hx hp hs]
    exact use_pure (insA x l) (by show _ ≤ 100000; omega) q
end Ck
namespace Ck
open PySem PySem.Spec PyProof.Rows L2
/-! ### a drawn book -/
theorem bd_of {x : Int} (h : -10000000 ≤ x ∧ x ≤ 10000000) : Bd x := ⟨by omega, by omega⟩
theorem PriceOk.bd {w : Int} {t : T3} (h : PriceOk w 1000000 t) : Bd3 t := by
  obtain ⟨a, b, c, _⟩ := h
  exact ⟨bd_of (by omega), bd_of (by omega), bd_of (by omega)⟩
theorem TestOk.bd {t : T3} (h : TestOk t) : Bd3 t := ⟨bd_of h.1, bd_of h.2.1, bd_of h.2.2⟩
theorem BookOk.bd {b : Book} (h : BookOk b) : BookBd b := ⟨fun t ht => (h.pr t ht).bd, fun r hr t ht => ((h.ts r hr).2.1 t ht).bd⟩
theorem BookOk.small {b : Book} (h : BookOk b) : SmallB b := ⟨by have := h.rs; omega, fun r hr => by have := (h.ts r hr).1; omega⟩
theorem BookOk.form {b : Book} (h : BookOk b) : FormOk b := ⟨fun r hr => (h.ts r hr).2.2, h.last⟩
theorem sh_bd {w : Int} {s : Int × Int} (h : IsSh w s) (hw : w ≤ 1000) (h1 : 1 ≤ w) : BdS s := by
  obtain ⟨⟨a, b⟩, c, d, _⟩ := price_room (m := s.1) (r := s.2) h
  exact ⟨bd_of (by omega), bd_of (by omega)⟩
theorem shw_bd {x : Int} (h : Bd x) : Shw 0 0 (.int x) := by
  obtain ⟨a, b⟩ := h
  exact shw_int (by omega) (by omega)
theorem shw_d3 {t : T3} (h : Bd3 t) : Shw 3 1 (d3 t) := (shw_tup (shwL_cons (shw_bd h.1) (shwL_cons (shw_bd h.2.1) (shwL_cons (shw_bd h.2.2) shwL_nil)))).mono (by decide) (by decide)
theorem shw_dS {s : Int × Int} (h : BdS s) : Shw 2 1 (dS s) := (shw_tup (shwL_cons (shw_bd h.1) (shwL_cons (shw_bd h.2) shwL_nil))).mono (by decide) (by decide)
theorem BookOk.shw {b : Book} (h : BookOk b) : Shw 700 5 (dB b) := by
  obtain ⟨⟨w1, w2⟩, ⟨p1, p2⟩, pr, hr, ts, l1, l2⟩ := h
  have hp := shw_tup (shwL_map (f := d3) fun t ht => shw_d3 (pr t ht).bd)
  have hR : ∀ r ∈ b.rs, Shw 40 3 (dR r) := fun r hm => by
    obtain ⟨t1, t2, t3, t4⟩ := ts r hm
    have ht := shw_tup (shwL_map (f := d3) fun t ht => shw_d3 (t2 t ht).bd)
    exact (shw_tup (shwL_cons ht (shwL_cons ((shw_bd (bd_of (by omega))).mono (Nat.le_refl _) (by decide)) shwL_nil))).mono (by omega) (by decide)
  have hrs := shw_tup (shwL_map (f := dR) hR)
  refine (shw_tup (shwL_cons (shw_bd (x := b.w) (bd_of (by omega)) |>.mono (Nat.le_refl _) (by decide)) (shwL_cons (hp.mono (Nat.le_refl _) (by decide)) (shwL_cons (hrs.mono (Nat.le_refl _) (Nat.le_refl _)) (shwL_cons (shw_bd (x := b.last) (bd_of (by omega)) |>.mono (Nat.le_refl _) (by decide)) shwL_nil))))).mono (by omega) (by decide)
theorem room_of {b : Book} (h : FormOk b) (s : Int × Int) : ∃ p, b.ps[(kept b s).toNat]? = some p ∧ roomB b s = some (roomAt p s) := by
  obtain ⟨k1, k2⟩ := kept_form h s
  have hl : (kept b s).toNat < b.ps.length := by omega
  refine ⟨_, List.getElem?_eq_getElem hl, ?_⟩
  unfold roomB
  rw [List.getElem?_eq_getElem hl]
  rfl
theorem roomAt_bd {w : Int} {p : T3} {s : Int × Int} (h : PriceOk w 1000000 p) (hs : IsSh w s) (hw : w ≤ 1000) (h1 : 1 ≤ w) : Bd (roomAt p s) := by
  obtain ⟨⟨m0, m1⟩, r0, r1, _⟩ := price_room (m := s.1) (r := s.2) hs
  obtain ⟨a, ⟨b0, b1⟩, ⟨c0, c1⟩, _⟩ := h
  have e1 := mul_mono m0 b0
  have e2 := mul_mono m0 b1
  have e3 := mul_mono r0 c0
  have e4 := mul_mono r0 c1
  rw [Int.mul_comm s.1 p.b] at e1 e2
  rw [Int.mul_comm s.2 p.c] at e3 e4
  unfold Bd roomAt
  omega
end Ck
namespace Ck
open PySem PySem.Spec PyProof.Rows L2
local macro_rules | `(tactic| walk_at "ck") => `(tactic| try simp only [wNext, wBrk, wCnt, wSeq, wRet, wRetN, wSet, wOwn, wDrop, wUnp, wPar, wIfS, wApp, wExt, wSetIx, wAug, wFrz, wFor, k_var, k_vk1, k_vk2, k_par, wC, wL, wOp, wOpL, wF, wFL, wNil, wCons, wTup, wLst, wTV, wTAnd, wTOr, wTNot, wAnd, wOr, wNot, wIfx, wIsN, wNotN, wChain, wO0, wO1, wSl, wCall, wIsi, wLr1, wLr2, wNeg, wLc, wYes, wiSeq, wiR1, wiR2, wiEnum, wiZip, noOwnB, wipeD, wEmp, wListZip, wSortSet, wRevL, wRevT, wOneB, k_mulT, k_add1, k_add2, k_add3, k_add4, k_addL, k_sub, k_mul1, k_mul2, k_mulL, k_div, k_mod, k_pow, k_cmp, k_eq, k_ne, k_ea1, k_ea2, k_ea3, k_ea4, k_in1, k_in2, k_in3, k_in4, k_ix1, k_ix2, k_ix3, k_sl1, k_sl2, k_len1, k_len2, k_len3, k_int1, k_int2, k_abs, k_tuple1, k_tuple2, k_list1, k_list2, k_min2, k_max2, k_non_non, k_ty_int_non, k_ty_bool_non, k_ty_tuple_non, k_ty_str_non, k_ty_list_non, k_non_bl, k_ty_int_bl, k_ty_bool_bl, k_ty_tuple_bl, k_ty_str_bl, k_ty_list_bl, k_non_int, k_ty_int_int, k_ty_bool_int, k_ty_tuple_int, k_ty_str_int, k_ty_list_int, k_non_str, k_ty_int_str, k_ty_bool_str, k_ty_tuple_str, k_ty_str_str, k_ty_list_str, k_non_tup, k_ty_int_tup, k_ty_bool_tup, k_ty_tuple_tup, k_ty_str_tup, k_ty_list_tup, k_non_lst, k_ty_int_lst, k_ty_bool_lst, k_ty_tuple_lst, k_ty_str_lst, k_ty_list_lst, k_non_emp, k_ty_int_emp, k_ty_bool_emp, k_ty_tuple_emp, k_ty_str_emp, k_ty_list_emp, k_seq_non, k_seq_bl, k_seq_int, k_seq_str, k_seq_tup, k_seq_lst, k_seq_emp, k_sz0, k_sz1, k_sz2, k_sz3, k_sz4, k_sz5, k_sz6, k_sz7, k_sz8, k_sz9, k_sz10, k_sz11, k_sz12, k_sz13, k_sz14, k_sz15, k_sz16, k_sz17, k_sz18, k_sz19, k_sz20, k_sz21, k_sz22, k_sz23, k_at0, k_at1, k_at2, k_at3, k_iteT, k_iteF, k_bt1, k_bt2, k_sa0, k_sa1, k_endn, k_endr, List.getElem?_cons_succ, List.getElem?_cons_zero, List.set_cons_succ, List.set_cons_zero, List.length_cons, List.length_nil, List.length_map, List.all_cons, List.all_nil, Nat.reduceAdd, Nat.zero_add, Bool.and_true, Bool.and_self, Option.some.injEq, Dt.int.injEq, Dt.bl.injEq, Dt.str.injEq, Dt.tup.injEq, Dt.lst.injEq, Sv.dat.injEq, Sv.own.injEq, exists_eq_left', exists_eq_left, exists_eq_right, exists_eq', exists_eq, if_true, if_false, Bool.not_false, Bool.not_true, Bool.not_not, true_and, and_true, false_and, and_false, exists_const, reduceCtorEq])

/-! ### keepers as they are drawn -/
structure Turn where
  o : Int
  ts : List T3
  n : Int
def dT (t : Turn) : Dt := .tup [.int t.o, .tup (t.ts.map d3), .int t.n]
structure Keeper where
  w : Int
  ps : List T3
  ts : List Turn
def dK (k : Keeper) : Dt := .tup [.int k.w, .tup (k.ps.map d3), .tup (k.ts.map dT)]
structure KeeperOk (k : Keeper) : Prop where
  w : 1 ≤ k.w ∧ k.w ≤ 6
  ps : 2 ≤ k.ps.length ∧ k.ps.length ≤ 4
  pr : ∀ t ∈ k.ps, PriceOk k.w 1000000 t
  tl : k.ts.length ≤ 10
  ts : ∀ t ∈ k.ts, t.ts.length ≤ 5 ∧ (∀ u ∈ t.ts, TestOk u) ∧ (0 ≤ t.o ∧ t.o < k.ps.length) ∧ (0 ≤ t.n ∧ t.n < k.ps.length) ∧ t.o ≠ t.n
def S_law_keeper : Spc Dw := drawS (ι := Unit) (fun _ => []) (fun _ => True) (fun _ => 300) (fun _ d => ∃ k, d = dK k ∧ KeeperOk k ∧ k.w ≤ 4 ∧ k.ps.length ≤ 3 ∧ k.ts.length ≤ 5)
theorem turn_mod {o d n : Int} (h1 : 0 ≤ o) (h2 : o < n) (h3 : 0 ≤ d) (h4 : d < n - 1) : 0 ≤ (o + 1 + d) % n ∧ (o + 1 + d) % n < n ∧ o ≠ (o + 1 + d) % n := by
  refine ⟨Int.emod_nonneg _ (by omega), Int.emod_lt_of_pos _ (by omega), ?_⟩
  by_cases h : o + 1 + d < n
  · rw [Int.emod_eq_of_lt (by omega) h]
    omega
  · have e : o + 1 + d = (o + 1 + d - n) + n := by omega
    rw [e, Int.add_emod_right, Int.emod_eq_of_lt (by omega) (by omega)]
    omega
def p_law_keeper_1 : DS Dw :=
  (wSeq (wOwn 3 (wLst wNil))
  (wSeq (wFor (.one 4) (wiR1 (wCall S_law_draw (wCons (wVar 0) (wCons (wC (.int 6)) wNil)))) (wSeq (wSet 5 (wCall S_law_draw (wCons (wVar 0) (wCons (wF fLen (wVar 2)) wNil))))
  (wSeq (wSet 6 (wOp fMod (wF fInt (wOp fAdd (wOp fAdd (wVar 5) (wC (.int 1))) (wCall S_law_draw (wCons (wVar 0) (wCons (wOp fSub (wF fLen (wVar 2)) (wC (.int 1))) wNil))))) (wF fLen (wVar 2))))
  (wApp 3 (wTup (wCons (wVar 5) (wCons (wCall S_law_tests (wCons (wVar 0) (wCons (wVar 1) wNil))) (wCons (wVar 6) wNil))))))))
  (wRet (wTup (wCons (wVar 1) (wCons (wVar 2) (wCons (wF fTuple (wVar 3)) wNil)))))))
abbrev p_law_keeper : DS Dw :=
  (wSeq (wSet 1 (wOp fAdd (wC (.int 1)) (wCall S_law_draw (wCons (wVar 0) (wCons (wC (.int 4)) wNil)))))
  (wSeq (wSet 2 (wCall S_law_prices (wCons (wVar 0) (wCons (wVar 1) (wCons (wC (.int 3)) wNil)))))
  (wSeq (wIfS (wTV (wOp fEq (wF fLen (wVar 2)) (wC (.int 1)))) (wSet 2 (wOp fAdd (wVar 2) (wTup (wCons (wTup (wCons (wOp fAdd (wC (.int 1)) (wCall S_law_draw (wCons (wVar 0) (wCons (wC (.int 5)) wNil)))) (wCons (wC (.int 1)) (wCons (wC (.int 0)) wNil)))) wNil)))) wNext)
  p_law_keeper_1)))
theorem m_law_keeper : ∀ ds w C, S_law_keeper.run ds w C → p_law_keeper (endD C) (startD 7 ds) w := by
  rintro ds ⟨p, n⟩ C ⟨_, rfl, _, h3, q⟩
  replace h3 : 300 ≤ n := h3
  replace q : ∀ k m, KeeperOk k → k.w ≤ 4 → k.ps.length ≤ 3 → k.ts.length ≤ 5 → n ≤ m + 300 → C (dK k) ⟨p, m⟩ := fun k m a b c d e => q _ m ⟨k, rfl, a, b, c, d⟩ e
  show p_law_keeper _ [some (.dat (.opq (.ref p))), none, none, none, none, none, none] _
  unfold p_law_keeper
  walk_at "ck"
  refine use_draw (by decide) (by decide) (by omega) fun wd n1 w0 w1 e1 => ?_
  walk_at "ck"
  refine use_drawS (1 + wd, 3) ⟨by show 1 ≤ 1 + wd; omega, by show 1 + wd ≤ 1000; omega, by show (1 : Int) ≤ 3; decide, by show (3 : Int) ≤ 6; decide⟩ (by show 26 ≤ n1; omega) fun d n2 ⟨ps, hd, p1, p2, hps⟩ e2 => ?_
  subst hd
  replace e2 : n1 ≤ n2 + 26 := e2
  replace p2 : (ps.length : Int) ≤ 3 := p2
  replace hps : ∀ t ∈ ps, PriceOk (1 + wd) 1000000 t := hps
  walk_at "ck"
  -- behind the prices
  have rest : ∀ (ps : List T3) (n3 : Nat), 2 ≤ ps.length → ps.length ≤ 3 → (∀ t ∈ ps, PriceOk (1 + wd) 1000000 t) → n ≤ n3 + 28 → p_law_keeper_1 (endD C) [some (.dat (.opq (.ref p))), some (.dat (.int (1 + wd))), some (.dat (.tup (ps.map d3))), none, none, none, none] ⟨p, n3⟩ := by
    intro ps n3 p1 p2 hps e3
    unfold p_law_keeper_1
    walk_at "ck"
    refine use_draw (by decide) (by decide) (by omega) fun k n4 k0 k1 e4 => ?_
    refine ⟨k, rfl, by omega, by omega, ?_⟩
    rw [rngD_eq]
    refine loop_drawN (rngN 0) 33 (fun i sl => ∃ x4 x5 x6, ∃ ts : List Turn, sl = [some (.dat (.opq (.ref p))), some (.dat (.int (1 + wd))), some (.dat (.tup (ps.map d3))), some (.own (ts.map dT)), x4, x5, x6] ∧ ts.length = i ∧ ∀ t ∈ ts, t.ts.length ≤ 5 ∧ (∀ u ∈ t.ts, TestOk u) ∧ (0 ≤ t.o ∧ t.o < ps.length) ∧ (0 ≤ t.n ∧ t.n < ps.length) ∧ t.o ≠ t.n) _ ?_ ⟨_, _, _, [], rfl, rfl, fun _ h => nomatch h⟩ (by rw [List.length_range]; omega) ?_
    · rintro i j sl hj ⟨x4, x5, x6, ts, rfl, hl, hts⟩
      have hi : i < k.toNat := by
        have := (List.getElem?_eq_some_iff.mp hj).1
        rwa [List.length_range] at this
      refine ⟨_, rfl, fun n5 N hn5 hN => ?_⟩
      walk_at "ck"
      refine use_draw (by omega) (by omega) (by omega) fun o n6 o0 o1 e6 => ?_
      walk_at "ck"
      refine use_draw (by omega) (by omega) (by omega) fun d n7 d0 d1 e7 => ?_
      walk_at "ck"
      obtain ⟨m1, m2, m3⟩ := turn_mod o0 o1 d0 d1
      refine ⟨by omega, size1M (by omega), ?_⟩
      refine use_drawS (1 + wd) ⟨by omega, by omega⟩ (by show 31 ≤ n7; omega) fun d' n8 ⟨us, hd, u1, u2⟩ e8 => ?_
      subst hd
      replace e8 : n7 ≤ n8 + 31 := e8
      refine hN _ _ ⟨_, _, _, ts ++ [⟨o, us, (o + 1 + d) % (ps.length : Int)⟩], by rw [List.map_append]; rfl, by rw [List.length_append, hl]; rfl, fun t ht => ?_⟩ (by omega)
      rcases List.mem_append.mp ht with z | z
      · exact hts t z
      · rw [List.mem_singleton.mp z]
        exact ⟨u1, u2, ⟨o0, o1⟩, ⟨m1, m2⟩, m3⟩
    · rintro sl m ⟨x4, x5, x6, ts, rfl, hl, hts⟩ em
      rw [List.length_range] at em hl
      walk_at "ck"
      exact q ⟨1 + wd, ps, ts⟩ m ⟨⟨by show 1 ≤ 1 + wd; omega, by show 1 + wd ≤ 6; omega⟩, ⟨p1, by show ps.length ≤ 4; omega⟩, hps, by show ts.length ≤ 10; omega, hts⟩ (by show 1 + wd ≤ 4; omega) p2 (by show ts.length ≤ 5; omega) (by omega)
  refine ite2 (fun hd => ?_) (fun hd => ?_)
  · have h1 : ps.length = 1 := by have := of_decide_eq_true hd; omega
    refine use_draw (by decide) (by decide) (by omega) fun e n3 e0 e1' e3 => ?_
    walk_at "ck"
    have em : ps.map d3 ++ [Dt.tup [.int (1 + e), .int 1, .int 0]] = (ps ++ [(⟨1 + e, 1, 0⟩ : T3)]).map d3 := by rw [List.map_append]; rfl
    have el : (ps ++ [(⟨1 + e, 1, 0⟩ : T3)]).length = 2 := by rw [List.length_append, h1]; rfl
    rw [em]
    refine ⟨size1M (by omega), rest (ps ++ [⟨1 + e, 1, 0⟩]) n3 (by omega) (by omega) (fun t ht => ?_) (by omega)⟩
    rcases List.mem_append.mp ht with z | z
    · exact hps t z
    · rw [List.mem_singleton.mp z]
      refine ⟨⟨by show -1000000 ≤ 1 + e; omega, by show 1 + e ≤ 1000000; omega⟩, ⟨by show (-1000000 : Int) ≤ 1; decide, by show (1 : Int) ≤ 1000000; decide⟩, ⟨by show (-1000000 : Int) ≤ 0; decide, by show (0 : Int) ≤ 1000000; decide⟩, fun s hs => ?_⟩
      have := (price_room (m := s.1) (r := s.2) hs).1.1
      unfold roomAt
      dsimp only
      omega
  · have h1 : ps.length ≠ 1 := fun z => hd (decide_eq_true (by omega))
    exact rest ps n2 (by omega) (by omega) hps (by omega)
end Ck
namespace Ck
open PySem PySem.Spec PyProof.Rows L2
local macro_rules | `(tactic| walk_at "ck") => `(tactic| try simp only [wNext, wBrk, wCnt, wSeq, wRet, wRetN, wSet, wOwn, wDrop, wUnp, wPar, wIfS, wApp, wExt, wSetIx, wAug, wFrz, wFor, k_var, k_vk1, k_vk2, k_par, wC, wL, wOp, wOpL, wF, wFL, wNil, wCons, wTup, wLst, wTV, wTAnd, wTOr, wTNot, wAnd, wOr, wNot, wIfx, wIsN, wNotN, wChain, wO0, wO1, wSl, wCall, wIsi, wLr1, wLr2, wNeg, wLc, wYes, wiSeq, wiR1, wiR2, wiEnum, wiZip, noOwnB, wipeD, wEmp, wListZip, wSortSet, wRevL, wRevT, wOneB, k_mulT, k_add1, k_add2, k_add3, k_add4, k_addL, k_sub, k_mul1, k_mul2, k_mulL, k_div, k_mod, k_pow, k_cmp, k_eq, k_ne, k_ea1, k_ea2, k_ea3, k_ea4, k_in1, k_in2, k_in3, k_in4, k_ix1, k_ix2, k_ix3, k_sl1, k_sl2, k_len1, k_len2, k_len3, k_int1, k_int2, k_abs, k_tuple1, k_tuple2, k_list1, k_list2, k_min2, k_max2, k_non_non, k_ty_int_non, k_ty_bool_non, k_ty_tuple_non, k_ty_str_non, k_ty_list_non, k_non_bl, k_ty_int_bl, k_ty_bool_bl, k_ty_tuple_bl, k_ty_str_bl, k_ty_list_bl, k_non_int, k_ty_int_int, k_ty_bool_int, k_ty_tuple_int, k_ty_str_int, k_ty_list_int, k_non_str, k_ty_int_str, k_ty_bool_str, k_ty_tuple_str, k_ty_str_str, k_ty_list_str, k_non_tup, k_ty_int_tup, k_ty_bool_tup, k_ty_tuple_tup, k_ty_str_tup, k_ty_list_tup, k_non_lst, k_ty_int_lst, k_ty_bool_lst, k_ty_tuple_lst, k_ty_str_lst, k_ty_list_lst, k_non_emp, k_ty_int_emp, k_ty_bool_emp, k_ty_tuple_emp, k_ty_str_emp, k_ty_list_emp, k_seq_non, k_seq_bl, k_seq_int, k_seq_str, k_seq_tup, k_seq_lst, k_seq_emp, k_sz0, k_sz1, k_sz2, k_sz3, k_sz4, k_sz5, k_sz6, k_sz7, k_sz8, k_sz9, k_sz10, k_sz11, k_sz12, k_sz13, k_sz14, k_sz15, k_sz16, k_sz17, k_sz18, k_sz19, k_sz20, k_sz21, k_sz22, k_sz23, k_at0, k_at1, k_at2, k_at3, k_iteT, k_iteF, k_bt1, k_bt2, k_sa0, k_sa1, k_endn, k_endr, List.getElem?_cons_succ, List.getElem?_cons_zero, List.set_cons_succ, List.set_cons_zero, List.length_cons, List.length_nil, List.length_map, List.all_cons, List.all_nil, Nat.reduceAdd, Nat.zero_add, Bool.and_true, Bool.and_self, Option.some.injEq, Dt.int.injEq, Dt.bl.injEq, Dt.str.injEq, Dt.tup.injEq, Dt.lst.injEq, Sv.dat.injEq, Sv.own.injEq, exists_eq_left', exists_eq_left, exists_eq_right, exists_eq', exists_eq, if_true, if_false, Bool.not_false, Bool.not_true, Bool.not_not, true_and, and_true, false_and, and_false, exists_const, reduceCtorEq])

/-! ### steps of keepers -/
/-- a loop over what is known that ends at the first bad one -/
theorem loop_hit {Ω α : Type} {tg : Tg} {body : DS Ω} {D : DD Ω} {w : Ω} (enc : α → Dt) (bad : α → Bool) (J : Sl → Prop) (R : α → Prop) : ∀ (ks : List α) {sl : Sl},
    (∀ (k : α) (sl : Sl), k ∈ ks → J sl → ∃ sl', bindTg tg (enc k) sl = some sl' ∧ ∀ N : Sl → Ω → Prop, (bad k = false → ∀ s, J s → N s w) → (bad k = true → R k) → body { D with nx := N, ct := N, bk := D.nx } sl' w) →
    J sl → (∀ k, ks.find? bad = some k → R k) → (ks.find? bad = none → ∀ s, J s → D.nx s w) → wLoop tg body D (ks.map enc) sl w
  | [], sl, _, h0, _, hC => hC rfl sl h0
  | k :: ks, sl, h, h0, hR, hC => by
    obtain ⟨sl', h1, h2⟩ := h k sl List.mem_cons_self h0
    refine ⟨sl', h1, h2 _ (fun hb s hs => ?_) fun hb => hR k ?_⟩
    · refine loop_hit enc bad J R ks (fun k sl hk => h k sl (List.mem_cons_of_mem _ hk)) hs (fun j hj => hR j ?_) (fun hj => hC ?_)
      · rw [List.find?_cons, hb]
        exact hj
      · rw [List.find?_cons, hb]
        exact hj
    · rw [List.find?_cons, hb]
def dueT (f : Int) (s : Int × Int) (t : Turn) : Bool := decide (t.o = f) && holdB t.ts s
def shapeA (l : List Int) : Int × Int := (l.length, (starts l).length)
def turnAt (k : Keeper) (l : List Int) (f x : Int) : Option Turn := k.ts.find? (dueT f (shapeA (togA l x)))
def priceAt (k : Keeper) (i : Int) : T3 := (k.ps[i.toNat]?).getD ⟨0, 0, 0⟩
def nextF (k : Keeper) (l : List Int) (f x : Int) : Int := match turnAt k l f x with
  | some t => t.n
  | none => f
def costF (k : Keeper) (l : List Int) (f x : Int) : Int := match turnAt k l f x with
  | some t => roomAt (priceAt k t.n) (shapeA (togA l x))
  | none => 0
/-- a standing: a set and a form -/
def dN (l : List Int) (f : Int) : Dt := .tup [.tup ((runsC l).map dS), .int f]
def stepD (k : Keeper) (l : List Int) (f x : Int) : Dt := .tup [dN (togA l x) (nextF k l f x), .int (costF k l f x)]
def S_step {Ω : Type} : Spc Ω := pureS (ι := Keeper × List Int × Int × Int) (fun i => [dK i.1, dN i.2.1 i.2.2.1, .int i.2.2.2]) (fun i => KeeperOk i.1 ∧ Pls i.2.1 ∧ i.2.1.length < 10000 ∧ (-100000 ≤ i.2.2.2 ∧ i.2.2.2 ≤ 100000)) fun i => stepD i.1 i.2.1 i.2.2.1 i.2.2.2
def S_law_step {Ω : Type} : Spc Ω := S_step
abbrev p_step {Ω : Type} : DS Ω :=
  (wSeq (wPar 3 4 (wCons (wCall S_toggled (wCons (wOp fIx (wVar 1) (wC (.int 0))) (wCons (wVar 2) wNil))) (wCons (wOp fIx (wVar 1) (wC (.int 1))) wNil)))
  (wSeq (wSet 5 (wCall S_shape_of (wCons (wVar 3) wNil)))
  (wSeq (wFor (.many [6, 7, 8]) (wiSeq (wOp fIx (wVar 0) (wC (.int 2)))) (wIfS (wTAnd (wTV (wOp fEq (wVar 6) (wVar 4))) (wTV (wCall S_do_hold (wCons (wVar 7) (wCons (wVar 5) wNil))))) (wRet (wTup (wCons (wTup (wCons (wVar 3) (wCons (wVar 8) wNil))) (wCons (wCall S_room_at (wCons (wOp fIx (wOp fIx (wVar 0) (wC (.int 1))) (wVar 8)) (wCons (wVar 5) wNil))) wNil)))) wNext))
  (wRet (wTup (wCons (wTup (wCons (wVar 3) (wCons (wVar 4) wNil))) (wCons (wC (.int 0)) wNil)))))))
abbrev p_law_step {Ω : Type} : DS Ω :=
  (wSeq (wSet 3 (wCall S_law_toggled (wCons (wCall S_law_places (wCons (wOp fIx (wVar 1) (wC (.int 0))) wNil)) (wCons (wVar 2) wNil))))
  (wSeq (wUnp [4, 5] (wTup (wCons (wCall S_law_shape (wCons (wVar 3) wNil)) (wCons (wCall S_law_runs (wCons (wVar 3) wNil)) wNil))))
  (wSeq (wSet 6 (wL (wLc [7, 8, 9] (.many [7, 8, 9]) (wiSeq (wOp fIx (wVar 0) (wC (.int 2)))) (wTAnd (wTV (wOp fEq (wVar 7) (wOp fIx (wVar 1) (wC (.int 1))))) (wTV (wCall S_law_do_hold (wCons (wVar 8) (wCons (wVar 4) wNil))))) (wVar 9))))
  (wSeq (wIfS (wTV (wOp fEq (wVar 6) (wL (wLst wNil)))) (wRet (wTup (wCons (wTup (wCons (wVar 5) (wCons (wOp fIx (wVar 1) (wC (.int 1))) wNil))) (wCons (wC (.int 0)) wNil)))) wNext)
  (wRet (wTup (wCons (wTup (wCons (wVar 5) (wCons (wOp fIx (wVar 6) (wC (.int 0))) wNil))) (wCons (wCall S_law_room (wCons (wOp fIx (wOp fIx (wVar 0) (wC (.int 1))) (wOp fIx (wVar 6) (wC (.int 0)))) (wCons (wVar 4) wNil))) wNil))))))))
theorem price_at {k : Keeper} {i : Int} (h0 : 0 ≤ i) (h1 : i < k.ps.length) : k.ps[i.toNat]? = some (priceAt k i) ∧ priceAt k i ∈ k.ps := by
  have e := List.getElem?_eq_getElem (l := k.ps) (i := i.toNat) (by omega)
  unfold priceAt
  rw [e]
  exact ⟨rfl, List.getElem_mem _⟩
theorem shapeA_bd {l : List Int} (h : l.length ≤ 10000) : BdS (shapeA l) := by
  have h2 : (starts l).length ≤ l.length := List.length_filter_le _ _
  exact ⟨⟨by show -(2 ^ 40) < (l.length : Int); omega, by show (l.length : Int) < 2 ^ 40; omega⟩, by show -(2 ^ 40) < ((starts l).length : Int); omega, by show ((starts l).length : Int) < 2 ^ 40; omega⟩
theorem m_step {Ω : Type} : ∀ ds (w : Ω) C, S_step.run ds w C → p_step (endD C) (startD 9 ds) w := by
  rintro ds w C ⟨⟨k, l, f, x⟩, rfl, ⟨ko, hl, hn, hx⟩, q⟩
  replace ko : KeeperOk k := ko
  replace hl : Pls l := hl
  replace hn : l.length < 10000 := hn
  replace hx : -100000 ≤ x ∧ x ≤ 100000 := hx
  replace q : C (stepD k l f x) w := q
  show p_step _ [some (.dat (dK k)), some (.dat (dN l f)), some (.dat (.int x)), none, none, none, none, none, none] _
  have ht := hl.tog hx hn
  have hsh := shape_runs ht.a
  have hbd := shapeA_bd ht.n
  unfold p_step
  unfold dK dN
  walk_at "ck"
  refine use_pure (l, x) hl ?_
  walk_at "ck"
  refine use_pure (runsC (togA l x)) (Nat.le_trans (runsC_len ht.a) (by have := ht.n; omega)) ?_
  have e1 : ((sizeR (runsC (togA l x)), ((runsC (togA l x)).length : Int)) : Int × Int) = shapeA (togA l x) := by
    unfold shapeA
    rw [hsh.2, hsh.1]
  rw [e1]
  walk_at "ck"
  unfold stepD nextF costF at q
  refine loop_hit dT (dueT f (shapeA (togA l x))) (fun sl => ∃ x6 x7 x8, sl = [some (.dat (.tup [.int k.w, .tup (k.ps.map d3), .tup (k.ts.map dT)])), some (.dat (.tup [.tup ((runsC l).map dS), .int f])), some (.dat (.int x)), some (.dat (.tup ((runsC (togA l x)).map dS))), some (.dat (.int f)), some (.dat (dS (shapeA (togA l x)))), x6, x7, x8])
    (fun t => C (.tup [dN (togA l x) t.n, .int (roomAt (priceAt k t.n) (shapeA (togA l x)))]) w) k.ts (fun t sl htm hj => ?_) ⟨_, _, _, rfl⟩ (fun t h => ?_) (fun h s hs => ?_)
  · obtain ⟨x6, x7, x8, rfl⟩ := hj
    obtain ⟨t1, t2, t3, t4, t5⟩ := ko.ts t htm
    refine ⟨_, rfl, fun N h3 h4 => ?_⟩
    walk_at "ck"
    unfold dueT at h3 h4
    refine ite2 (fun hd => ?_) (fun hd => ?_)
    · have hd : decide (t.o = f) = true := hd
      rw [hd, Bool.true_and] at h3 h4
      refine use_pure (t.ts, shapeA (togA l x)) ⟨fun u hu => (t2 u hu).bd, hbd⟩ ⟨_, rfl, ite2 (fun hd => ?_) (fun hd => ?_)⟩
      · obtain ⟨p1, p2⟩ := price_at t4.1 t4.2
        have e2 : L2.atI (k.ps.map d3) t.n = some (d3 (priceAt k t.n)) := atI_int t4.1 (by rw [List.getElem?_map, p1]; rfl)
        refine ⟨_, e2, use_pure (priceAt k t.n, shapeA (togA l x)) ⟨(ko.pr _ p2).bd, hbd⟩ ?_⟩
        exact h4 hd
      · exact h3 (by simpa using hd) _ ⟨_, _, _, rfl⟩
    · have hd : decide (t.o = f) = false := by simpa using hd
      rw [hd, Bool.false_and] at h3
      exact h3 rfl _ ⟨_, _, _, rfl⟩
  · have h : turnAt k l f x = some t := h
    rw [h] at q
    exact q
  · obtain ⟨x6, x7, x8, rfl⟩ := hs
    have h : turnAt k l f x = none := h
    rw [h] at q
    walk_at "ck"
    exact q
theorem m_law_step {Ω : Type} : ∀ ds (w : Ω) C, S_law_step.run ds w C → p_law_step (endD C) (startD 10 ds) w := by
  rintro ds w C ⟨⟨k, l, f, x⟩, rfl, ⟨ko, hl, hn, hx⟩, q⟩
  replace ko : KeeperOk k := ko
  replace hl : Pls l := hl
  replace hn : l.length < 10000 := hn
  replace hx : -100000 ≤ x ∧ x ≤ 100000 := hx
  replace q : C (stepD k l f x) w := q
  show p_law_step _ [some (.dat (dK k)), some (.dat (dN l f)), some (.dat (.int x)), none, none, none, none, none, none, none] _
  have ht := hl.tog hx hn
  have hbd := shapeA_bd ht.n
  have htl := ko.tl
  unfold p_law_step
  unfold dK dN
  walk_at "ck"
  refine use_pure (runsC l) ⟨by rw [hl.places]; omega, hl.runs⟩ ?_
  rw [hl.places]
  refine use_pure (l, x) hl ?_
  walk_at "ck"
  refine use_pure (togA l x) (by have := ht.n; show _ ≤ 100000; omega) ?_
  refine use_pure (togA l x) ⟨ht.a, by have := ht.n; omega⟩ ?_
  walk_at "ck"
  unfold stepD nextF costF at q
  refine ⟨size1M (by omega), lc_typed dT (dueT f (shapeA (togA l x))) (fun t => .int t.n) k.ts (fun t htm => ⟨_, rfl, fun C' h => ?_, fun _ C' h => ?_⟩) ?_⟩
  · obtain ⟨t1, t2, t3, t4, t5⟩ := ko.ts t htm
    walk_at "ck"
    unfold dueT at h
    refine ite2 (fun hd => ?_) (fun hd => ?_)
    · have hd : decide (t.o = f) = true := hd
      rw [hd, Bool.true_and] at h
      refine use_pure (t.ts, shapeA (togA l x)) ⟨fun u hu => (t2 u hu).bd, hbd, by show t.ts.length ≤ 1000; omega⟩ ⟨_, rfl, ?_⟩
      exact h
    · have hd : decide (t.o = f) = false := by simpa using hd
      rw [hd, Bool.false_and] at h
      exact h
  · walk_at "ck"
    exact h
  · have e : (k.ts.filter (dueT f (shapeA (togA l x)))).head? = turnAt k l f x := List.head?_filter ..
    walk_at "ck"
    cases hf : k.ts.filter (dueT f (shapeA (togA l x))) with
    | nil =>
      rw [hf] at e
      have e : turnAt k l f x = none := e.symm
      rw [e] at q
      exact q
    | cons t r =>
      rw [hf] at e
      have e : turnAt k l f x = some t := e.symm
      rw [e] at q
      have htm : t ∈ k.ts := (List.mem_filter.mp (hf ▸ List.mem_cons_self : t ∈ k.ts.filter _)).1
      obtain ⟨t1, t2, t3, t4, t5⟩ := ko.ts t htm
      rw [List.map_cons]
      walk_at "ck"
      obtain ⟨p1, p2⟩ := price_at t4.1 t4.2
      have e2 : L2.atI (k.ps.map d3) t.n = some (d3 (priceAt k t.n)) := atI_int t4.1 (by rw [List.getElem?_map, p1]; rfl)
      exact ite2 (fun h => absurd h (by simp)) fun _ => ⟨_, e2, use_pure (priceAt k t.n, shapeA (togA l x)) ⟨(ko.pr _ p2).bd, hbd⟩ q⟩
end Ck
namespace Ck
open PySem PySem.Spec PyProof.Rows L2
local macro_rules | `(tactic| walk_at "ck") => `(tactic| try simp only [wNext, wBrk, wCnt, wSeq, wRet, wRetN, wSet, wOwn, wDrop, wUnp, wPar, wIfS, wApp, wExt, wSetIx, wAug, wFrz, wFor, k_var, k_vk1, k_vk2, k_par, wC, wL, wOp, wOpL, wF, wFL, wNil, wCons, wTup, wLst, wTV, wTAnd, wTOr, wTNot, wAnd, wOr, wNot, wIfx, wIsN, wNotN, wChain, wO0, wO1, wSl, wCall, wIsi, wLr1, wLr2, wNeg, wLc, wYes, wiSeq, wiR1, wiR2, wiEnum, wiZip, noOwnB, wipeD, wEmp, wListZip, wSortSet, wRevL, wRevT, wOneB, k_mulT, k_add1, k_add2, k_add3, k_add4, k_addL, k_sub, k_mul1, k_mul2, k_mulL, k_div, k_mod, k_pow, k_cmp, k_eq, k_ne, k_ea1, k_ea2, k_ea3, k_ea4, k_in1, k_in2, k_in3, k_in4, k_ix1, k_ix2, k_ix3, k_sl1, k_sl2, k_len1, k_len2, k_len3, k_int1, k_int2, k_abs, k_tuple1, k_tuple2, k_list1, k_list2, k_min2, k_max2, k_non_non, k_ty_int_non, k_ty_bool_non, k_ty_tuple_non, k_ty_str_non, k_ty_list_non, k_non_bl, k_ty_int_bl, k_ty_bool_bl, k_ty_tuple_bl, k_ty_str_bl, k_ty_list_bl, k_non_int, k_ty_int_int, k_ty_bool_int, k_ty_tuple_int, k_ty_str_int, k_ty_list_int, k_non_str, k_ty_int_str, k_ty_bool_str, k_ty_tuple_str, k_ty_str_str, k_ty_list_str, k_non_tup, k_ty_int_tup, k_ty_bool_tup, k_ty_tuple_tup, k_ty_str_tup, k_ty_list_tup, k_non_lst, k_ty_int_lst, k_ty_bool_lst, k_ty_tuple_lst, k_ty_str_lst, k_ty_list_lst, k_non_emp, k_ty_int_emp, k_ty_bool_emp, k_ty_tuple_emp, k_ty_str_emp, k_ty_list_emp, k_seq_non, k_seq_bl, k_seq_int, k_seq_str, k_seq_tup, k_seq_lst, k_seq_emp, k_sz0, k_sz1, k_sz2, k_sz3, k_sz4, k_sz5, k_sz6, k_sz7, k_sz8, k_sz9, k_sz10, k_sz11, k_sz12, k_sz13, k_sz14, k_sz15, k_sz16, k_sz17, k_sz18, k_sz19, k_sz20, k_sz21, k_sz22, k_sz23, k_at0, k_at1, k_at2, k_at3, k_iteT, k_iteF, k_bt1, k_bt2, k_sa0, k_sa1, k_endn, k_endr, List.getElem?_cons_succ, List.getElem?_cons_zero, List.set_cons_succ, List.set_cons_zero, List.length_cons, List.length_nil, List.length_map, List.all_cons, List.all_nil, Nat.reduceAdd, Nat.zero_add, Bool.and_true, Bool.and_self, Option.some.injEq, Dt.int.injEq, Dt.bl.injEq, Dt.str.injEq, Dt.tup.injEq, Dt.lst.injEq, Sv.dat.injEq, Sv.own.injEq, exists_eq_left', exists_eq_left, exists_eq_right, exists_eq', exists_eq, if_true, if_false, Bool.not_false, Bool.not_true, Bool.not_not, true_and, and_true, false_and, and_false, exists_const, reduceCtorEq])

def S_law_spoilt : Nat → Spc Dw
  | 0 => ⟨fun _ _ _ => False, fun _ _ _ _ _ h => h⟩
  | n + 1 => drawS (ι := Dt × Nat × Nat) (fun i => [i.1]) (fun i => Shw i.2.1 i.2.2 i.1 ∧ i.2.1 ≤ 300000 ∧ i.2.2 ≤ n) (fun _ => 4 * (n + 1)) (fun i d => Shw (2 * i.2.1 + 44) (i.2.2 + 1) d)
abbrev p_law_spoilt (S_self : Spc Dw) : DS Dw :=
  (wSeq (wSet 2 (wL (wLst (wCons (wC .non) (wCons (wC (.bl true)) (wCons (wC (.bl false)) (wCons (wC (.int 0)) (wCons (wC (.int 1)) (wCons (wNeg (wC (.int 1))) (wCons (wC (.int 2)) (wCons (wC (.int 7)) (wCons (wC (.int 1001)) (wCons (wC (.str (Str.ofString ""))) (wCons (wC (.str (Str.ofString "a"))) (wCons (wTup wNil) (wCons (wL (wLst wNil)) (wCons (wTup (wCons (wC (.int 0)) wNil)) (wCons (wTup (wCons (wC (.int 0)) (wCons (wC (.int 0)) wNil))) (wCons (wTup (wCons (wC (.int 1)) (wCons (wC (.int 2)) (wCons (wC (.int 3)) wNil)))) (wCons wEmp (wCons (wOp fPow (wC (.int 10)) (wC (.int 8))) (wCons (wNeg (wOp fPow (wC (.int 10)) (wC (.int 8)))) wNil))))))))))))))))))))))
  (wSeq (wIfS (wTOr (wTNot (wTV (wIsi "tuple" (wVar 1)))) (wTOr (wTV (wOp fEq (wF fLen (wVar 1)) (wC (.int 0)))) (wTV (wOp fEq (wCall S_law_draw (wCons (wVar 0) (wCons (wC (.int 7)) wNil))) (wC (.int 0)))))) (wRet (wCall S_law_one (wCons (wVar 0) (wCons (wL (wOpL fAddL (wVar 2) (wL (wLst (wCons (wL (wLst (wCons (wVar 1) wNil))) (wCons (wTup (wCons (wVar 1) wNil)) (wCons (wVar 1) wNil))))))) wNil)))) wNext)
  (wSeq (wPar 3 4 (wCons (wCall S_law_draw (wCons (wVar 0) (wCons (wF fLen (wVar 1)) wNil))) (wCons (wCall S_law_draw (wCons (wVar 0) (wCons (wC (.int 9)) wNil))) wNil)))
  (wSeq (wIfS (wTV (wOp fLt (wVar 4) (wC (.int 6)))) (wRet (wOp fAdd (wOp fAdd (wSl fSl (wVar 1) wO0 (wO1 (wVar 3))) (wTup (wCons (wCall S_self (wCons (wVar 0) (wCons (wOp fIx (wVar 1) (wVar 3)) wNil))) wNil))) (wSl fSl (wVar 1) (wO1 (wOp fAdd (wVar 3) (wC (.int 1)))) wO0))) wNext)
  (wRet (wCall S_law_one (wCons (wVar 0) (wCons (wL (wLst (wCons (wOp fAdd (wSl fSl (wVar 1) wO0 (wO1 (wVar 3))) (wSl fSl (wVar 1) (wO1 (wOp fAdd (wVar 3) (wC (.int 1)))) wO0)) (wCons (wOp fAdd (wSl fSl (wVar 1) wO0 (wO1 (wOp fAdd (wVar 3) (wC (.int 1))))) (wSl fSl (wVar 1) (wO1 (wVar 3)) wO0)) (wCons (wL (wFL fList (wVar 1))) wNil))))) wNil))))))))
theorem shw_str {x : Str} (h : (PyData.str x).leavesShort 20 = true) (h2 : (PyData.str x).showable = true) {c : Nat} (h4 : (PyData.str x).bulk ≤ c) (h5 : (PyData.str x).depth ≤ 0) : Shw c 0 (.str x) := ⟨.str x, by simp only [Dt.pr], h, h2, h4, h5⟩
theorem shw_emp : Shw 0 1 .emp := ⟨.dict [], by simp only [Dt.pr], by decide, by decide, by decide, by decide⟩
theorem cutD_take {l : List Dt} {i : Nat} (h : i ≤ l.length) : cutD l none (some (i : Int)) = l.take i := by
  unfold cutD
  rw [HT.sIx_none, HT.sIx_nat, List.drop_zero, Nat.sub_zero, Nat.min_eq_left h]
theorem cutD_drop {l : List Dt} {i : Nat} (h : i ≤ l.length) : cutD l (some (i : Int)) none = l.drop i := by
  unfold cutD
  rw [HT.sIx_none, HT.sIx_nat, Nat.min_eq_left h]
  exact List.take_of_length_le (by rw [List.length_drop]; omega)
theorem shwL_app {n : Nat} : ∀ {a b : Nat} {l r : List Dt}, ShwL a n l → ShwL b n r → ShwL (a + b) n (l ++ r)
  | a, b, [], r, _, h => h.mono (by omega) (Nat.le_refl _)
  | a, b, d :: l, r, h, h' => by
    obtain ⟨x, y, e, h1, h2⟩ := shw_it2 h
    exact (shwL_cons h1 (shwL_app (it2_shw h2) h')).mono (by omega) (Nat.le_refl _)
theorem shwL_split {n : Nat} : ∀ {k : Nat} {l r : List Dt}, ShwL k n (l ++ r) → ∃ a b, a + b ≤ k ∧ ShwL a n l ∧ ShwL b n r
  | k, [], r, h => ⟨0, k, by omega, shwL_nil, h⟩
  | k, d :: l, r, h => by
    obtain ⟨x, y, e, h1, h2⟩ := shw_it2 h
    obtain ⟨a, b, e2, h3, h4⟩ := shwL_split (it2_shw h2)
    exact ⟨x + 1 + a, b, by omega, shwL_cons h1 h3, h4⟩
theorem shwL_at {k n : Nat} {l : List Dt} (h : ShwL k n l) {j : Nat} (hj : j < l.length) : ∃ a b c, a + 1 + b + c ≤ k ∧ Shw a n l[j] ∧ ShwL b n (l.take j) ∧ ShwL c n (l.drop (j + 1)) := by
  have e : l = l.take j ++ l[j] :: l.drop (j + 1) := by
    rw [← List.drop_eq_getElem_cons hj, List.take_append_drop]
  rw [e] at h
  obtain ⟨b, c, e2, h1, h2⟩ := shwL_split h
  obtain ⟨x, y, e3, h3, h4⟩ := shw_it2 h2
  exact ⟨x, b, y, by omega, h3, h1, it2_shw h4⟩
theorem m_law_spoilt (n : Nat) : ∀ ds w C, (S_law_spoilt (n + 1)).run ds w C → p_law_spoilt (S_law_spoilt n) (endD C) (startD 5 ds) w := by
  rintro ds ⟨p, k⟩ C ⟨⟨v, b, dp⟩, rfl, ⟨hv, hb, hn⟩, hk, q⟩
  replace hv : Shw b dp v := hv
  replace hn : dp ≤ n := hn
  replace hb : b ≤ 300000 := hb
  replace hk : 4 * (n + 1) ≤ k := hk
  replace q : ∀ d m, Shw (2 * b + 44) (dp + 1) d → k ≤ m + 4 * (n + 1) → C d ⟨p, m⟩ := q
  show p_law_spoilt _ _ [some (.dat (.opq (.ref p))), some (.dat v), none, none, none] _
  unfold p_law_spoilt
  walk_at "ck"
  refine ⟨⟨by decide, by decide, by decide⟩, ⟨by decide, by decide, by decide⟩, ?_⟩
  -- what is drawn of the odd ones
  have odd : ∀ (k1 : Nat) (D : Dt → Dw → Prop), 1 ≤ k1 → (∀ d m, Shw (2 * b + 44) (dp + 1) d → k1 ≤ m + 1 → D d ⟨p, m⟩) → S_law_one.run [.opq (.ref p), .lst ([Dt.non, Dt.bl true, Dt.bl false, Dt.int 0, Dt.int 1, Dt.int (-1), Dt.int 2, Dt.int 7, Dt.int 1001,
      Dt.str (Str.ofString ""), Dt.str (Str.ofString "a"), Dt.tup [], Dt.lst [], Dt.tup [Dt.int 0], Dt.tup [Dt.int 0, Dt.int 0], Dt.tup [Dt.int 1, Dt.int 2, Dt.int 3], Dt.emp, Dt.int (10 ^ Int.toNat 8), Dt.int (-10 ^ Int.toNat 8)] ++ [Dt.lst [v], Dt.tup [v], v])] ⟨p, k1⟩ D := by
    intro k1 D h1 hD
    refine use_one (by simp) (by simp) h1 fun d m hd e => hD d m ?_ e
    have lf : ∀ {a c : Nat} {d : Dt}, Shw a c d → a ≤ 2 * b + 44 → c ≤ dp + 1 → Shw (2 * b + 44) (dp + 1) d := fun h h1 h2 => h.mono h1 h2
    simp only [List.mem_append, List.mem_cons, List.not_mem_nil, or_false] at hd
    have s1 : ∀ {i : Int}, -(2 ^ 60) < i → i < 2 ^ 60 → Shw 0 0 (.int i) := shw_int
    rcases hd with (rfl | rfl | rfl | rfl | rfl | rfl | rfl | rfl | rfl | rfl | rfl | rfl | rfl | rfl | rfl | rfl | rfl | rfl | rfl) | rfl | rfl | rfl
    · exact lf shw_non (by omega) (by omega)
    · exact lf (shw_bl _) (by omega) (by omega)
    · exact lf (shw_bl _) (by omega) (by omega)
    · exact lf (s1 (by decide) (by decide)) (by omega) (by omega)
    · exact lf (s1 (by decide) (by decide)) (by omega) (by omega)
    · exact lf (s1 (by decide) (by decide)) (by omega) (by omega)
    · exact lf (s1 (by decide) (by decide)) (by omega) (by omega)
    · exact lf (s1 (by decide) (by decide)) (by omega) (by omega)
    · exact lf (s1 (by decide) (by decide)) (by omega) (by omega)
    · exact lf (shw_str (c := 3) (by decide +kernel) (by decide +kernel) (by decide +kernel) (by decide +kernel)) (by omega) (by omega)
    · exact lf (shw_str (c := 3) (by decide +kernel) (by decide +kernel) (by decide +kernel) (by decide +kernel)) (by omega) (by omega)
    · exact lf (shw_tup (n := 0) shwL_nil) (by omega) (by omega)
    · exact lf (shw_lst (n := 0) shwL_nil) (by omega) (by omega)
    · exact lf (shw_tup (shwL_cons (s1 (by decide) (by decide)) shwL_nil)) (by omega) (by omega)
    · exact lf (shw_tup (shwL_cons (s1 (by decide) (by decide)) (shwL_cons (s1 (by decide) (by decide)) shwL_nil))) (by omega) (by omega)
    · exact lf (shw_tup (shwL_cons (s1 (by decide) (by decide)) (shwL_cons (s1 (by decide) (by decide)) (shwL_cons (s1 (by decide) (by decide)) shwL_nil)))) (by omega) (by omega)
    · exact lf shw_emp (by omega) (by omega)
    · exact lf (s1 (by decide) (by decide)) (by omega) (by omega)
    · exact lf (s1 (by decide) (by decide)) (by omega) (by omega)
    · exact lf (shw_lst (shwL_cons hv shwL_nil)) (by omega) (by omega)
    · exact lf (shw_tup (shwL_cons hv shwL_nil)) (by omega) (by omega)
    · exact lf hv (by omega) (by omega)
  have fin : ∀ k1, 1 ≤ k1 → k ≤ k1 + 3 → ∀ (D : Dt → Dw → Prop), (∀ d w, C d w → D d w) → S_law_one.run [.opq (.ref p), .lst ([Dt.non, Dt.bl true, Dt.bl false, Dt.int 0, Dt.int 1, Dt.int (-1), Dt.int 2, Dt.int 7, Dt.int 1001,
      Dt.str (Str.ofString ""), Dt.str (Str.ofString "a"), Dt.tup [], Dt.lst [], Dt.tup [Dt.int 0], Dt.tup [Dt.int 0, Dt.int 0], Dt.tup [Dt.int 1, Dt.int 2, Dt.int 3], Dt.emp, Dt.int (10 ^ Int.toNat 8), Dt.int (-10 ^ Int.toNat 8)] ++ [Dt.lst [v], Dt.tup [v], v])] ⟨p, k1⟩ D := fun k1 h1 h2 D hD => odd k1 D h1 fun d m hd e => hD _ _ (q d m hd (by omega))
  cases v
  case opq => exact (pl_opq hv.pl).elim
  case dic => exact (pl_dic hv.pl).elim
  case ins => exact (pl_ins hv.pl).elim
  case tup l =>
    obtain ⟨n', rfl, hl⟩ := tup_shw hv
    have hlen := shwL_len hl
    obtain ⟨m', rfl⟩ : ∃ m', n = m' + 1 := ⟨n - 1, by omega⟩
    walk_at "ck"
    refine ite2 (fun hd => fin k (by omega) (by omega) _ fun _ _ h => h) (fun hd => ?_)
    have hpos : 0 < l.length := Nat.pos_of_ne_zero fun z => hd (decide_eq_true (by omega))
    refine use_draw (by decide) (by decide) (by omega) fun i m i0 i1 e1 => ?_
    walk_at "ck"
    refine ite2 (fun hd => fin m (by omega) (by omega) _ fun _ _ h => h) (fun hd => ?_)
    refine use_draw (by omega) (by omega) (by omega) fun at' m2 a0 a1 e2 => ?_
    refine use_draw (by decide) (by decide) (by omega) fun way m3 w0 w1 e3 => ?_
    walk_at "ck"
    obtain ⟨j, rfl⟩ : ∃ j : Nat, at' = (j : Int) := ⟨at'.toNat, by omega⟩
    have hj : j < l.length := by omega
    obtain ⟨a, c, f, hs, x1, x2, x3⟩ := shwL_at hl hj
    have ej : ((j : Int) + 1) = ((j + 1 : Nat) : Int) := by omega
    rw [ej, cutD_take (Nat.le_of_lt hj), cutD_drop (i := j + 1) hj, cutD_take (i := j + 1) hj, cutD_drop (Nat.le_of_lt hj)]
    have g1 : (l.take j).length + (l.drop (j + 1)).length + 1 = l.length := by rw [List.length_take, List.length_drop]; omega
    refine ite2 (fun hw => ?_) (fun hw => ?_)
    · refine ⟨l[j], atI_nat (List.getElem?_eq_getElem hj), ?_⟩
      refine use_drawS (ι := Dt × Nat × Nat) (l[j], a, n') ⟨x1, by show a ≤ 300000; omega, by show n' ≤ m'; omega⟩ (by show 4 * (m' + 1) ≤ m3; omega) fun d m4 hd e4 => ?_
      replace hd : Shw (2 * a + 44) (n' + 1) d := hd
      replace e4 : m3 ≤ m4 + 4 * (m' + 1) := e4
      refine ⟨size1M (by omega), by rw [List.length_append, List.length_singleton]; exact size1M (by omega), ?_⟩
      refine q _ m4 ((shw_tup (shwL_app (shwL_app (x2.mono (Nat.le_refl _) (Nat.le_succ _)) (shwL_cons hd shwL_nil)) (x3.mono (Nat.le_refl _) (Nat.le_succ _)))).mono (by omega) (by omega)) (by omega)
    · have g2 : (l.take (j + 1)).length + (l.drop j).length = l.length + 1 := by rw [List.length_take, List.length_drop]; omega
      refine ⟨size1M (by omega), size1M (by omega), ?_⟩
      refine use_one (by simp) (by simp) (by omega) fun d m4 hd e4 => q d m4 ?_ (by omega)
      simp only [List.mem_cons, List.not_mem_nil, or_false] at hd
      have y1 : l.take (j + 1) = l.take j ++ [l[j]] := by rw [List.take_add_one, List.getElem?_eq_getElem hj]; rfl
      have y2 : l.drop j = l[j] :: l.drop (j + 1) := List.drop_eq_getElem_cons hj
      rcases hd with rfl | rfl | rfl
      · exact (shw_tup (shwL_app x2 x3)).mono (by omega) (by omega)
      · rw [y1, y2]
        exact (shw_tup (shwL_app (shwL_app x2 (shwL_cons x1 shwL_nil)) (shwL_cons x1 x3))).mono (by omega) (by omega)
      · exact (shw_lst hl).mono (by omega) (by omega)
  all_goals
    walk_at "ck"
    exact fin k (by omega) (by omega) _ fun _ _ h => h
end Ck
namespace Ck
open PySem PySem.Spec PyProof.Rows L2
section
variable {Ω : Type} {tg : Tg} {body : DS Ω} {D : DD Ω} {w : Ω}
/-- a loop that draws nothing and ends nowhere -/
theorem loop_plain (J : Sl → Prop) (l : List Dt) {sl : Sl} (h : ∀ d ∈ l, ∀ sl : Sl, J sl → ∃ sl', bindTg tg d sl = some sl' ∧ ∀ N : Sl → Ω → Prop, (∀ s, J s → N s w) → body { D with nx := N, ct := N, bk := D.nx } sl' w)
    (h0 : J sl) (hC : ∀ s, J s → D.nx s w) : wLoop tg body D l sl w := by
  refine loop_any (fun _ s => J s) (fun _ => false) l 0 sl (fun i d sl hd _ hj => ?_) (fun j hj => absurd hj (Nat.not_lt_zero j)) h0 (fun _ s hj => hC s hj)
  obtain ⟨sl', h1, h2⟩ := h d (List.mem_of_getElem? hd) sl hj
  exact ⟨sl', h1, fun N hN => h2 N fun s hs => hN rfl s hs⟩
end
theorem shwL_rep {k n : Nat} {l : List Dt} (h : ShwL k n l) : ∀ m : Nat, ShwL (m * k) n (List.replicate m l).flatten
  | 0 => by
    rw [Nat.zero_mul]
    exact shwL_nil
  | m + 1 => by
    rw [List.replicate_succ, List.flatten_cons]
    exact (shwL_app h (shwL_rep h m)).mono (by rw [Nat.add_mul]; omega) (Nat.le_refl _)
/-- so much a value weighs behind so many changes -/
def wgt : Nat → Nat
  | 0 => 1200
  | n + 1 => 2 * wgt n + 44
theorem wgt_mono : ∀ {a b : Nat}, a ≤ b → wgt a ≤ wgt b := fun {a b} h => by
  induction h with
  | refl => exact Nat.le_refl _
  | step _ ih => exact Nat.le_trans ih (by simp only [wgt]; omega)
/-- what is told of what is wrong can be shown -/
def Told (d : Dt) : Prop := d = .non ∨ ∃ a x, d = two a x ∧ (a = .non ∨ ∃ k : Nat, a = .int k ∧ k ≤ 1000000) ∧ Shw 10 0 (.str x)
theorem Told.shw {d : Dt} (h : Told d) : Shw 20 1 d := by
  rcases h with rfl | ⟨a, x, rfl, h, hx⟩
  · exact shw_non.mono (by omega) (by omega)
  · rcases h with rfl | ⟨k, rfl, hk⟩
    · exact (shw_tup (shwL_cons shw_non (shwL_cons hx shwL_nil))).mono (by omega) (by omega)
    · exact (shw_tup (shwL_cons (shw_int (by omega) (by omega)) (shwL_cons hx shwL_nil))).mono (by omega) (by omega)
theorem word_shw {x : Str} (h : (PyData.str x).leavesShort 20 = true) (h2 : (PyData.str x).showable = true) (h4 : (PyData.str x).bulk ≤ 10) (h5 : (PyData.str x).depth ≤ 0) : Shw 10 0 (.str x) := shw_str h h2 h4 h5
theorem find_lt {l : List Dt} {p : Dt → Bool} {k : Nat} (h : l.findIdx? p = some k) : k < l.length := by
  rw [List.findIdx?_eq_some_iff_getElem] at h
  exact h.1
theorem pricesErr_told {v : Dt} {k n : Nat} {w m : Int} (h : Shw k n v) (hk : k ≤ 1000000) : Told (pricesErr v w m) := by
  have s1 : Shw 10 0 (.str (Str.ofString "prices")) := word_shw (by decide +kernel) (by decide +kernel) (by decide +kernel) (by decide +kernel)
  have s2 : Shw 10 0 (.str (Str.ofString "price")) := word_shw (by decide +kernel) (by decide +kernel) (by decide +kernel) (by decide +kernel)
  have s3 : Shw 10 0 (.str (Str.ofString "room")) := word_shw (by decide +kernel) (by decide +kernel) (by decide +kernel) (by decide +kernel)
  unfold pricesErr
  cases v <;> try exact .inr ⟨_, _, rfl, .inl rfl, s1⟩
  case tup l =>
    obtain ⟨n', rfl, hl⟩ := tup_shw h
    have hlen := shwL_len hl
    dsimp only
    split
    · split
      · rename_i h1
        have := find_lt h1
        exact .inr ⟨_, _, rfl, .inr ⟨_, rfl, by omega⟩, s2⟩
      · split
        · rename_i h1
          have := find_lt h1
          exact .inr ⟨_, _, rfl, .inr ⟨_, rfl, by omega⟩, s3⟩
        · exact .inl rfl
    · exact .inr ⟨_, _, rfl, .inl rfl, s1⟩
end Ck
namespace Ck
open PySem PySem.Spec PyProof.Rows L2
local macro_rules | `(tactic| walk_at "ck") => `(tactic| try simp only [wNext, wBrk, wCnt, wSeq, wRet, wRetN, wSet, wOwn, wDrop, wUnp, wPar, wIfS, wApp, wExt, wSetIx, wAug, wFrz, wFor, k_var, k_vk1, k_vk2, k_par, wC, wL, wOp, wOpL, wF, wFL, wNil, wCons, wTup, wLst, wTV, wTAnd, wTOr, wTNot, wAnd, wOr, wNot, wIfx, wIsN, wNotN, wChain, wO0, wO1, wSl, wCall, wIsi, wLr1, wLr2, wNeg, wLc, wYes, wiSeq, wiR1, wiR2, wiEnum, wiZip, noOwnB, wipeD, wEmp, wListZip, wSortSet, wRevL, wRevT, wOneB, k_mulT, k_add1, k_add2, k_add3, k_add4, k_addL, k_sub, k_mul1, k_mul2, k_mulL, k_div, k_mod, k_pow, k_cmp, k_eq, k_ne, k_ea1, k_ea2, k_ea3, k_ea4, k_in1, k_in2, k_in3, k_in4, k_ix1, k_ix2, k_ix3, k_sl1, k_sl2, k_len1, k_len2, k_len3, k_int1, k_int2, k_abs, k_tuple1, k_tuple2, k_list1, k_list2, k_min2, k_max2, k_non_non, k_ty_int_non, k_ty_bool_non, k_ty_tuple_non, k_ty_str_non, k_ty_list_non, k_non_bl, k_ty_int_bl, k_ty_bool_bl, k_ty_tuple_bl, k_ty_str_bl, k_ty_list_bl, k_non_int, k_ty_int_int, k_ty_bool_int, k_ty_tuple_int, k_ty_str_int, k_ty_list_int, k_non_str, k_ty_int_str, k_ty_bool_str, k_ty_tuple_str, k_ty_str_str, k_ty_list_str, k_non_tup, k_ty_int_tup, k_ty_bool_tup, k_ty_tuple_tup, k_ty_str_tup, k_ty_list_tup, k_non_lst, k_ty_int_lst, k_ty_bool_lst, k_ty_tuple_lst, k_ty_str_lst, k_ty_list_lst, k_non_emp, k_ty_int_emp, k_ty_bool_emp, k_ty_tuple_emp, k_ty_str_emp, k_ty_list_emp, k_seq_non, k_seq_bl, k_seq_int, k_seq_str, k_seq_tup, k_seq_lst, k_seq_emp, k_sz0, k_sz1, k_sz2, k_sz3, k_sz4, k_sz5, k_sz6, k_sz7, k_sz8, k_sz9, k_sz10, k_sz11, k_sz12, k_sz13, k_sz14, k_sz15, k_sz16, k_sz17, k_sz18, k_sz19, k_sz20, k_sz21, k_sz22, k_sz23, k_at0, k_at1, k_at2, k_at3, k_iteT, k_iteF, k_bt1, k_bt2, k_sa0, k_sa1, k_endn, k_endr, List.getElem?_cons_succ, List.getElem?_cons_zero, List.set_cons_succ, List.set_cons_zero, List.length_cons, List.length_nil, List.length_map, List.all_cons, List.all_nil, Nat.reduceAdd, Nat.zero_add, Bool.and_true, Bool.and_self, Option.some.injEq, Dt.int.injEq, Dt.bl.injEq, Dt.str.injEq, Dt.tup.injEq, Dt.lst.injEq, Sv.dat.injEq, Sv.own.injEq, exists_eq_left', exists_eq_left, exists_eq_right, exists_eq', exists_eq, if_true, if_false, Bool.not_false, Bool.not_true, Bool.not_not, true_and, and_true, false_and, and_false, exists_const, reduceCtorEq])

theorem mul_bd {b s M S : Int} (h1 : -M ≤ b) (h2 : b ≤ M) (h3 : 0 ≤ s) (h4 : s ≤ S) (h5 : 0 ≤ M) : -(M * S) ≤ b * s ∧ b * s ≤ M * S := by
  have a1 := Int.mul_le_mul_of_nonneg_right h2 h3
  have a2 := Int.mul_le_mul_of_nonneg_right h1 h3
  have a3 := Int.mul_le_mul_of_nonneg_left h4 h5
  rw [Int.neg_mul] at a2
  omega
theorem cost_bd {w : Int} {p : T3} {l : List Int} (h : PriceOk w 1000000 p) (hl : l.length ≤ 10000) : -30000000000 ≤ roomAt p (shapeA l) ∧ roomAt p (shapeA l) ≤ 30000000000 := by
  obtain ⟨⟨a1, a2⟩, ⟨b1, b2⟩, ⟨c1, c2⟩, _⟩ := h
  have h2 : (starts l).length ≤ l.length := List.length_filter_le _ _
  have m1 := mul_bd (s := (l.length : Int)) (S := 10000) b1 b2 (by omega) (by omega) (by decide)
  have m2 := mul_bd (s := ((starts l).length : Int)) (S := 10000) c1 c2 (by omega) (by omega) (by decide)
  unfold roomAt shapeA
  dsimp only
  omega
theorem asc_len {hi : Int} : ∀ {l : List Int} {lo : Int}, Asc l → (∀ x ∈ l, lo ≤ x ∧ x < hi) → lo ≤ hi → lo + l.length ≤ hi
  | [], lo, _, _, h => by simpa using h
  | x :: l, lo, h, hb, _ => by
    have hx := hb x List.mem_cons_self
    obtain ⟨h1, h2⟩ := List.pairwise_cons.mp h
    have := asc_len (lo := x + 1) h2 (fun y hy => ⟨by have := h1 y hy; omega, (hb y (List.mem_cons_of_mem _ hy)).2⟩) (by omega)
    rw [List.length_cons]
    omega
/-- a set of a width -/
structure SetOf (w : Int) (l : List Int) : Prop where
  a : Asc l
  b : ∀ x ∈ l, 0 ≤ x ∧ x < w
theorem SetOf.len {w : Int} {l : List Int} (h : SetOf w l) (hw : 0 ≤ w) : (l.length : Int) ≤ w := by
  have := asc_len h.a h.b hw
  omega
theorem SetOf.pls {w : Int} {l : List Int} (h : SetOf w l) (hw : 0 ≤ w) (h2 : w ≤ 9999) : Pls l ∧ l.length < 10000 := by
  have := h.len hw
  exact ⟨⟨h.a, by omega, fun x hx => by have := h.b x hx; omega⟩, by omega⟩
theorem SetOf.tog {w : Int} {l : List Int} {x : Int} (h : SetOf w l) (h1 : 0 ≤ x) (h2 : x < w) : SetOf w (togA l x) :=
  ⟨togA_asc h.a, fun z hz => by
    rcases mem_togA hz with hz | rfl
    · exact h.b z hz
    · exact ⟨h1, h2⟩⟩
theorem shw_runs {w : Int} {l : List Int} (h : SetOf w l) (hw : 0 ≤ w) (h2 : w ≤ 100) : Shw 300 2 (.tup ((runsC l).map dS)) := by
  have hl := runsC_len h.a
  have hn := h.len hw
  refine (shw_tup (shwL_map (f := dS) (k := 2) (n := 1) fun s hs => ?_)).mono (by omega) (by omega)
  obtain ⟨m1, m2⟩ := runsC_mem h.a hs
  have b1 := h.b _ m1
  have b2 := h.b _ m2
  exact shw_dS ⟨⟨by omega, by omega⟩, by omega, by omega⟩
theorem next_in {k : Keeper} (ko : KeeperOk k) {l : List Int} {f x : Int} (h0 : 0 ≤ f) (h1 : f < k.ps.length) : 0 ≤ nextF k l f x ∧ nextF k l f x < k.ps.length := by
  unfold nextF
  cases h : turnAt k l f x with
  | none => exact ⟨h0, h1⟩
  | some t => exact (ko.ts t (List.mem_of_find?_eq_some h)).2.2.2.1
theorem cost_in {k : Keeper} (ko : KeeperOk k) {l : List Int} {f x : Int} (hl : (togA l x).length ≤ 10000) : -30000000000 ≤ costF k l f x ∧ costF k l f x ≤ 30000000000 := by
  unfold costF
  cases h : turnAt k l f x with
  | none => exact ⟨by show (-30000000000 : Int) ≤ 0; decide, by show (0 : Int) ≤ 30000000000; decide⟩
  | some t =>
    have t4 := (ko.ts t (List.mem_of_find?_eq_some h)).2.2.2.1
    exact cost_bd (ko.pr _ (price_at t4.1 t4.2).2) hl
theorem shw_step {k : Keeper} (ko : KeeperOk k) {l : List Int} {f x : Int} (h : SetOf k.w l) (h0 : 0 ≤ f) (h1 : f < k.ps.length) (x0 : 0 ≤ x) (x1 : x < k.w) : Shw 400 4 (stepD k l f x) := by
  have hw := ko.w
  have hp := ko.ps
  have ht := h.tog x0 x1
  have hn := next_in (l := l) (x := x) ko h0 h1
  have hc := cost_in (l := l) (f := f) (x := x) ko (by have := ht.len (by omega); omega)
  exact (shw_tup (shwL_cons (shw_tup (shwL_cons (shw_runs ht (by omega) (by omega)) (shwL_cons ((shw_int (by omega) (by omega)).mono (Nat.le_refl _) (by omega)) shwL_nil))) (shwL_cons ((shw_int (by omega) (by omega)).mono (Nat.le_refl _) (by omega)) shwL_nil))).mono (by omega) (by omega)
theorem keeper_shw {k : Keeper} (ko : KeeperOk k) (hps : k.ps.length ≤ 4) (hts : k.ts.length ≤ 10) : Shw 2000 5 (dK k) := by
  have q1 : ShwL 24 3 (k.ps.map d3) := (shwL_map (f := d3) (k := 3) (n := 1) fun t ht => shw_d3 (ko.pr t ht).bd).mono (by omega) (by omega)
  have q2 : ShwL 410 3 (k.ts.map dT) := by
    refine (shwL_map (f := dT) (k := 40) (n := 3) fun r hm => ?_).mono (by omega) (Nat.le_refl _)
    obtain ⟨t1, t2, t3, t4, _⟩ := ko.ts r hm
    have ht := shw_tup (shwL_map (f := d3) fun t ht => shw_d3 (t2 t ht).bd)
    exact (shw_tup (shwL_cons ((shw_bd (bd_of (by omega))).mono (Nat.le_refl _) (by decide)) (shwL_cons ht (shwL_cons ((shw_bd (bd_of (by omega))).mono (Nat.le_refl _) (by decide)) shwL_nil)))).mono (by omega) (by decide)
  have iw : Shw 0 1 (.int k.w) := (shw_bd (bd_of (by have := ko.w; omega))).mono (by omega) (by omega)
  exact (shw_tup (shwL_cons (iw.mono (Nat.le_refl _) (by omega)) (shwL_cons (shw_tup q1) (shwL_cons (shw_tup q2) shwL_nil)))).mono (by omega) (by omega)
end Ck
namespace Ck
open PySem PySem.Spec PyProof.Rows L2
local macro_rules | `(tactic| walk_at "ck") => `(tactic| try simp only [wNext, wBrk, wCnt, wSeq, wRet, wRetN, wSet, wOwn, wDrop, wUnp, wPar, wIfS, wApp, wExt, wSetIx, wAug, wFrz, wFor, k_var, k_vk1, k_vk2, k_par, wC, wL, wOp, wOpL, wF, wFL, wNil, wCons, wTup, wLst, wTV, wTAnd, wTOr, wTNot, wAnd, wOr, wNot, wIfx, wIsN, wNotN, wChain, wO0, wO1, wSl, wCall, wIsi, wLr1, wLr2, wNeg, wLc, wYes, wiSeq, wiR1, wiR2, wiEnum, wiZip, noOwnB, wipeD, wEmp, wListZip, wSortSet, wRevL, wRevT, wOneB, k_mulT, k_add1, k_add2, k_add3, k_add4, k_addL, k_sub, k_mul1, k_mul2, k_mulL, k_div, k_mod, k_pow, k_cmp, k_eq, k_ne, k_ea1, k_ea2, k_ea3, k_ea4, k_in1, k_in2, k_in3, k_in4, k_ix1, k_ix2, k_ix3, k_sl1, k_sl2, k_len1, k_len2, k_len3, k_int1, k_int2, k_abs, k_tuple1, k_tuple2, k_list1, k_list2, k_min2, k_max2, k_non_non, k_ty_int_non, k_ty_bool_non, k_ty_tuple_non, k_ty_str_non, k_ty_list_non, k_non_bl, k_ty_int_bl, k_ty_bool_bl, k_ty_tuple_bl, k_ty_str_bl, k_ty_list_bl, k_non_int, k_ty_int_int, k_ty_bool_int, k_ty_tuple_int, k_ty_str_int, k_ty_list_int, k_non_str, k_ty_int_str, k_ty_bool_str, k_ty_tuple_str, k_ty_str_str, k_ty_list_str, k_non_tup, k_ty_int_tup, k_ty_bool_tup, k_ty_tuple_tup, k_ty_str_tup, k_ty_list_tup, k_non_lst, k_ty_int_lst, k_ty_bool_lst, k_ty_tuple_lst, k_ty_str_lst, k_ty_list_lst, k_non_emp, k_ty_int_emp, k_ty_bool_emp, k_ty_tuple_emp, k_ty_str_emp, k_ty_list_emp, k_seq_non, k_seq_bl, k_seq_int, k_seq_str, k_seq_tup, k_seq_lst, k_seq_emp, k_sz0, k_sz1, k_sz2, k_sz3, k_sz4, k_sz5, k_sz6, k_sz7, k_sz8, k_sz9, k_sz10, k_sz11, k_sz12, k_sz13, k_sz14, k_sz15, k_sz16, k_sz17, k_sz18, k_sz19, k_sz20, k_sz21, k_sz22, k_sz23, k_at0, k_at1, k_at2, k_at3, k_iteT, k_iteF, k_bt1, k_bt2, k_sa0, k_sa1, k_endn, k_endr, List.getElem?_cons_succ, List.getElem?_cons_zero, List.set_cons_succ, List.set_cons_zero, List.length_cons, List.length_nil, List.length_map, List.all_cons, List.all_nil, Nat.reduceAdd, Nat.zero_add, Bool.and_true, Bool.and_self, Option.some.injEq, Dt.int.injEq, Dt.bl.injEq, Dt.str.injEq, Dt.tup.injEq, Dt.lst.injEq, Sv.dat.injEq, Sv.own.injEq, exists_eq_left', exists_eq_left, exists_eq_right, exists_eq', exists_eq, if_true, if_false, Bool.not_false, Bool.not_true, Bool.not_not, true_and, and_true, false_and, and_false, exists_const, reduceCtorEq])

/-! ### stretches of shapes of one size: the tests change only where a stretch begins -/
def minJ (i j : Int) : Int := if j < i then j else i
def insU (x : Int) (l : List Int) : List Int := if x ∈ l then l else insA x l
/-- what is in a list, ascending, each once -/
def sortSet (l : List Int) : List Int := l.foldr insU []
theorem sortSet_asc : ∀ l : List Int, Asc (sortSet l)
  | [] => List.Pairwise.nil
  | x :: l => by
    show Asc (insU x (sortSet l))
    unfold insU
    split
    · exact sortSet_asc l
    · rename_i h
      exact insA_asc (sortSet_asc l) h
theorem mem_sortSet {z : Int} : ∀ {l : List Int}, z ∈ sortSet l ↔ z ∈ l
  | [] => Iff.rfl
  | x :: l => by
    show z ∈ insU x (sortSet l) ↔ _
    have ih := mem_sortSet (z := z) (l := l)
    unfold insU
    split
    · rename_i h
      rw [ih, List.mem_cons]
      refine ⟨.inr, fun h2 => ?_⟩
      rcases h2 with rfl | h2
      · exact mem_sortSet.mp h
      · exact h2
    · rw [mem_insA, ih, List.mem_cons]
      exact Or.comm
theorem sortSet_len : ∀ l : List Int, (sortSet l).length ≤ l.length
  | [] => Nat.le_refl _
  | x :: l => by
    show (insU x (sortSet l)).length ≤ _
    have := sortSet_len l
    unfold insU
    split
    · exact Nat.le_succ_of_le this
    · rw [(insA_perm _ _).length_eq, List.length_append]
      exact Nat.succ_le_succ this
theorem asc_ext {a b : List Int} (ha : Asc a) (hb : Asc b) (h : ∀ z, z ∈ a ↔ z ∈ b) : a = b := by
  refine List.Perm.eq_of_pairwise (le := fun a b => a ≤ b) (fun a b _ _ h1 h2 => Int.le_antisymm h1 h2) (ha.imp fun h => Int.le_of_lt h) (hb.imp fun h => Int.le_of_lt h) ?_
  have n1 : a.Nodup := ha.imp fun h => Int.ne_of_lt h
  have n2 : b.Nodup := hb.imp fun h => Int.ne_of_lt h
  exact (List.perm_ext_iff_of_nodup n1 n2).mpr h
theorem us_eq {us ns : List Int} (h : us.Pairwise (· < ·)) (hm : ∀ k, k ∈ us ↔ k ∈ ns) : us = sortSet ns := asc_ext h (sortSet_asc ns) fun z => (hm z).trans mem_sortSet.symm
theorem sortSet_congr {a b : List Int} (h : ∀ z, z ∈ a ↔ z ∈ b) : sortSet a = sortSet b := asc_ext (sortSet_asc a) (sortSet_asc b) fun z => mem_sortSet.trans ((h z).trans mem_sortSet.symm)
/-- how many runs a set of a size may have: from, to -/
def runsLo (m : Int) : Int := if m = 0 then 0 else 1
def runsHi (w m : Int) : Int := if m = 0 then 0 else minJ m (w - m + 1)
def failT (t : T3) (s : Int × Int) : Bool := decide (t.c < t.a * s.1 + t.b * s.2)
def startT (t : T3) (m : Int) : Option Int := if t.b = 0 then none else some (if 0 < t.b then (t.c - t.a * m) / t.b + 1 else 0 - (t.c - t.a * m) / (0 - t.b))
theorem fail_start {t : T3} {m s : Int} (h : startT t m = some s) (r : Int) : (0 < t.b ∧ failT t (m, r) = decide (s ≤ r)) ∨ (t.b < 0 ∧ failT t (m, r) = !decide (s ≤ r)) := by
  unfold startT at h
  split at h
  · cases h
  · rename_i h0
    have h := Option.some.inj h
    split at h
    · rename_i hq
      refine .inl ⟨hq, ?_⟩
      subst h
      refine decide_eq_decide.mpr ?_
      have := Int.ediv_lt_iff_lt_mul (a := t.c - t.a * m) (b := r) hq
      rw [Int.mul_comm r] at this
      show t.c < t.a * m + t.b * r ↔ _
      omega
    · rename_i hq
      refine .inr ⟨by omega, ?_⟩
      subst h
      have := Int.ediv_lt_iff_lt_mul (a := t.c - t.a * m) (b := 0 - r) (c := 0 - t.b) (by omega)
      have e : (0 - r) * (0 - t.b) = t.b * r := by
        rw [Int.zero_sub, Int.zero_sub, Int.neg_mul_neg, Int.mul_comm]
      rw [e] at this
      rw [← decide_not]
      refine decide_eq_decide.mpr ?_
      show t.c < t.a * m + t.b * r ↔ _
      omega
theorem fail_const {t : T3} {m r0 r1 : Int} (h01 : r0 ≤ r1) (h : ∀ s, startT t m = some s → ¬ (r0 < s ∧ s ≤ r1)) : failT t (m, r0) = failT t (m, r1) := by
  cases hs : startT t m with
  | none =>
    have hb : t.b = 0 := by
      unfold startT at hs
      split at hs
      · assumption
      · cases hs
    unfold failT
    simp only [hb, Int.zero_mul]
  | some s =>
    have hn := h s hs
    have e : decide (s ≤ r0) = decide (s ≤ r1) := decide_eq_decide.mpr ⟨fun h => by omega, fun h => by omega⟩
    rcases fail_start hs r0 with ⟨b0, e0⟩ | ⟨b0, e0⟩ <;> rcases fail_start hs r1 with ⟨b1, e1⟩ | ⟨b1, e1⟩
    · rw [e0, e1, e]
    · omega
    · omega
    · rw [e0, e1, e]
/-- from one beginning to the next one -/
def strR : List Int → Int → List (Int × Int)
  | [], _ => []
  | [u], last => [(u, last)]
  | u :: v :: t, last => (u, v - 1) :: strR (v :: t) last
theorem str_zip : ∀ (u : Int) (l : List Int) (last : Int), (u :: l).zip (l.map (fun x => x - 1) ++ [last]) = strR (u :: l) last
  | u, [], last => rfl
  | u, v :: t, last => by
    show (u, v - 1) :: (v :: t).zip (t.map (fun x => x - 1) ++ [last]) = _
    rw [str_zip v t last]
    rfl
theorem strR_len : ∀ (us : List Int) (last : Int), (strR us last).length = us.length
  | [], _ => rfl
  | [_], _ => rfl
  | _ :: v :: t, last => by
    show (strR (v :: t) last).length + 1 = _
    rw [strR_len (v :: t) last]
    rfl
/-- what a stretch is -/
structure StrOk (us : List Int) (last : Int) (p : Int × Int) : Prop where
  m : p.1 ∈ us
  le : p.1 ≤ p.2
  hi : p.2 ≤ last
  no : ∀ u ∈ us, ¬ (p.1 < u ∧ u ≤ p.2)
theorem strR_ok {last : Int} : ∀ {us : List Int}, Asc us → (∀ u ∈ us, u ≤ last) → ∀ p ∈ strR us last, StrOk us last p
  | [], _, _, p, hp => by cases hp
  | [u], _, hl, p, hp => by
    have e := List.mem_singleton.mp hp
    subst e
    exact ⟨List.mem_cons_self, hl u List.mem_cons_self, Int.le_refl _, fun v hv => by rw [List.mem_singleton.mp hv]; show ¬ (u < u ∧ _); omega⟩
  | u :: v :: t, h, hl, p, hp => by
    obtain ⟨h1, h2⟩ := List.pairwise_cons.mp h
    have huv := h1 v List.mem_cons_self
    have hvl := hl v (List.mem_cons_of_mem _ List.mem_cons_self)
    rcases List.mem_cons.mp hp with rfl | hp
    · refine ⟨List.mem_cons_self, by show u ≤ v - 1; omega, by show v - 1 ≤ last; omega, fun z hz => ?_⟩
      show ¬ (u < z ∧ z ≤ v - 1)
      rcases List.mem_cons.mp hz with rfl | hz
      · omega
      · rcases List.mem_cons.mp hz with rfl | hz
        · omega
        · have := (List.pairwise_cons.mp h2).1 z hz
          omega
    · obtain ⟨a, b, c, d⟩ := strR_ok h2 (fun z hz => hl z (List.mem_cons_of_mem _ hz)) p hp
      refine ⟨List.mem_cons_of_mem _ a, b, c, fun z hz => ?_⟩
      rcases List.mem_cons.mp hz with rfl | hz
      · have := h1 p.1 a
        omega
      · exact d z hz
theorem strR_cover {last r : Int} (hr : r ≤ last) : ∀ {us : List Int} {u : Int}, Asc (u :: us) → u ≤ r → ∃ p ∈ strR (u :: us) last, p.1 ≤ r ∧ r ≤ p.2
  | [], u, _, h => ⟨(u, last), List.mem_singleton.mpr rfl, h, hr⟩
  | v :: t, u, ha, h => by
    by_cases hv : v ≤ r
    · obtain ⟨p, hp, h1⟩ := strR_cover hr (List.pairwise_cons.mp ha).2 hv
      exact ⟨p, List.mem_cons_of_mem _ hp, h1⟩
    · exact ⟨(u, v - 1), List.mem_cons_self, h, by show r ≤ v - 1; omega⟩
def inRun (lo hi : Int) (o : Option Int) : Bool := match o with
  | none => false
  | some s => decide (lo < s) && decide (s ≤ hi)
def pickS (lo hi : Int) (os : List (Option Int)) : List Int := (os.filter (inRun lo hi)).map fun o => o.getD 0
def beginsA (w m : Int) (ts : List T3) : List Int := sortSet (pickS (runsLo m) (runsHi w m) (ts.map fun t => startT t m) ++ [runsLo m])
def stretchA (w m : Int) (ts : List T3) : List (Int × Int) := strR (beginsA w m ts) (runsHi w m)
theorem mem_pick {lo hi s : Int} {os : List (Option Int)} : s ∈ pickS lo hi os ↔ some s ∈ os ∧ lo < s ∧ s ≤ hi := by
  unfold pickS
  rw [List.mem_map]
  constructor
  · rintro ⟨o, ho, rfl⟩
    obtain ⟨h1, h2⟩ := List.mem_filter.mp ho
    cases o with
    | none => cases h2
    | some s =>
      have h2 : (decide (lo < s) && decide (s ≤ hi)) = true := h2
      rw [Bool.and_eq_true, decide_eq_true_eq, decide_eq_true_eq] at h2
      exact ⟨h1, h2⟩
  · rintro ⟨h1, h2, h3⟩
    refine ⟨some s, List.mem_filter.mpr ⟨h1, ?_⟩, rfl⟩
    show (decide (lo < s) && decide (s ≤ hi)) = true
    rw [Bool.and_eq_true, decide_eq_true_eq, decide_eq_true_eq]
    exact ⟨h2, h3⟩
theorem runs_le {w m : Int} (h0 : 0 ≤ m) (h1 : m ≤ w) : runsLo m ≤ runsHi w m ∧ 0 ≤ runsLo m ∧ 2 * runsHi w m ≤ w + 1 := by
  unfold runsLo runsHi minJ
  split
  · omega
  · split <;> omega
theorem mem_begins {w m : Int} {ts : List T3} {s : Int} : s ∈ beginsA w m ts ↔ (∃ t ∈ ts, startT t m = some s ∧ runsLo m < s ∧ s ≤ runsHi w m) ∨ s = runsLo m := by
  unfold beginsA
  rw [mem_sortSet, List.mem_append, mem_pick, List.mem_map, List.mem_singleton]
  constructor
  · rintro (⟨⟨t, h1, h2⟩, h3⟩ | h)
    · exact .inl ⟨t, h1, h2, h3⟩
    · exact .inr h
  · rintro (⟨t, h1, h2, h3⟩ | h)
    · exact .inl ⟨⟨t, h1, h2⟩, h3⟩
    · exact .inr h
theorem begins_bd {w m : Int} {ts : List T3} (h0 : 0 ≤ m) (h1 : m ≤ w) {s : Int} (h : s ∈ beginsA w m ts) : runsLo m ≤ s ∧ s ≤ runsHi w m := by
  have := runs_le h0 h1
  rcases mem_begins.mp h with ⟨t, _, _, h2, h3⟩ | rfl
  · omega
  · omega
theorem begins_head {w m : Int} {ts : List T3} (h0 : 0 ≤ m) (h1 : m ≤ w) : ∃ l, beginsA w m ts = runsLo m :: l := by
  have ha := sortSet_asc (pickS (runsLo m) (runsHi w m) (ts.map fun t => startT t m) ++ [runsLo m])
  have hm : runsLo m ∈ beginsA w m ts := mem_begins.mpr (.inr rfl)
  have hb := fun s => begins_bd (ts := ts) (s := s) h0 h1
  change Asc (beginsA w m ts) at ha
  cases hl : beginsA w m ts with
  | nil => rw [hl] at hm; cases hm
  | cons u l =>
    rw [hl] at hm ha hb
    rcases List.mem_cons.mp hm with e | e
    · exact ⟨l, by rw [e]⟩
    · have h2 := (List.pairwise_cons.mp ha).1 _ e
      have h3 := hb u List.mem_cons_self
      omega
/-- a stretch of a size: its tests change nowhere in it -/
theorem stretch_ok {w m : Int} {ts : List T3} (h0 : 0 ≤ m) (h1 : m ≤ w) {p : Int × Int} (hp : p ∈ stretchA w m ts) :
    runsLo m ≤ p.1 ∧ p.1 ≤ p.2 ∧ p.2 ≤ runsHi w m ∧ ∀ t ∈ ts, ∀ r r', p.1 ≤ r → r ≤ p.2 → p.1 ≤ r' → r' ≤ p.2 → failT t (m, r) = failT t (m, r') := by
  have ok := strR_ok (last := runsHi w m) (sortSet_asc _) (fun u hu => (begins_bd h0 h1 hu).2) p hp
  refine ⟨(begins_bd h0 h1 ok.m).1, ok.le, ok.hi, fun t ht r r' r1 r2 r3 r4 => ?_⟩
  have key : ∀ s, startT t m = some s → ¬ (p.1 < s ∧ s ≤ p.2) := fun s hs hn => by
    have b1 := begins_bd h0 h1 ok.m
    have b2 := ok.hi
    exact ok.no s (mem_begins.mpr (.inl ⟨t, ht, hs, by omega, by omega⟩)) hn
  rcases Int.le_total r r' with h | h
  · exact fail_const h fun s hs => by have := key s hs; omega
  · exact (fail_const h fun s hs => by have := key s hs; omega).symm
theorem stretch_cover {w m r : Int} {ts : List T3} (h0 : 0 ≤ m) (h1 : m ≤ w) (r1 : runsLo m ≤ r) (r2 : r ≤ runsHi w m) : ∃ p ∈ stretchA w m ts, p.1 ≤ r ∧ r ≤ p.2 := by
  obtain ⟨l, e⟩ := begins_head (ts := ts) h0 h1
  have ha : Asc (beginsA w m ts) := sortSet_asc _
  unfold stretchA
  rw [e] at ha ⊢
  exact strR_cover r2 ha r1
theorem stretch_len {w m : Int} {ts : List T3} (h0 : 0 ≤ m) (h1 : m ≤ w) : (stretchA w m ts).length ≤ ts.length + 1 ∧ 2 * ((stretchA w m ts).length : Int) ≤ w + 3 := by
  unfold stretchA
  rw [strR_len]
  constructor
  · refine Nat.le_trans (sortSet_len _) ?_
    rw [List.length_append]
    refine Nat.succ_le_succ ?_
    unfold pickS
    rw [List.length_map]
    refine Nat.le_trans (List.length_filter_le _ _) ?_
    rw [List.length_map]
    exact Nat.le_refl _
  · obtain ⟨a, b, c⟩ := runs_le h0 h1
    have := asc_len (hi := runsHi w m + 1) (lo := runsLo m) (l := beginsA w m ts) (sortSet_asc _) (fun x hx => by have := begins_bd h0 h1 hx; omega) (by omega)
    omega
theorem sh_runs {w m r : Int} : IsSh w (m, r) → 1 ≤ w → (0 ≤ m ∧ m ≤ w) ∧ runsLo m ≤ r ∧ r ≤ runsHi w m := by
  rintro (⟨h1, h2⟩ | ⟨h1, h2, h3⟩) hw
  · have h1 : m = 0 := h1
    have h2 : r = 0 := h2
    subst h1 h2
    refine ⟨by omega, by decide, Int.le_of_eq rfl⟩
  · have h1 : 1 ≤ r := h1
    have h2 : r ≤ m := h2
    have h3 : r ≤ w - m + 1 := h3
    unfold runsLo runsHi minJ
    rw [if_neg (by omega), if_neg (by omega)]
    refine ⟨by omega, h1, ?_⟩
    split <;> omega
theorem runs_sh {w m r : Int} (h0 : 0 ≤ m) (h1 : m ≤ w) (r1 : runsLo m ≤ r) (r2 : r ≤ runsHi w m) : IsSh w (m, r) := by
  unfold runsLo at r1
  unfold runsHi minJ at r2
  by_cases h : m = 0
  · rw [if_pos h] at r1 r2
    exact .inl ⟨h, by show r = 0; omega⟩
  · rw [if_neg h] at r1 r2
    refine .inr ⟨r1, ?_, ?_⟩
    · show r ≤ m
      split at r2 <;> omega
    · show r ≤ w - m + 1
      split at r2 <;> omega
def testsOf (rs : List Rule) : List T3 := rs.flatMap (·.ts)
theorem hold_const {ts : List T3} {s s' : Int × Int} (h : ∀ t ∈ ts, failT t s = failT t s') : holdB ts s = holdB ts s' := by
  unfold holdB
  rw [Bool.eq_iff_iff, List.all_eq_true, List.all_eq_true]
  constructor
  · intro k t ht
    have := k t ht
    have e := h t ht
    unfold failT at e
    rw [← e]
    exact this
  · intro k t ht
    have := k t ht
    have e := h t ht
    unfold failT at e
    rw [e]
    exact this
theorem decider_const {s s' : Int × Int} : ∀ {rs : List Rule}, (∀ t ∈ testsOf rs, failT t s = failT t s') → decider rs s = decider rs s'
  | [], _ => rfl
  | r :: rs, h => by
    have h1 : holdB r.ts s = holdB r.ts s' := hold_const fun t ht => h t (List.mem_append_left _ ht)
    have ih := decider_const (rs := rs) fun t ht => h t (List.mem_append_right r.ts ht)
    unfold decider at ih ⊢
    rw [List.findIdx_cons, List.findIdx_cons, h1, ih]
theorem kept_const {b : Book} {s s' : Int × Int} (h : ∀ t ∈ testsOf b.rs, failT t s = failT t s') : kept b s = kept b s' := by
  unfold kept
  rw [decider_const h]
end Ck
namespace Ck
open PySem PySem.Spec PyProof.Rows L2
local macro_rules | `(tactic| walk_at "ck") => `(tactic| try simp only [wNext, wBrk, wCnt, wSeq, wRet, wRetN, wSet, wOwn, wDrop, wUnp, wPar, wIfS, wApp, wExt, wSetIx, wAug, wFrz, wFor, k_var, k_vk1, k_vk2, k_par, wC, wL, wOp, wOpL, wF, wFL, wNil, wCons, wTup, wLst, wTV, wTAnd, wTOr, wTNot, wAnd, wOr, wNot, wIfx, wIsN, wNotN, wChain, wO0, wO1, wSl, wCall, wIsi, wLr1, wLr2, wNeg, wLc, wYes, wiSeq, wiR1, wiR2, wiEnum, wiZip, noOwnB, wipeD, wEmp, wListZip, wSortSet, wRevL, wRevT, wOneB, k_mulT, k_add1, k_add2, k_add3, k_add4, k_addL, k_sub, k_mul1, k_mul2, k_mulL, k_div, k_mod, k_pow, k_cmp, k_eq, k_ne, k_ea1, k_ea2, k_ea3, k_ea4, k_in1, k_in2, k_in3, k_in4, k_ix1, k_ix2, k_ix3, k_sl1, k_sl2, k_len1, k_len2, k_len3, k_int1, k_int2, k_abs, k_tuple1, k_tuple2, k_list1, k_list2, k_min2, k_max2, k_non_non, k_ty_int_non, k_ty_bool_non, k_ty_tuple_non, k_ty_str_non, k_ty_list_non, k_non_bl, k_ty_int_bl, k_ty_bool_bl, k_ty_tuple_bl, k_ty_str_bl, k_ty_list_bl, k_non_int, k_ty_int_int, k_ty_bool_int, k_ty_tuple_int, k_ty_str_int, k_ty_list_int, k_non_str, k_ty_int_str, k_ty_bool_str, k_ty_tuple_str, k_ty_str_str, k_ty_list_str, k_non_tup, k_ty_int_tup, k_ty_bool_tup, k_ty_tuple_tup, k_ty_str_tup, k_ty_list_tup, k_non_lst, k_ty_int_lst, k_ty_bool_lst, k_ty_tuple_lst, k_ty_str_lst, k_ty_list_lst, k_non_emp, k_ty_int_emp, k_ty_bool_emp, k_ty_tuple_emp, k_ty_str_emp, k_ty_list_emp, k_seq_non, k_seq_bl, k_seq_int, k_seq_str, k_seq_tup, k_seq_lst, k_seq_emp, k_sz0, k_sz1, k_sz2, k_sz3, k_sz4, k_sz5, k_sz6, k_sz7, k_sz8, k_sz9, k_sz10, k_sz11, k_sz12, k_sz13, k_sz14, k_sz15, k_sz16, k_sz17, k_sz18, k_sz19, k_sz20, k_sz21, k_sz22, k_sz23, k_at0, k_at1, k_at2, k_at3, k_iteT, k_iteF, k_bt1, k_bt2, k_sa0, k_sa1, k_endn, k_endr, List.getElem?_cons_succ, List.getElem?_cons_zero, List.set_cons_succ, List.set_cons_zero, List.length_cons, List.length_nil, List.length_map, List.all_cons, List.all_nil, Nat.reduceAdd, Nat.zero_add, Bool.and_true, Bool.and_self, Option.some.injEq, Dt.int.injEq, Dt.bl.injEq, Dt.str.injEq, Dt.tup.injEq, Dt.lst.injEq, Sv.dat.injEq, Sv.own.injEq, exists_eq_left', exists_eq_left, exists_eq_right, exists_eq', exists_eq, if_true, if_false, Bool.not_false, Bool.not_true, Bool.not_not, true_and, and_true, false_and, and_false, exists_const, reduceCtorEq])

/-! ### the walk through the stretches -/
def optD : Option Int → Dt
  | none => .non
  | some i => .int i
def S_most_runs {Ω : Type} : Spc Ω := pureS (ι := Int × Int) (fun i => [.int i.1, .int i.2]) (fun i => True) fun i => .int (minJ i.2 (i.1 - i.2 + 1))
def S_runs_range {Ω : Type} : Spc Ω := pureS (ι := Int × Int) (fun i => [.int i.1, .int i.2]) (fun i => True) fun i => dS (runsLo i.2, runsHi i.1 i.2)
def S_test_start {Ω : Type} : Spc Ω := pureS (ι := T3 × Int) (fun i => [d3 i.1, .int i.2]) (fun i => Bd3 i.1 ∧ Bd i.2) fun i => optD (startT i.1 i.2)
/-- so few tests, or so narrow, that the stretches are not too many -/
def Few (w : Int) (n : Nat) : Prop := n ≤ 2000 ∧ (w ≤ 60 ∨ (w ≤ 130 ∧ n ≤ 61))
def S_stretches {Ω : Type} : Spc Ω := pureS (ι := Int × Int × List T3) (fun i => [.int i.1, .int i.2.1, .lst (i.2.2.map d3)]) (fun i => (0 ≤ i.2.1 ∧ i.2.1 ≤ i.1) ∧ Few i.1 i.2.2.length ∧ ∀ t ∈ i.2.2, Bd3 t) fun i => .lst ((stretchA i.1 i.2.1 i.2.2).map dS)
def S_tests_of {Ω : Type} : Spc Ω := pureS (ι := List Rule) (fun i => [.tup (i.map dR)]) (fun i => (testsOf i).length ≤ 10000) fun i => .lst ((testsOf i).map d3)
def firstsA (w : Int) (ts : List T3) : List (Int × Int) := (List.range (w + 1).toNat).flatMap fun (m : Nat) => (stretchA w m ts).map fun p => ((m : Int), p.1)
def S_first_shapes {Ω : Type} : Spc Ω := pureS (ι := Int × List T3) (fun i => [.int i.1, .lst (i.2.map d3)]) (fun i => 0 ≤ i.1 ∧ Few i.1 i.2.length ∧ ∀ t ∈ i.2, Bd3 t) fun i => .lst ((firstsA i.1 i.2).map dS)
abbrev p_most_runs {Ω : Type} : DS Ω :=
  (wRet (wOp fMin2 (wVar 1) (wOp fAdd (wOp fSub (wVar 0) (wVar 1)) (wC (.int 1)))))
abbrev p_runs_range {Ω : Type} : DS Ω :=
  (wRet (wIfx (wTV (wOp fEq (wVar 1) (wC (.int 0)))) (wTup (wCons (wC (.int 0)) (wCons (wC (.int 0)) wNil))) (wTup (wCons (wC (.int 1)) (wCons (wCall S_most_runs (wCons (wVar 0) (wCons (wVar 1) wNil))) wNil)))))
abbrev p_test_start {Ω : Type} : DS Ω :=
  (wSeq (wUnp [2, 3, 4] (wVar 0))
  (wSeq (wIfS (wTV (wOp fEq (wVar 3) (wC (.int 0)))) (wRet (wC .non)) wNext)
  (wSeq (wSet 5 (wOp fSub (wVar 4) (wOp fMul (wVar 2) (wVar 1))))
  (wRet (wIfx (wTV (wOp fGt (wVar 3) (wC (.int 0)))) (wOp fAdd (wOp fDiv (wVar 5) (wVar 3)) (wC (.int 1))) (wOp fSub (wC (.int 0)) (wOp fDiv (wVar 5) (wOp fSub (wC (.int 0)) (wVar 3)))))))))
abbrev p_stretches {Ω : Type} : DS Ω :=
  (wSeq (wUnp [3, 4] (wCall S_runs_range (wCons (wVar 0) (wCons (wVar 1) wNil))))
  (wSeq (wSet 5 (wL (wLc [7] (.one 7) (wiSeq (wVar 2)) wYes (wCall S_test_start (wCons (wVar 7) (wCons (wVar 1) wNil))))))
  (wSeq (wSet 5 (wL (wSortSet (wL (wOpL fAddL (wL (wLc [8] (.one 8) (wiSeq (wVar 5)) (wTAnd (wTV (wNotN (wVar 8))) (wTV (wChain (fun i j => decide (i < j)) (fun i j => decide (i ≤ j)) (wVar 3) (wVar 8) (wVar 4)))) (wVar 8))) (wL (wLst (wCons (wVar 3) wNil))))))))
  (wSeq (wSet 6 (wL (wOpL fAddL (wL (wLc [8] (.one 8) (wiSeq (wSl fSl (wVar 5) (wO1 (wC (.int 1))) wO0)) wYes (wOp fSub (wVar 8) (wC (.int 1))))) (wL (wLst (wCons (wVar 4) wNil))))))
  (wRet (wL (wListZip (wVar 5) (wVar 6))))))))
abbrev p_tests_of {Ω : Type} : DS Ω :=
  (wSeq (wOwn 1 (wLst wNil))
  (wSeq (wFor (.one 2) (wiSeq (wVar 0)) (wExt 1 (wFL fList (wOp fIx (wVar 2) (wC (.int 0))))))
  (wFrz 1 (wRet (wVar 1)))))
abbrev p_first_shapes {Ω : Type} : DS Ω :=
  (wSeq (wOwn 2 (wLst wNil))
  (wSeq (wFor (.one 3) (wiR1 (wOp fAdd (wVar 0) (wC (.int 1)))) (wExt 2 (wLc [4, 5] (.many [4, 5]) (wiSeq (wCall S_stretches (wCons (wVar 0) (wCons (wVar 3) (wCons (wVar 1) wNil))))) wYes (wTup (wCons (wVar 3) (wCons (wVar 4) wNil))))))
  (wFrz 2 (wRet (wVar 2)))))
theorem m_most_runs {Ω : Type} : ∀ ds (w : Ω) C, S_most_runs.run ds w C → p_most_runs (endD C) (startD 2 ds) w := by
  rintro ds w C ⟨⟨a, b⟩, rfl, _, q⟩
  replace q : C (.int (minJ b (a - b + 1))) w := q
  show p_most_runs _ [some (.dat (.int a)), some (.dat (.int b))] _
  unfold p_most_runs
  walk_at "ck"
  exact q
theorem m_runs_range {Ω : Type} : ∀ ds (w : Ω) C, S_runs_range.run ds w C → p_runs_range (endD C) (startD 2 ds) w := by
  rintro ds w C ⟨⟨a, b⟩, rfl, _, q⟩
  replace q : C (dS (runsLo b, runsHi a b)) w := q
  show p_runs_range _ [some (.dat (.int a)), some (.dat (.int b))] _
  unfold p_runs_range
  walk_at "ck"
  refine ite2 (fun h => ?_) (fun h => ?_)
  · have h : b = 0 := of_decide_eq_true h
    unfold runsLo runsHi at q
    rw [if_pos h, if_pos h] at q
    exact q
  · have h : ¬ b = 0 := fun z => h (decide_eq_true z)
    unfold runsLo runsHi at q
    rw [if_neg h, if_neg h] at q
    exact use_pure (a, b) trivial q
theorem m_test_start {Ω : Type} : ∀ ds (w : Ω) C, S_test_start.run ds w C → p_test_start (endD C) (startD 6 ds) w := by
  rintro ds w C ⟨⟨t, m⟩, rfl, ⟨⟨h1, h2, h3⟩, h4⟩, q⟩
  replace h1 : Bd t.a := h1
  replace h2 : Bd t.b := h2
  replace h4 : Bd m := h4
  replace q : C (optD (startT t m)) w := q
  show p_test_start _ [some (.dat (d3 t)), some (.dat (.int m)), none, none, none, none] _
  unfold p_test_start d3
  walk_at "ck"
  unfold startT at q
  obtain ⟨b1, b2⟩ := h2
  refine ite2 (fun h => ?_) (fun h => ?_)
  · have h : t.b = 0 := of_decide_eq_true h
    rw [if_pos h] at q
    exact q
  · have h : ¬ t.b = 0 := fun z => h (decide_eq_true z)
    rw [if_neg h] at q
    refine ⟨h1.mul h4, ite2 (fun h => ?_) (fun h => ?_)⟩
    · have h : 0 < t.b := of_decide_eq_true h
      rw [if_pos h] at q
      exact ⟨divw60 h (by omega), q⟩
    · have h : ¬ 0 < t.b := fun z => h (decide_eq_true z)
      rw [if_neg h] at q
      exact ⟨divw60 (by omega) (by omega), q⟩
theorem zip_dS (a b : List Int) : zipD (a.map Dt.int) (b.map Dt.int) = (a.zip b).map dS := by
  unfold zipD
  rw [List.zipWith_map, List.zip, List.map_zipWith]
  rfl
theorem m_stretches {Ω : Type} : ∀ ds (w : Ω) C, S_stretches.run ds w C → p_stretches (endD C) (startD 9 ds) w := by
  rintro ds w C ⟨⟨wd, m, ts⟩, rfl, ⟨⟨m0, m1⟩, ⟨f1, f2⟩, hb⟩, q⟩
  replace m0 : 0 ≤ m := m0
  replace m1 : m ≤ wd := m1
  replace f1 : ts.length ≤ 2000 := f1
  replace f2 : wd ≤ 60 ∨ (wd ≤ 130 ∧ ts.length ≤ 61) := f2
  replace hb : ∀ t ∈ ts, Bd3 t := hb
  replace q : C (.lst ((stretchA wd m ts).map dS)) w := q
  show p_stretches _ [some (.dat (.int wd)), some (.dat (.int m)), some (.dat (.lst (ts.map d3))), none, none, none, none, none, none] _
  unfold p_stretches
  walk_at "ck"
  refine use_pure (wd, m) trivial ?_
  unfold dS
  walk_at "ck"
  refine ⟨size1M (by omega), lc_map d3 (fun t => optD (startT t m)) ts (fun t ht => ⟨_, rfl, fun C' h => ?_⟩) ?_⟩
  · walk_at "ck"
    exact use_pure (t, m) ⟨hb t ht, ⟨by show -(2 ^ 40) < m; omega, by show m < 2 ^ 40; omega⟩⟩ h
  · walk_at "ck"
    have em : ts.map (fun t => optD (startT t m)) = (ts.map fun t => startT t m).map optD := by rw [List.map_map]; rfl
    rw [em]
    refine ⟨size1M (by omega), lc_typed optD (inRun (runsLo m) (runsHi wd m)) (fun o => .int (o.getD 0)) (ts.map fun t => startT t m) (fun o ho => ⟨_, rfl, fun C' h => ?_, fun h0 C' h => ?_⟩) ?_⟩
    · cases o with
      | none =>
        walk_at "ck"
        exact ⟨_, rfl, h⟩
      | some s =>
        walk_at "ck"
        refine ⟨false, rfl, runsLo m, s, rfl, rfl, ite2 (fun h1 => ?_) (fun h1 => ?_)⟩
        · have e : inRun (runsLo m) (runsHi wd m) (some s) = decide (s ≤ runsHi wd m) := by
            unfold inRun
            have h1 : decide (runsLo m < s) = true := h1
            dsimp only
            rw [h1, Bool.true_and]
          rw [e] at h
          exact h
        · have e : inRun (runsLo m) (runsHi wd m) (some s) = false := by
            unfold inRun
            have h1 : decide (runsLo m < s) = false := by simpa using h1
            dsimp only
            rw [h1, Bool.false_and]
          rw [e] at h
          exact h
    · cases o with
      | none => cases h0
      | some s =>
        walk_at "ck"
        exact h
    · walk_at "ck"
      have hfl : ((ts.map fun t => startT t m).filter (inRun (runsLo m) (runsHi wd m))).length ≤ ts.length := Nat.le_trans (List.length_filter_le _ _) (by rw [List.length_map]; exact Nat.le_refl _)
      have hpl : (pickS (runsLo m) (runsHi wd m) (ts.map fun t => startT t m) ++ [runsLo m]).length ≤ ts.length + 1 := by
        rw [List.length_append]
        unfold pickS
        rw [List.length_map]
        exact Nat.succ_le_succ hfl
      obtain ⟨r1, r2, r3⟩ := runs_le m0 m1
      have hbd : ∀ x ∈ pickS (runsLo m) (runsHi wd m) (ts.map fun t => startT t m) ++ [runsLo m], 0 ≤ x ∧ x ≤ runsHi wd m := by
        intro x hx
        rcases List.mem_append.mp hx with z | z
        · have := mem_pick.mp z
          omega
        · have := List.mem_singleton.mp z
          omega
      obtain ⟨ms, ms1, ms2⟩ : ∃ ms : List Int, ms.length < 64 ∧ ∀ x ∈ pickS (runsLo m) (runsHi wd m) (ts.map fun t => startT t m) ++ [runsLo m], x ∈ ms := by
        rcases f2 with z | ⟨_, z⟩
        · refine ⟨(List.range 32).map fun (k : Nat) => (k : Int), by simp, fun x hx => ?_⟩
          have := hbd x hx
          exact List.mem_map.mpr ⟨x.toNat, List.mem_range.mpr (by omega), by omega⟩
        · exact ⟨_, by omega, fun x hx => hx⟩
      refine ⟨size1M (by omega), pickS (runsLo m) (runsHi wd m) (ts.map fun t => startT t m) ++ [runsLo m], ms, ?_, by omega, ms1, ms2, fun us u1 u2 => ?_⟩
      · unfold pickS
        rw [List.map_append, List.map_map]
        rfl
      · have eu : us = beginsA wd m ts := us_eq u1 u2
        subst eu
        obtain ⟨l, el⟩ := begins_head (ts := ts) m0 m1
        have hln : (beginsA wd m ts).length ≤ ts.length + 1 := Nat.le_trans (sortSet_len _) hpl
        unfold stretchA at q
        rw [el] at q hln ⊢
        rw [← str_zip] at q
        rw [List.length_cons] at hln
        have ec : cutD ((runsLo m :: l).map Dt.int) (some 1) none = l.map Dt.int := cutD_drop (i := 1) (by simp)
        rw [ec]
        refine ⟨by rw [List.length_map]; exact size1M (by omega), lc_map Dt.int (fun x => .int (x - 1)) l (fun x hx => ⟨_, rfl, fun C' h => ?_⟩) ?_⟩
        · walk_at "ck"
          exact h
        · refine ⟨by rw [List.length_map]; exact size1M (by omega), _, _, rfl, rfl, ?_⟩
          have e2 : l.map (fun x => Dt.int (x - 1)) ++ [Dt.int (runsHi wd m)] = (l.map (fun x => x - 1) ++ [runsHi wd m]).map Dt.int := by
            rw [List.map_append, List.map_map]
            rfl
          rw [e2, zip_dS]
          exact q
theorem testsOf_app (a b : List Rule) : testsOf (a ++ b) = testsOf a ++ testsOf b := List.flatMap_append
theorem m_tests_of {Ω : Type} : ∀ ds (w : Ω) C, S_tests_of.run ds w C → p_tests_of (endD C) (startD 3 ds) w := by
  rintro ds w C ⟨rs, rfl, hl, q⟩
  replace hl : (testsOf rs).length ≤ 10000 := hl
  replace q : C (.lst ((testsOf rs).map d3)) w := q
  show p_tests_of _ [some (.dat (.tup (rs.map dR))), none, none] _
  unfold p_tests_of
  walk_at "ck"
  refine loop_pre dR rs (fun pre sl => ∃ x2, sl = [some (.dat (.tup (rs.map dR))), some (.own ((testsOf pre).map d3)), x2]) (fun pre r suf sl e hj => ?_) (fun s hs => ?_) rs [] rfl ⟨_, rfl⟩
  · obtain ⟨x2, rfl⟩ := hj
    have hl2 : (testsOf pre).length + r.ts.length ≤ 10000 := by
      have e2 : testsOf rs = testsOf pre ++ (r.ts ++ testsOf suf) := by rw [← e, testsOf_app]; rfl
      rw [e2, List.length_append, List.length_append] at hl
      omega
    have es : testsOf (pre ++ [r]) = testsOf pre ++ r.ts := by
      rw [testsOf_app]
      show _ ++ (r.ts ++ []) = _
      rw [List.append_nil]
    refine ⟨_, rfl, fun N hN => ?_⟩
    unfold dR
    walk_at "ck"
    exact ⟨size1M (by omega), hN _ ⟨_, by rw [es, List.map_append]; rfl⟩⟩
  · obtain ⟨x2, rfl⟩ := hs
    walk_at "ck"
    exact q
/-- the first shapes of the sizes below k -/
def firstsTo (w : Int) (ts : List T3) (k : Nat) : List (Int × Int) := (List.range k).flatMap fun (m : Nat) => (stretchA w m ts).map fun p => ((m : Int), p.1)
theorem firstsTo_succ (w : Int) (ts : List T3) (k : Nat) : firstsTo w ts (k + 1) = firstsTo w ts k ++ (stretchA w k ts).map fun p => ((k : Int), p.1) := by
  unfold firstsTo
  rw [List.range_succ, List.flatMap_append, List.flatMap_singleton]
theorem few_len {w : Int} {n k : Nat} (h : Few w n) (hw : 0 ≤ w) (hk : (k : Int) ≤ w + 1) {l : Nat} (h1 : l ≤ n + 1) (h2 : 2 * (l : Int) ≤ w + 3) : l ≤ 62 := by
  obtain ⟨_, h | ⟨_, h⟩⟩ := h <;> omega
theorem firstsTo_len {w : Int} {ts : List T3} (h : Few w ts.length) (hw : 0 ≤ w) : ∀ k : Nat, (k : Int) ≤ w + 1 → (firstsTo w ts k).length ≤ 62 * k
  | 0, _ => Nat.zero_le _
  | k + 1, hk => by
    rw [firstsTo_succ, List.length_append, List.length_map]
    have ih := firstsTo_len h hw k (by omega)
    obtain ⟨a, b⟩ := stretch_len (ts := ts) (w := w) (m := (k : Int)) (by omega) (by omega)
    have := few_len h hw hk a b
    omega
theorem firstsTo_lenK {w : Int} {ts : List T3} {K : Nat} (hK : ∀ l : Nat, l ≤ ts.length + 1 → 2 * (l : Int) ≤ w + 3 → l ≤ K) (hw : 0 ≤ w) : ∀ k : Nat, (k : Int) ≤ w + 1 → (firstsTo w ts k).length ≤ K * k
  | 0, _ => Nat.zero_le _
  | k + 1, hk => by
    rw [firstsTo_succ, List.length_append, List.length_map]
    have ih := firstsTo_lenK hK hw k (by omega)
    obtain ⟨a, b⟩ := stretch_len (ts := ts) (w := w) (m := (k : Int)) (by omega) (by omega)
    have := hK _ a b
    rw [Nat.mul_succ]
    omega
/-- not too many first shapes for a set of what is kept for them -/
theorem firsts_few {w : Int} {ts : List T3} (hw : 0 ≤ w) (h : w ≤ 60 ∨ (w ≤ 130 ∧ ts.length ≤ 29)) : (firstsTo w ts (w + 1).toNat).length ≤ 3930 := by
  rcases h with h | ⟨h, h2⟩
  · have := firstsTo_lenK (ts := ts) (K := 31) (fun l _ h2 => by omega) hw (w + 1).toNat (by omega)
    omega
  · have := firstsTo_lenK (ts := ts) (K := 30) (fun l h1 _ => by omega) hw (w + 1).toNat (by omega)
    omega
theorem m_first_shapes {Ω : Type} : ∀ ds (w : Ω) C, S_first_shapes.run ds w C → p_first_shapes (endD C) (startD 6 ds) w := by
  rintro ds w C ⟨⟨wd, ts⟩, rfl, ⟨h0, hf, hb⟩, q⟩
  replace h0 : 0 ≤ wd := h0
  replace hf : Few wd ts.length := hf
  replace hb : ∀ t ∈ ts, Bd3 t := hb
  replace q : C (.lst ((firstsTo wd ts (wd + 1).toNat).map dS)) w := q
  have hw : wd ≤ 130 := by obtain ⟨_, h | ⟨h, _⟩⟩ := hf <;> omega
  show p_first_shapes _ [some (.dat (.int wd)), some (.dat (.lst (ts.map d3))), none, none, none, none] _
  unfold p_first_shapes
  walk_at "ck"
  refine ⟨by omega, by omega, ?_⟩
  rw [rngD_eq]
  refine loop_map (rngN 0) (List.range (wd + 1).toNat) (fun k s => ∃ x3, s = [some (.dat (.int wd)), some (.dat (.lst (ts.map d3))), some (.own ((firstsTo wd ts k).map dS)), x3, none, none]) (fun _ => false) (fun i y s hy hb2 hj => ?_) ⟨_, rfl⟩ (fun hb s hj => ?_)
  · obtain ⟨x3, rfl⟩ := hj
    have hy' : y = i := by
      have := List.getElem?_eq_some_iff.mp hy
      obtain ⟨a, b⟩ := this
      rw [List.getElem_range] at b
      exact b.symm
    subst hy'
    have hlt : y < (wd + 1).toNat := by
      have := (List.getElem?_eq_some_iff.mp hy).1
      rwa [List.length_range] at this
    have ey : rngN 0 y = .int (y : Int) := congrArg Dt.int (Int.zero_add _)
    rw [ey]
    refine ⟨_, rfl, fun N hN => ?_⟩
    walk_at "ck"
    refine use_pure (wd, (y : Int), ts) ⟨⟨by show (0 : Int) ≤ y; omega, by show (y : Int) ≤ wd; omega⟩, hf, hb⟩ ?_
    obtain ⟨sl1, sl2⟩ := stretch_len (ts := ts) (w := wd) (m := (y : Int)) (by omega) (by omega)
    have sl3 := few_len hf h0 (k := y) (by omega) sl1 sl2
    walk_at "ck"
    refine ⟨size1M (by omega), lc_map dS (fun p => dS ((y : Int), p.1)) (stretchA wd y ts) (fun p hp => ⟨_, rfl, fun C' h => ?_⟩) ?_⟩
    · walk_at "ck"
      exact h
    · have l1 := firstsTo_len hf h0 y (by omega)
      refine ⟨?_, ?_⟩
      · simp only [List.length_map]
        exact size1M (by omega)
      · refine hN rfl _ ⟨some (.dat (.int (y : Int))), ?_⟩
        rw [firstsTo_succ, List.map_append, List.map_map]
        rfl
  · obtain ⟨x3, rfl⟩ := hj
    rw [List.length_range]
    walk_at "ck"
    exact q
end Ck
namespace Ck
open PySem PySem.Spec PyProof.Rows L2
local macro_rules | `(tactic| walk_at "ck") => `(tactic| try simp only [wNext, wBrk, wCnt, wSeq, wRet, wRetN, wSet, wOwn, wDrop, wUnp, wPar, wIfS, wApp, wExt, wSetIx, wAug, wFrz, wFor, k_var, k_vk1, k_vk2, k_par, wC, wL, wOp, wOpL, wF, wFL, wNil, wCons, wTup, wLst, wTV, wTAnd, wTOr, wTNot, wAnd, wOr, wNot, wIfx, wIsN, wNotN, wChain, wO0, wO1, wSl, wCall, wIsi, wLr1, wLr2, wNeg, wLc, wYes, wiSeq, wiR1, wiR2, wiEnum, wiZip, noOwnB, wipeD, wEmp, wListZip, wSortSet, wRevL, wRevT, wOneB, k_mulT, k_add1, k_add2, k_add3, k_add4, k_addL, k_sub, k_mul1, k_mul2, k_mulL, k_div, k_mod, k_pow, k_cmp, k_eq, k_ne, k_ea1, k_ea2, k_ea3, k_ea4, k_in1, k_in2, k_in3, k_in4, k_ix1, k_ix2, k_ix3, k_sl1, k_sl2, k_len1, k_len2, k_len3, k_int1, k_int2, k_abs, k_tuple1, k_tuple2, k_list1, k_list2, k_min2, k_max2, k_non_non, k_ty_int_non, k_ty_bool_non, k_ty_tuple_non, k_ty_str_non, k_ty_list_non, k_non_bl, k_ty_int_bl, k_ty_bool_bl, k_ty_tuple_bl, k_ty_str_bl, k_ty_list_bl, k_non_int, k_ty_int_int, k_ty_bool_int, k_ty_tuple_int, k_ty_str_int, k_ty_list_int, k_non_str, k_ty_int_str, k_ty_bool_str, k_ty_tuple_str, k_ty_str_str, k_ty_list_str, k_non_tup, k_ty_int_tup, k_ty_bool_tup, k_ty_tuple_tup, k_ty_str_tup, k_ty_list_tup, k_non_lst, k_ty_int_lst, k_ty_bool_lst, k_ty_tuple_lst, k_ty_str_lst, k_ty_list_lst, k_non_emp, k_ty_int_emp, k_ty_bool_emp, k_ty_tuple_emp, k_ty_str_emp, k_ty_list_emp, k_seq_non, k_seq_bl, k_seq_int, k_seq_str, k_seq_tup, k_seq_lst, k_seq_emp, k_sz0, k_sz1, k_sz2, k_sz3, k_sz4, k_sz5, k_sz6, k_sz7, k_sz8, k_sz9, k_sz10, k_sz11, k_sz12, k_sz13, k_sz14, k_sz15, k_sz16, k_sz17, k_sz18, k_sz19, k_sz20, k_sz21, k_sz22, k_sz23, k_at0, k_at1, k_at2, k_at3, k_iteT, k_iteF, k_bt1, k_bt2, k_sa0, k_sa1, k_endn, k_endr, List.getElem?_cons_succ, List.getElem?_cons_zero, List.set_cons_succ, List.set_cons_zero, List.length_cons, List.length_nil, List.length_map, List.all_cons, List.all_nil, Nat.reduceAdd, Nat.zero_add, Bool.and_true, Bool.and_self, Option.some.injEq, Dt.int.injEq, Dt.bl.injEq, Dt.str.injEq, Dt.tup.injEq, Dt.lst.injEq, Sv.dat.injEq, Sv.own.injEq, exists_eq_left', exists_eq_left, exists_eq_right, exists_eq', exists_eq, if_true, if_false, Bool.not_false, Bool.not_true, Bool.not_not, true_and, and_true, false_and, and_false, exists_const, reduceCtorEq])

/-! ### forms that are kept, by the first shapes -/
theorem mem_firsts {w : Int} {ts : List T3} {k : Nat} {s : Int × Int} : s ∈ firstsTo w ts k ↔ ∃ m : Nat, m < k ∧ ∃ p ∈ stretchA w m ts, s = ((m : Int), p.1) := by
  unfold firstsTo
  rw [List.mem_flatMap]
  constructor
  · rintro ⟨m, hm, hs⟩
    obtain ⟨p, hp, rfl⟩ := List.mem_map.mp hs
    exact ⟨m, List.mem_range.mp hm, p, hp, rfl⟩
  · rintro ⟨m, hm, p, hp, rfl⟩
    exact ⟨m, List.mem_range.mpr hm, List.mem_map.mpr ⟨p, hp, rfl⟩⟩
theorem firsts_sh {w : Int} {ts : List T3} (hw : 1 ≤ w) {s : Int × Int} (h : s ∈ firstsTo w ts (w + 1).toNat) : IsSh w s := by
  obtain ⟨m, hm, p, hp, rfl⟩ := mem_firsts.mp h
  obtain ⟨a, b, c, _⟩ := stretch_ok (by omega) (by omega) hp
  exact runs_sh (by omega) (by omega) a (by omega)
theorem sh_first {w : Int} {ts : List T3} (hw : 1 ≤ w) {s : Int × Int} (h : IsSh w s) : ∃ r0, (s.1, r0) ∈ firstsTo w ts (w + 1).toNat ∧ r0 ≤ s.2 ∧ ∀ t ∈ ts, failT t (s.1, r0) = failT t s := by
  obtain ⟨m, r⟩ := s
  obtain ⟨⟨h0, h1⟩, h2, h3⟩ := sh_runs h hw
  obtain ⟨p, hp, p1, p2⟩ := stretch_cover (ts := ts) h0 h1 h2 h3
  obtain ⟨a, b, c, d⟩ := stretch_ok h0 h1 hp
  have em : ((m.toNat : Nat) : Int) = m := by omega
  refine ⟨p.1, mem_firsts.mpr ⟨m.toNat, by omega, p, by rw [em]; exact hp, by rw [em]⟩, p1, fun t ht => d t ht p.1 r (Int.le_refl _) b p1 p2⟩
def inB (lo hi s : Int × Int) : Bool := decide (lo.1 ≤ s.1) && decide (s.1 ≤ hi.1) && (decide (lo.2 ≤ s.2) && decide (s.2 ≤ hi.2))
def formsB (b : Book) : List Int := sortSet ((shapes b.w).map (kept b))
def betweenB (b : Book) (lo hi : Int × Int) : List Int := sortSet (((shapes b.w).filter (inB lo hi)).map (kept b))
def boundsB (lo hi : Int × Int) : List T3 := [⟨-1, 0, 0 - lo.1⟩, ⟨1, 0, hi.1⟩, ⟨0, -1, 0 - lo.2⟩, ⟨0, 1, hi.2⟩]
theorem bounds_hold (lo hi s : Int × Int) : holdB (boundsB lo hi) s = inB lo hi s := by
  unfold holdB boundsB inB
  simp only [List.all_cons, List.all_nil, Bool.and_true]
  rw [← decide_not, ← decide_not, ← decide_not, ← decide_not, Bool.eq_iff_iff]
  simp only [Bool.and_eq_true, decide_eq_true_eq]
  omega
theorem forms_eq {b : Book} (hw : 1 ≤ b.w) : sortSet ((firstsTo b.w (testsOf b.rs) (b.w + 1).toNat).map (kept b)) = formsB b := by
  refine sortSet_congr fun z => ?_
  rw [List.mem_map, List.mem_map]
  constructor
  · rintro ⟨s, hs, rfl⟩
    exact ⟨s, (mem_shapes hw).mpr (firsts_sh hw hs), rfl⟩
  · rintro ⟨s, hs, rfl⟩
    obtain ⟨r0, h1, _, h2⟩ := sh_first (ts := testsOf b.rs) hw ((mem_shapes hw).mp hs)
    exact ⟨_, h1, kept_const h2⟩
theorem between_eq {b : Book} (hw : 1 ≤ b.w) (lo hi : Int × Int) : sortSet (((firstsTo b.w (testsOf b.rs ++ [⟨0, 1, lo.2 - 1⟩]) (b.w + 1).toNat).filter (inB lo hi)).map (kept b)) = betweenB b lo hi := by
  refine sortSet_congr fun z => ?_
  rw [List.mem_map, List.mem_map]
  constructor
  · rintro ⟨s, hs, rfl⟩
    obtain ⟨h1, h2⟩ := List.mem_filter.mp hs
    exact ⟨s, List.mem_filter.mpr ⟨(mem_shapes hw).mpr (firsts_sh hw h1), h2⟩, rfl⟩
  · rintro ⟨s, hs, rfl⟩
    obtain ⟨h0, hb⟩ := List.mem_filter.mp hs
    obtain ⟨r0, h1, h2, h3⟩ := sh_first (ts := testsOf b.rs ++ [⟨0, 1, lo.2 - 1⟩]) hw ((mem_shapes hw).mp h0)
    refine ⟨_, List.mem_filter.mpr ⟨h1, ?_⟩, kept_const fun t ht => h3 t (List.mem_append_left _ ht)⟩
    have h4 := h3 ⟨0, 1, lo.2 - 1⟩ (List.mem_append_right _ List.mem_cons_self)
    unfold failT at h4
    have h4 := decide_eq_decide.mp h4
    unfold inB at hb ⊢
    simp only [Bool.and_eq_true, decide_eq_true_eq] at hb ⊢
    dsimp only at h4
    omega
/-- a book of a small width, or with few tests -/
def Mod (b : Book) : Prop := b.w ≤ 60 ∨ (b.w ≤ 130 ∧ (testsOf b.rs).length ≤ 28)
def S_forms_kept {Ω : Type} : Spc Ω := pureS (ι := Book) (fun b => [dB b]) (fun b => BookOk b ∧ Mod b) fun b => .tup ((formsB b).map .int)
def NearP (s : Int × Int) : Prop := (-1000000 ≤ s.1 ∧ s.1 ≤ 1000000) ∧ (-1000000 ≤ s.2 ∧ s.2 ≤ 1000000)
def S_kept_between {Ω : Type} : Spc Ω := pureS (ι := Book × (Int × Int) × (Int × Int)) (fun i => [dB i.1, dS i.2.1, dS i.2.2]) (fun i => (BookOk i.1 ∧ Mod i.1) ∧ NearP i.2.1 ∧ NearP i.2.2) fun i => .tup ((betweenB i.1 i.2.1 i.2.2).map .int)
abbrev p_forms_kept {Ω : Type} : DS Ω :=
  (wRet (wF fTuple (wL (wSortSet (wL (wLc [1] (.one 1) (wiSeq (wCall S_first_shapes (wCons (wOp fIx (wVar 0) (wC (.int 0))) (wCons (wCall S_tests_of (wCons (wOp fIx (wVar 0) (wC (.int 2))) wNil)) wNil)))) wYes (wCall S_kept (wCons (wVar 0) (wCons (wVar 1) wNil)))))))))
abbrev p_kept_between {Ω : Type} : DS Ω :=
  (wSeq (wSet 3 (wL (wOpL fAddL (wCall S_tests_of (wCons (wOp fIx (wVar 0) (wC (.int 2))) wNil)) (wL (wLst (wCons (wTup (wCons (wC (.int 0)) (wCons (wC (.int 1)) (wCons (wOp fSub (wOp fIx (wVar 1) (wC (.int 1))) (wC (.int 1))) wNil)))) wNil))))))
  (wSeq (wSet 4 (wTup (wCons (wTup (wCons (wNeg (wC (.int 1))) (wCons (wC (.int 0)) (wCons (wOp fSub (wC (.int 0)) (wOp fIx (wVar 1) (wC (.int 0)))) wNil)))) (wCons (wTup (wCons (wC (.int 1)) (wCons (wC (.int 0)) (wCons (wOp fIx (wVar 2) (wC (.int 0))) wNil)))) (wCons (wTup (wCons (wC (.int 0)) (wCons (wNeg (wC (.int 1))) (wCons (wOp fSub (wC (.int 0)) (wOp fIx (wVar 1) (wC (.int 1)))) wNil)))) (wCons (wTup (wCons (wC (.int 0)) (wCons (wC (.int 1)) (wCons (wOp fIx (wVar 2) (wC (.int 1))) wNil)))) wNil))))))
  (wSeq (wSet 5 (wL (wLc [6] (.one 6) (wiSeq (wCall S_first_shapes (wCons (wOp fIx (wVar 0) (wC (.int 0))) (wCons (wVar 3) wNil)))) (wTV (wCall S_do_hold (wCons (wVar 4) (wCons (wVar 6) wNil)))) (wVar 6))))
  (wRet (wF fTuple (wL (wSortSet (wL (wLc [6] (.one 6) (wiSeq (wVar 5)) wYes (wCall S_kept (wCons (wVar 0) (wCons (wVar 6) wNil))))))))))))
theorem tests_len {b : Book} (h : BookOk b) : (testsOf b.rs).length ≤ 50 := by
  have : ∀ rs : List Rule, (∀ r ∈ rs, r.ts.length ≤ 5) → (testsOf rs).length ≤ rs.length * 5 := by
    intro rs
    induction rs with
    | nil => intro _; exact Nat.le_refl _
    | cons r rs ih =>
      intro hr
      show (r.ts ++ testsOf rs).length ≤ _
      rw [List.length_append, List.length_cons]
      have := hr r List.mem_cons_self
      have := ih fun x hx => hr x (List.mem_cons_of_mem _ hx)
      omega
  have h1 := this b.rs fun r hr => (h.ts r hr).1
  have h2 := h.rs
  omega
theorem tests_bd {b : Book} (h : BookOk b) : ∀ t ∈ testsOf b.rs, Bd3 t := fun t ht => by
  obtain ⟨r, hr, ht⟩ := List.mem_flatMap.mp ht
  exact ((h.ts r hr).2.1 t ht).bd
/-- which forms there are -/
def someF : List Int := (List.range 6).map fun (k : Nat) => (k : Int)
theorem kept_some {b : Book} (h : BookOk b) (s : Int × Int) : kept b s ∈ someF := by
  obtain ⟨a, c⟩ := kept_form h.form s
  have := h.ps
  exact List.mem_map.mpr ⟨(kept b s).toNat, List.mem_range.mpr (by omega), by omega⟩
theorem m_forms_kept {Ω : Type} : ∀ ds (w : Ω) C, S_forms_kept.run ds w C → p_forms_kept (endD C) (startD 2 ds) w := by
  rintro ds w C ⟨b, rfl, ⟨ho, hw⟩, q⟩
  replace q : C (.tup ((formsB b).map .int)) w := q
  obtain ⟨w1, w2⟩ := ho.w
  have htl := tests_len ho
  have hfew : Few b.w (testsOf b.rs).length := ⟨by omega, by unfold Mod at hw; omega⟩
  have hfl := firsts_few (w := b.w) (ts := testsOf b.rs) (by omega) (by unfold Mod at hw; omega)
  show p_forms_kept _ [some (.dat (dB b)), none] _
  unfold p_forms_kept dB
  walk_at "ck"
  refine use_pure b.rs (by show _ ≤ 10000; omega) ?_
  refine use_pure (b.w, testsOf b.rs) ⟨by show 0 ≤ b.w; omega, hfew, tests_bd ho⟩ ?_
  walk_at "ck"
  refine ⟨size1M (by show (firstsTo b.w (testsOf b.rs) (b.w + 1).toNat).length ≤ _; omega), lc_map dS (fun s => .int (kept b s)) (firstsTo b.w (testsOf b.rs) (b.w + 1).toNat) (fun s hs => ⟨_, rfl, fun C' h => ?_⟩) ?_⟩
  · walk_at "ck"
    exact use_pure (b, s) ⟨ho.bd, sh_bd (firsts_sh w1 hs) w2 w1⟩ h
  · refine ⟨(firstsTo b.w (testsOf b.rs) (b.w + 1).toNat).map (kept b), someF, by rw [List.map_map]; rfl, by rw [List.length_map]; omega, by decide, fun x hx => ?_, fun us u1 u2 => ?_⟩
    · obtain ⟨s, _, rfl⟩ := List.mem_map.mp hx
      exact kept_some ho s
    · rw [us_eq u1 u2, forms_eq w1]
      walk_at "ck"
      exact q
theorem m_kept_between {Ω : Type} : ∀ ds (w : Ω) C, S_kept_between.run ds w C → p_kept_between (endD C) (startD 7 ds) w := by
  rintro ds w C ⟨⟨b, ⟨l1, l2⟩, ⟨h1, h2⟩⟩, rfl, ⟨⟨ho, hw⟩, ⟨⟨n1, n2⟩, n3, n4⟩, ⟨⟨n5, n6⟩, n7, n8⟩⟩, q⟩
  replace ho : BookOk b := ho
  replace hw : Mod b := hw
  dsimp only at n1 n2 n3 n4 n5 n6 n7 n8
  replace q : C (.tup ((betweenB b (l1, l2) (h1, h2)).map .int)) w := q
  obtain ⟨w1, w2⟩ := ho.w
  have htl := tests_len ho
  have hfew : Few b.w (testsOf b.rs ++ [(⟨0, 1, l2 - 1⟩ : T3)]).length := ⟨by rw [List.length_append, List.length_singleton]; omega, by rw [List.length_append, List.length_singleton]; unfold Mod at hw; omega⟩
  have hfl := firsts_few (w := b.w) (ts := testsOf b.rs ++ [(⟨0, 1, l2 - 1⟩ : T3)]) (by omega) (by rw [List.length_append, List.length_singleton]; unfold Mod at hw; omega)
  show p_kept_between _ [some (.dat (dB b)), some (.dat (dS (l1, l2))), some (.dat (dS (h1, h2))), none, none, none, none] _
  unfold p_kept_between dB dS
  walk_at "ck"
  refine use_pure b.rs (by show _ ≤ 10000; omega) ?_
  walk_at "ck"
  refine ⟨size1M (by omega), ?_⟩
  have e1 : (testsOf b.rs).map d3 ++ [Dt.tup [.int 0, .int 1, .int (l2 - 1)]] = (testsOf b.rs ++ [(⟨0, 1, l2 - 1⟩ : T3)]).map d3 := by
    rw [List.map_append]
    rfl
  rw [e1]
  refine use_pure (b.w, testsOf b.rs ++ [(⟨0, 1, l2 - 1⟩ : T3)]) ⟨by show 0 ≤ b.w; omega, hfew, fun t ht => ?_⟩ ?_
  · rcases List.mem_append.mp ht with z | z
    · exact tests_bd ho t z
    · rw [List.mem_singleton.mp z]
      exact ⟨⟨by show -(2 ^ 40) < (0 : Int); decide, by show (0 : Int) < 2 ^ 40; decide⟩, ⟨by show -(2 ^ 40) < (1 : Int); decide, by show (1 : Int) < 2 ^ 40; decide⟩, by show -(2 ^ 40) < l2 - 1; omega, by show l2 - 1 < 2 ^ 40; omega⟩
  · walk_at "ck"
    refine ⟨size1M (by show (firstsTo b.w (testsOf b.rs ++ [(⟨0, 1, l2 - 1⟩ : T3)]) (b.w + 1).toNat).length ≤ _; omega), lc_typed dS (inB (l1, l2) (h1, h2)) dS (firstsTo b.w (testsOf b.rs ++ [(⟨0, 1, l2 - 1⟩ : T3)]) (b.w + 1).toNat) (fun s hs => ⟨_, rfl, fun C' h => ?_, fun _ C' h => ?_⟩) ?_⟩
    · walk_at "ck"
      rw [← bounds_hold] at h
      refine use_pure (boundsB (l1, l2) (h1, h2), s) ⟨fun t ht => ?_, sh_bd (firsts_sh w1 hs) w2 w1⟩ ⟨_, rfl, h⟩
      unfold boundsB at ht
      simp only [List.mem_cons, List.not_mem_nil, or_false] at ht
      rcases ht with rfl | rfl | rfl | rfl <;> exact ⟨⟨by dsimp only; omega, by dsimp only; omega⟩, ⟨by dsimp only; omega, by dsimp only; omega⟩, by dsimp only; omega, by dsimp only; omega⟩
    · walk_at "ck"
      exact h
    · have hfl2 : ((firstsTo b.w (testsOf b.rs ++ [(⟨0, 1, l2 - 1⟩ : T3)]) (b.w + 1).toNat).filter (inB (l1, l2) (h1, h2))).length ≤ 3930 := Nat.le_trans (List.length_filter_le _ _) hfl
      walk_at "ck"
      refine ⟨size1M (by omega), lc_map dS (fun s => .int (kept b s)) _ (fun s hs => ⟨_, rfl, fun C' h => ?_⟩) ?_⟩
      · walk_at "ck"
        exact use_pure (b, s) ⟨ho.bd, sh_bd (firsts_sh w1 (List.mem_filter.mp hs).1) w2 w1⟩ h
      · refine ⟨((firstsTo b.w (testsOf b.rs ++ [(⟨0, 1, l2 - 1⟩ : T3)]) (b.w + 1).toNat).filter (inB (l1, l2) (h1, h2))).map (kept b), someF, by rw [List.map_map]; rfl, by rw [List.length_map]; omega, by decide, fun x hx => ?_, fun us u1 u2 => ?_⟩
        · obtain ⟨s, _, rfl⟩ := List.mem_map.mp hx
          exact kept_some ho s
        · rw [us_eq u1 u2, between_eq w1 (l1, l2) (h1, h2)]
          walk_at "ck"
          exact q
end Ck
namespace Ck
open PySem PySem.Spec PyProof.Rows L2
local macro_rules | `(tactic| walk_at "ck") => `(tactic| try simp only [wNext, wBrk, wCnt, wSeq, wRet, wRetN, wSet, wOwn, wDrop, wUnp, wPar, wIfS, wApp, wExt, wSetIx, wAug, wFrz, wFor, k_var, k_vk1, k_vk2, k_par, wC, wL, wOp, wOpL, wF, wFL, wNil, wCons, wTup, wLst, wTV, wTAnd, wTOr, wTNot, wAnd, wOr, wNot, wIfx, wIsN, wNotN, wChain, wO0, wO1, wSl, wCall, wIsi, wLr1, wLr2, wNeg, wLc, wYes, wiSeq, wiR1, wiR2, wiEnum, wiZip, noOwnB, wipeD, wEmp, wListZip, wSortSet, wRevL, wRevT, wOneB, k_mulT, k_add1, k_add2, k_add3, k_add4, k_addL, k_sub, k_mul1, k_mul2, k_mulL, k_div, k_mod, k_pow, k_cmp, k_eq, k_ne, k_ea1, k_ea2, k_ea3, k_ea4, k_in1, k_in2, k_in3, k_in4, k_ix1, k_ix2, k_ix3, k_sl1, k_sl2, k_len1, k_len2, k_len3, k_int1, k_int2, k_abs, k_tuple1, k_tuple2, k_list1, k_list2, k_min2, k_max2, k_non_non, k_ty_int_non, k_ty_bool_non, k_ty_tuple_non, k_ty_str_non, k_ty_list_non, k_non_bl, k_ty_int_bl, k_ty_bool_bl, k_ty_tuple_bl, k_ty_str_bl, k_ty_list_bl, k_non_int, k_ty_int_int, k_ty_bool_int, k_ty_tuple_int, k_ty_str_int, k_ty_list_int, k_non_str, k_ty_int_str, k_ty_bool_str, k_ty_tuple_str, k_ty_str_str, k_ty_list_str, k_non_tup, k_ty_int_tup, k_ty_bool_tup, k_ty_tuple_tup, k_ty_str_tup, k_ty_list_tup, k_non_lst, k_ty_int_lst, k_ty_bool_lst, k_ty_tuple_lst, k_ty_str_lst, k_ty_list_lst, k_non_emp, k_ty_int_emp, k_ty_bool_emp, k_ty_tuple_emp, k_ty_str_emp, k_ty_list_emp, k_seq_non, k_seq_bl, k_seq_int, k_seq_str, k_seq_tup, k_seq_lst, k_seq_emp, k_sz0, k_sz1, k_sz2, k_sz3, k_sz4, k_sz5, k_sz6, k_sz7, k_sz8, k_sz9, k_sz10, k_sz11, k_sz12, k_sz13, k_sz14, k_sz15, k_sz16, k_sz17, k_sz18, k_sz19, k_sz20, k_sz21, k_sz22, k_sz23, k_at0, k_at1, k_at2, k_at3, k_iteT, k_iteF, k_bt1, k_bt2, k_sa0, k_sa1, k_endn, k_endr, List.getElem?_cons_succ, List.getElem?_cons_zero, List.set_cons_succ, List.set_cons_zero, List.length_cons, List.length_nil, List.length_map, List.all_cons, List.all_nil, Nat.reduceAdd, Nat.zero_add, Bool.and_true, Bool.and_self, Option.some.injEq, Dt.int.injEq, Dt.bl.injEq, Dt.str.injEq, Dt.tup.injEq, Dt.lst.injEq, Sv.dat.injEq, Sv.own.injEq, exists_eq_left', exists_eq_left, exists_eq_right, exists_eq', exists_eq, if_true, if_false, Bool.not_false, Bool.not_true, Bool.not_not, true_and, and_true, false_and, and_false, exists_const, reduceCtorEq])

/-! ### the ends of stretches and the first greatest -/
theorem span_cat : ∀ (n : Nat) {a b c : Int}, b - a + 1 = (n : Int) → b ≤ c → span (a, b) ++ span (b + 1, c) = span (a, c)
  | 0, a, b, c, h, hc => by
    have : span (a, b) = [] := by
      unfold span
      have e : ((a, b).2 - (a, b).1 + 1).toNat = 0 := by show (b - a + 1).toNat = 0; omega
      rw [e]
      rfl
    rw [this, List.nil_append]
    have e : b + 1 = a := by omega
    rw [e]
  | n + 1, a, b, c, h, hc => by
    rw [span_cons (by omega), span_cons (a := a) (b := c) (by omega), List.cons_append, span_cat n (by omega) hc]
theorem str_span {last : Int} : ∀ {us : List Int} {u : Int}, Asc (u :: us) → (∀ v ∈ u :: us, v ≤ last) → (strR (u :: us) last).flatMap span = span (u, last)
  | [], u, _, _ => by
    show span (u, last) ++ [] = _
    rw [List.append_nil]
  | v :: t, u, h, hl => by
    obtain ⟨h1, h2⟩ := List.pairwise_cons.mp h
    have huv := h1 v List.mem_cons_self
    have hvl := hl v (List.mem_cons_of_mem _ List.mem_cons_self)
    show span (u, v - 1) ++ (strR (v :: t) last).flatMap span = _
    rw [str_span h2 fun z hz => hl z (List.mem_cons_of_mem _ hz)]
    have e : v = (v - 1) + 1 := by omega
    have := span_cat (v - u).toNat (a := u) (b := v - 1) (c := last) (by omega) (by omega)
    rw [← e] at this
    exact this
/-- all shapes of one size -/
def sizeAll (w m : Int) : List (Int × Int) := (span (runsLo m, runsHi w m)).map fun r => (m, r)
theorem stretch_span {w m : Int} {ts : List T3} (h0 : 0 ≤ m) (h1 : m ≤ w) : (stretchA w m ts).flatMap span = span (runsLo m, runsHi w m) := by
  obtain ⟨l, e⟩ := begins_head (ts := ts) h0 h1
  have ha : Asc (beginsA w m ts) := sortSet_asc _
  have hb := fun u hu => (begins_bd (ts := ts) (s := u) h0 h1 hu).2
  unfold stretchA
  rw [e] at ha hb ⊢
  exact str_span ha hb
theorem range_span (a : Int) (n : Nat) : (List.range n).map (fun (k : Nat) => a + (k : Int)) = span (a, a + n - 1) := by
  unfold span
  have e : ((a, a + n - 1).2 - (a, a + n - 1).1 + 1).toNat = n := by show (a + n - 1 - a + 1).toNat = n; omega
  rw [e]
theorem flat_congr {α β : Type} {f g : α → List β} : ∀ {l : List α}, (∀ x ∈ l, f x = g x) → l.flatMap f = l.flatMap g
  | [], _ => rfl
  | x :: l, h => by
    rw [List.flatMap_cons, List.flatMap_cons, h x List.mem_cons_self, flat_congr fun y hy => h y (List.mem_cons_of_mem _ hy)]
theorem shapes_all {w : Int} (h : 1 ≤ w) : shapes w = (List.range (w + 1).toNat).flatMap fun (m : Nat) => sizeAll w m := by
  have e : (w + 1).toNat = w.toNat + 1 := by omega
  rw [e, List.range_succ_eq_map, List.flatMap_cons]
  have e0 : sizeAll w ((0 : Nat) : Int) = [(0, 0)] := by
    unfold sizeAll runsLo runsHi
    rw [if_pos (show ((0 : Nat) : Int) = 0 from rfl), if_pos (show ((0 : Nat) : Int) = 0 from rfl), span_one]
    rfl
  rw [e0]
  show (0, 0) :: _ = [(0, 0)] ++ _
  rw [List.singleton_append, List.flatMap_map]
  congr 1
  refine flat_congr fun i hi => ?_
  have hi := List.mem_range.mp hi
  unfold sizeShapes sizeAll
  have e1 : runsLo ((Nat.succ i : Nat) : Int) = 1 := by
    unfold runsLo
    rw [if_neg (by omega)]
  have e2 : runsHi w ((Nat.succ i : Nat) : Int) = 1 + ((min (i + 1) (w.toNat - i) : Nat) : Int) - 1 := by
    unfold runsHi minJ
    rw [if_neg (by omega)]
    split <;> omega
  rw [e1, e2, ← range_span, List.map_map]
  refine List.map_congr_left fun j _ => ?_
  show (((i + 1 : Nat) : Int), ((j + 1 : Nat) : Int)) = (((i + 1 : Nat) : Int), 1 + (j : Int))
  rw [show ((j + 1 : Nat) : Int) = 1 + (j : Int) by omega]
def endsOf (m : Int) (p : Int × Int) : List (Int × Int) := [(m, p.1), (m, p.2)]
def endsA (w : Int) (ts : List T3) : List (Int × Int) := (List.range (w + 1).toNat).flatMap fun (m : Nat) => (stretchA w m ts).flatMap (endsOf m)
/-- folds over pieces that do the same -/
theorem fold_pieces {α ι σ : Type} {f : σ → α → σ} {ok : σ → Prop} (g g' : ι → List α) : ∀ (l : List ι), (∀ m ∈ l, ∀ s, ok s → (g m).foldl f s = (g' m).foldl f s) → (∀ m ∈ l, ∀ s, ok s → ok ((g m).foldl f s)) → ∀ s, ok s → (l.flatMap g).foldl f s = (l.flatMap g').foldl f s
  | [], _, _, s, _ => rfl
  | m :: l, h1, h2, s, hs => by
    rw [List.flatMap_cons, List.flatMap_cons, List.foldl_append, List.foldl_append, ← h1 m List.mem_cons_self s hs]
    exact fold_pieces g g' l (fun m hm => h1 m (List.mem_cons_of_mem _ hm)) (fun m hm => h2 m (List.mem_cons_of_mem _ hm)) _ (h2 m List.mem_cons_self s hs)
theorem fold_ok {α σ : Type} {f : σ → α → σ} {ok : σ → Prop} : ∀ (l : List α), (∀ x ∈ l, ∀ s, ok s → ok (f s x)) → ∀ s, ok s → ok (l.foldl f s)
  | [], _, _, hs => hs
  | x :: l, h, s, hs => fold_ok l (fun y hy => h y (List.mem_cons_of_mem _ hy)) _ (h x List.mem_cons_self s hs)
/-- what is greater than all so far is kept -/
def keepG {α σ : Type} (gt : α → σ → Bool) (mk : α → σ) (s : σ) (x : α) : σ := if gt x s = true then mk x else s
theorem keep_none {α σ : Type} {gt : α → σ → Bool} {mk : α → σ} {s : σ} : ∀ (l : List α), (∀ x ∈ l, gt x s = false) → l.foldl (keepG gt mk) s = s
  | [], _ => rfl
  | x :: l, h => by
    rw [List.foldl_cons]
    have e : keepG gt mk s x = s := by
      unfold keepG
      rw [if_neg (by rw [h x List.mem_cons_self]; decide)]
    rw [e]
    exact keep_none l fun y hy => h y (List.mem_cons_of_mem _ hy)
theorem keep_last {α σ : Type} {gt : α → σ → Bool} {mk : α → σ} {e : α} : ∀ (l : List α) (s : σ), gt e s = true → (∀ x ∈ l, gt e (mk x) = true) → gt e (l.foldl (keepG gt mk) s) = true
  | [], s, h, _ => h
  | x :: l, s, h, hx => by
    rw [List.foldl_cons]
    refine keep_last l _ ?_ fun y hy => hx y (List.mem_cons_of_mem _ hy)
    unfold keepG
    split
    · exact hx x List.mem_cons_self
    · exact h
/-- a stretch: from its first one on either nothing is greater, or the last one is greater than all -/
theorem keep_ends {α σ : Type} {gt : α → σ → Bool} {mk : α → σ} {ok : σ → Prop} {a e : α} (l : List α) (hok : ∀ s, ok s → ok (keepG gt mk s a))
    (ha : ∀ s, gt a s = true → gt a (mk a) = false)
    (h : ∀ s, ok s → gt a s = false → (∀ x ∈ l ++ [e], gt x s = false) ∨ (gt e s = true ∧ ∀ x ∈ l, gt e (mk x) = true)) (s : σ) (hs : ok s) : (a :: (l ++ [e])).foldl (keepG gt mk) s = [a, e].foldl (keepG gt mk) s := by
  rw [List.foldl_cons, List.foldl_cons]
  have h1 := hok s hs
  have h2 : gt a (keepG gt mk s a) = false := by
    unfold keepG
    by_cases hg : gt a s = true
    · rw [if_pos hg]
      exact ha s hg
    · rw [if_neg hg]
      simpa using hg
  obtain ⟨s1, hs1⟩ : ∃ s1, keepG gt mk s a = s1 := ⟨_, rfl⟩
  rw [hs1] at h1 h2 ⊢
  rw [List.foldl_append]
  rcases h s1 h1 h2 with k | ⟨k1, k2⟩
  · rw [keep_none l fun x hx => k x (List.mem_append_left _ hx)]
  · have k3 := keep_last l s1 k1 k2
    show keepG gt mk (l.foldl (keepG gt mk) s1) e = keepG gt mk s1 e
    unfold keepG at k3 ⊢
    rw [if_pos k3, if_pos k1]
end Ck
namespace Ck
open PySem PySem.Spec PyProof.Rows L2
local macro_rules | `(tactic| walk_at "ck") => `(tactic| try simp only [wNext, wBrk, wCnt, wSeq, wRet, wRetN, wSet, wOwn, wDrop, wUnp, wPar, wIfS, wApp, wExt, wSetIx, wAug, wFrz, wFor, k_var, k_vk1, k_vk2, k_par, wC, wL, wOp, wOpL, wF, wFL, wNil, wCons, wTup, wLst, wTV, wTAnd, wTOr, wTNot, wAnd, wOr, wNot, wIfx, wIsN, wNotN, wChain, wO0, wO1, wSl, wCall, wIsi, wLr1, wLr2, wNeg, wLc, wYes, wiSeq, wiR1, wiR2, wiEnum, wiZip, noOwnB, wipeD, wEmp, wListZip, wSortSet, wRevL, wRevT, wOneB, k_mulT, k_add1, k_add2, k_add3, k_add4, k_addL, k_sub, k_mul1, k_mul2, k_mulL, k_div, k_mod, k_pow, k_cmp, k_eq, k_ne, k_ea1, k_ea2, k_ea3, k_ea4, k_in1, k_in2, k_in3, k_in4, k_ix1, k_ix2, k_ix3, k_sl1, k_sl2, k_len1, k_len2, k_len3, k_int1, k_int2, k_abs, k_tuple1, k_tuple2, k_list1, k_list2, k_min2, k_max2, k_non_non, k_ty_int_non, k_ty_bool_non, k_ty_tuple_non, k_ty_str_non, k_ty_list_non, k_non_bl, k_ty_int_bl, k_ty_bool_bl, k_ty_tuple_bl, k_ty_str_bl, k_ty_list_bl, k_non_int, k_ty_int_int, k_ty_bool_int, k_ty_tuple_int, k_ty_str_int, k_ty_list_int, k_non_str, k_ty_int_str, k_ty_bool_str, k_ty_tuple_str, k_ty_str_str, k_ty_list_str, k_non_tup, k_ty_int_tup, k_ty_bool_tup, k_ty_tuple_tup, k_ty_str_tup, k_ty_list_tup, k_non_lst, k_ty_int_lst, k_ty_bool_lst, k_ty_tuple_lst, k_ty_str_lst, k_ty_list_lst, k_non_emp, k_ty_int_emp, k_ty_bool_emp, k_ty_tuple_emp, k_ty_str_emp, k_ty_list_emp, k_seq_non, k_seq_bl, k_seq_int, k_seq_str, k_seq_tup, k_seq_lst, k_seq_emp, k_sz0, k_sz1, k_sz2, k_sz3, k_sz4, k_sz5, k_sz6, k_sz7, k_sz8, k_sz9, k_sz10, k_sz11, k_sz12, k_sz13, k_sz14, k_sz15, k_sz16, k_sz17, k_sz18, k_sz19, k_sz20, k_sz21, k_sz22, k_sz23, k_at0, k_at1, k_at2, k_at3, k_iteT, k_iteF, k_bt1, k_bt2, k_sa0, k_sa1, k_endn, k_endr, List.getElem?_cons_succ, List.getElem?_cons_zero, List.set_cons_succ, List.set_cons_zero, List.length_cons, List.length_nil, List.length_map, List.all_cons, List.all_nil, Nat.reduceAdd, Nat.zero_add, Bool.and_true, Bool.and_self, Option.some.injEq, Dt.int.injEq, Dt.bl.injEq, Dt.str.injEq, Dt.tup.injEq, Dt.lst.injEq, Sv.dat.injEq, Sv.own.injEq, exists_eq_left', exists_eq_left, exists_eq_right, exists_eq', exists_eq, if_true, if_false, Bool.not_false, Bool.not_true, Bool.not_not, true_and, and_true, false_and, and_false, exists_const, reduceCtorEq])

/-! ### the greatest waste stands at an end of a stretch -/
def minL : List Int → Int
  | [] => 0
  | [x] => x
  | x :: y :: l => minJ x (minL (y :: l))
theorem minL_spec : ∀ {l : List Int}, l ≠ [] → minL l ∈ l ∧ ∀ y ∈ l, minL l ≤ y
  | [], h => absurd rfl h
  | [x], _ => ⟨List.mem_cons_self, fun y hy => by rw [List.mem_singleton.mp hy]; exact Int.le_refl _⟩
  | x :: y :: l, _ => by
    obtain ⟨h1, h2⟩ := minL_spec (l := y :: l) (by simp)
    show minJ x (minL (y :: l)) ∈ _ ∧ ∀ z ∈ x :: y :: l, minJ x (minL (y :: l)) ≤ z
    unfold minJ
    constructor
    · split
      · exact List.mem_cons_of_mem _ h1
      · exact List.mem_cons_self
    · intro z hz
      rcases List.mem_cons.mp hz with rfl | hz
      · split <;> omega
      · have := h2 z hz
        split <;> omega
theorem minL_uniq {l : List Int} {m : Int} (h1 : m ∈ l) (h2 : ∀ y ∈ l, m ≤ y) : m = minL l := by
  have hn : l ≠ [] := fun e => by rw [e] at h1; cases h1
  obtain ⟨a, b⟩ := minL_spec hn
  exact Int.le_antisymm (h2 _ a) (b _ h1)
def ownR (b : Book) (s : Int × Int) : Int := (roomB b s).getD 0
def leastR (b : Book) (s : Int × Int) : Int := minL (b.ps.map fun p => roomAt p s)
def pAt (ps : List T3) (i : Nat) : T3 := ps[i]?.getD ⟨0, 0, 0⟩
def crossT (p q : T3) : List T3 := [⟨p.b - q.b, p.c - q.c, 0 - (p.a - q.a)⟩, ⟨0 - (p.b - q.b), 0 - (p.c - q.c), p.a - q.a⟩]
def crossRow (ps : List T3) (i : Nat) : List T3 := (List.range i).flatMap fun j => crossT (pAt ps i) (pAt ps j)
def crossA (ps : List T3) : List T3 := (List.range ps.length).flatMap (crossRow ps)
theorem cross_first {p q : T3} {s : Int × Int} : failT ⟨p.b - q.b, p.c - q.c, 0 - (p.a - q.a)⟩ s = decide (roomAt q s < roomAt p s) := by
  unfold failT roomAt
  refine decide_eq_decide.mpr ?_
  dsimp only
  rw [Int.sub_mul, Int.sub_mul]
  omega
theorem cross_second {p q : T3} {s : Int × Int} : failT ⟨0 - (p.b - q.b), 0 - (p.c - q.c), p.a - q.a⟩ s = decide (roomAt p s < roomAt q s) := by
  unfold failT roomAt
  refine decide_eq_decide.mpr ?_
  dsimp only
  rw [Int.sub_mul, Int.sub_mul, Int.sub_mul, Int.sub_mul, Int.zero_mul, Int.zero_mul]
  omega
theorem cross_mem {ps : List T3} {i j : Nat} (hi : i < ps.length) (hj : j < i) : ∀ t ∈ crossT (pAt ps i) (pAt ps j), t ∈ crossA ps := fun t ht =>
  List.mem_flatMap.mpr ⟨i, List.mem_range.mpr hi, List.mem_flatMap.mpr ⟨j, List.mem_range.mpr hj, ht⟩⟩
/-- which of two prices has less room is told by the tests -/
theorem cross_const {ps : List T3} {s s' : Int × Int} (h : ∀ t ∈ crossA ps, failT t s = failT t s') {p q : T3} (hp : p ∈ ps) (hq : q ∈ ps) : decide (roomAt q s < roomAt p s) = decide (roomAt q s' < roomAt p s') := by
  obtain ⟨i, hi⟩ := List.getElem?_of_mem hp
  obtain ⟨j, hj⟩ := List.getElem?_of_mem hq
  have ei : pAt ps i = p := by unfold pAt; rw [hi]; rfl
  have ej : pAt ps j = q := by unfold pAt; rw [hj]; rfl
  have li := (List.getElem?_eq_some_iff.mp hi).1
  have lj := (List.getElem?_eq_some_iff.mp hj).1
  rcases Nat.lt_trichotomy i j with k | k | k
  · have := h _ (cross_mem lj k ⟨0 - ((pAt ps j).b - (pAt ps i).b), 0 - ((pAt ps j).c - (pAt ps i).c), (pAt ps j).a - (pAt ps i).a⟩ (List.mem_cons_of_mem _ List.mem_cons_self))
    rw [cross_second, cross_second, ei, ej] at this
    exact this
  · subst k
    rw [ei] at ej
    subst ej
    rw [decide_eq_false (Int.lt_irrefl _), decide_eq_false (Int.lt_irrefl _)]
  · have := h _ (cross_mem li k ⟨(pAt ps i).b - (pAt ps j).b, (pAt ps i).c - (pAt ps j).c, 0 - ((pAt ps i).a - (pAt ps j).a)⟩ List.mem_cons_self)
    rw [cross_first, cross_first, ei, ej] at this
    exact this
/-- on a stretch the room that is kept and the least one are those of one price each -/
theorem stretch_lin {b : Book} (ho : BookOk b) {m : Int} (h0 : 0 ≤ m) (h1 : m ≤ b.w) {p : Int × Int} (hp : p ∈ stretchA b.w m (testsOf b.rs ++ crossA b.ps)) :
    ∃ P Q : T3, P ∈ b.ps ∧ Q ∈ b.ps ∧ ∀ r, p.1 ≤ r → r ≤ p.2 → ownR b (m, r) = roomAt P (m, r) ∧ leastR b (m, r) = roomAt Q (m, r) := by
  obtain ⟨_, hle, _, hc⟩ := stretch_ok h0 h1 hp
  obtain ⟨P, hP, _⟩ := room_of ho.form (m, p.1)
  have hne : b.ps.map (fun t => roomAt t (m, p.1)) ≠ [] := by
    have := ho.ps.1
    intro e
    have := congrArg List.length e
    rw [List.length_map] at this
    simp at this
    have e2 : b.ps.length = 0 := by rw [this]; rfl
    omega
  obtain ⟨hm, hle2⟩ := minL_spec hne
  obtain ⟨Q, hQ, eQ⟩ := List.mem_map.mp hm
  refine ⟨P, Q, List.mem_of_getElem? hP, hQ, fun r r1 r2 => ⟨?_, ?_⟩⟩
  · have hk : kept b (m, r) = kept b (m, p.1) := kept_const fun t ht => hc t (List.mem_append_left _ ht) r p.1 r1 r2 (Int.le_refl _) hle
    unfold ownR roomB
    rw [hk, hP]
    rfl
  · refine (minL_uniq (List.mem_map.mpr ⟨Q, hQ, rfl⟩) fun y hy => ?_).symm
    obtain ⟨q, hq, rfl⟩ := List.mem_map.mp hy
    have h3 := cross_const (ps := b.ps) (s := (m, p.1)) (s' := (m, r)) (fun t ht => hc t (List.mem_append_right _ ht) p.1 r (Int.le_refl _) hle r1 r2) hQ hq
    have h4 : ¬ roomAt q (m, p.1) < roomAt Q (m, p.1) := by
      have := hle2 _ (List.mem_map.mpr ⟨q, hq, rfl⟩)

      omega
    rw [decide_eq_false h4] at h3
    have := of_decide_eq_false h3.symm
    omega
theorem least_pos {b : Book} (ho : BookOk b) {s : Int × Int} (hs : IsSh b.w s) : 1 ≤ leastR b s := by
  have hne : b.ps.map (fun t => roomAt t s) ≠ [] := by
    have := ho.ps.1
    intro e
    have := congrArg List.length e
    rw [List.length_map] at this
    have e2 : b.ps.length = 0 := by rw [this]; rfl
    omega
  obtain ⟨hm, _⟩ := minL_spec hne
  obtain ⟨Q, hQ, eQ⟩ := List.mem_map.mp hm
  have := (ho.pr Q hQ).room s hs
  unfold leastR
  rw [← eQ]
  exact this
theorem lin_le {A B a e x : Int} (ha : A + B * a ≤ 0) (he : A + B * e ≤ 0) (h1 : a ≤ x) (h2 : x ≤ e) : A + B * x ≤ 0 := by
  rcases Int.le_total 0 B with h | h
  · have := Int.mul_le_mul_of_nonneg_left h2 h
    omega
  · have := Int.mul_le_mul_of_nonpos_left h h1
    omega
theorem lin_up {A B a e : Int} (ha : A + B * a ≤ 0) (he : 0 < A + B * e) (h1 : a ≤ e) : 0 < B := by
  rcases Int.lt_or_le 0 B with h | h
  · exact h
  · have := Int.mul_le_mul_of_nonpos_left h h1
    omega
/-- two lines, one over the other: greatest at an end -/
theorem frac_up {P0 Pc Q0 Qc n d a e x : Int} (hd : 1 ≤ d) (ha : (P0 + Pc * a) * d ≤ n * (Q0 + Qc * a)) (he : n * (Q0 + Qc * e) < (P0 + Pc * e) * d) (la : 1 ≤ Q0 + Qc * a) (le : 1 ≤ Q0 + Qc * e) (h1 : a ≤ x) (h2 : x < e) :
    (P0 + Pc * x) * (Q0 + Qc * e) < (P0 + Pc * e) * (Q0 + Qc * x) := by
  have m1 := Int.mul_le_mul_of_nonneg_right ha (show 0 ≤ Q0 + Qc * e by omega)
  have m2 := Int.mul_lt_mul_of_pos_right he (show 0 < Q0 + Qc * a by omega)
  have e1 : (P0 + Pc * a) * d * (Q0 + Qc * e) = d * ((P0 + Pc * a) * (Q0 + Qc * e)) := by grind
  have e2 : n * (Q0 + Qc * a) * (Q0 + Qc * e) = n * (Q0 + Qc * e) * (Q0 + Qc * a) := by grind
  have e3 : (P0 + Pc * e) * d * (Q0 + Qc * a) = d * ((P0 + Pc * e) * (Q0 + Qc * a)) := by grind
  rw [e1, e2] at m1
  rw [e3] at m2
  have m3 : d * ((P0 + Pc * a) * (Q0 + Qc * e)) < d * ((P0 + Pc * e) * (Q0 + Qc * a)) := by omega
  have m4 := Int.lt_of_mul_lt_mul_left m3 (by omega)
  have e4 : (P0 + Pc * e) * (Q0 + Qc * a) - (P0 + Pc * a) * (Q0 + Qc * e) = (Pc * Q0 - P0 * Qc) * (e - a) := by grind
  have e5 : (P0 + Pc * e) * (Q0 + Qc * x) - (P0 + Pc * x) * (Q0 + Qc * e) = (Pc * Q0 - P0 * Qc) * (e - x) := by grind
  have hpos : 0 < (Pc * Q0 - P0 * Qc) * (e - a) := by omega
  have hD : 0 < Pc * Q0 - P0 * Qc := by
    rcases Int.lt_or_le 0 (Pc * Q0 - P0 * Qc) with h | h
    · exact h
    · have := Int.mul_le_mul_of_nonneg_right h (show 0 ≤ e - a by omega)
      rw [Int.zero_mul] at this
      omega
  have := Int.mul_pos hD (show 0 < e - x by omega)
  omega
end Ck
namespace Ck
open PySem PySem.Spec PyProof.Rows L2
local macro_rules | `(tactic| walk_at "ck") => `(tactic| try simp only [wNext, wBrk, wCnt, wSeq, wRet, wRetN, wSet, wOwn, wDrop, wUnp, wPar, wIfS, wApp, wExt, wSetIx, wAug, wFrz, wFor, k_var, k_vk1, k_vk2, k_par, wC, wL, wOp, wOpL, wF, wFL, wNil, wCons, wTup, wLst, wTV, wTAnd, wTOr, wTNot, wAnd, wOr, wNot, wIfx, wIsN, wNotN, wChain, wO0, wO1, wSl, wCall, wIsi, wLr1, wLr2, wNeg, wLc, wYes, wiSeq, wiR1, wiR2, wiEnum, wiZip, noOwnB, wipeD, wEmp, wListZip, wSortSet, wRevL, wRevT, wOneB, wParOD, wParDO, wParOO, k_mulT, k_add1, k_add2, k_add3, k_add4, k_addL, k_sub, k_mul1, k_mul2, k_mulL, k_div, k_mod, k_pow, k_cmp, k_eq, k_ne, k_ea1, k_ea2, k_ea3, k_ea4, k_in1, k_in2, k_in3, k_in4, k_ix1, k_ix2, k_ix3, k_sl1, k_sl2, k_len1, k_len2, k_len3, k_int1, k_int2, k_abs, k_tuple1, k_tuple2, k_list1, k_list2, k_min2, k_max2, k_non_non, k_ty_int_non, k_ty_bool_non, k_ty_tuple_non, k_ty_str_non, k_ty_list_non, k_non_bl, k_ty_int_bl, k_ty_bool_bl, k_ty_tuple_bl, k_ty_str_bl, k_ty_list_bl, k_non_int, k_ty_int_int, k_ty_bool_int, k_ty_tuple_int, k_ty_str_int, k_ty_list_int, k_non_str, k_ty_int_str, k_ty_bool_str, k_ty_tuple_str, k_ty_str_str, k_ty_list_str, k_non_tup, k_ty_int_tup, k_ty_bool_tup, k_ty_tuple_tup, k_ty_str_tup, k_ty_list_tup, k_non_lst, k_ty_int_lst, k_ty_bool_lst, k_ty_tuple_lst, k_ty_str_lst, k_ty_list_lst, k_non_emp, k_ty_int_emp, k_ty_bool_emp, k_ty_tuple_emp, k_ty_str_emp, k_ty_list_emp, k_seq_non, k_seq_bl, k_seq_int, k_seq_str, k_seq_tup, k_seq_lst, k_seq_emp, k_sz0, k_sz1, k_sz2, k_sz3, k_sz4, k_sz5, k_sz6, k_sz7, k_sz8, k_sz9, k_sz10, k_sz11, k_sz12, k_sz13, k_sz14, k_sz15, k_sz16, k_sz17, k_sz18, k_sz19, k_sz20, k_sz21, k_sz22, k_sz23, k_at0, k_at1, k_at2, k_at3, k_iteT, k_iteF, k_bt1, k_bt2, k_sa0, k_sa1, k_endn, k_endr, List.getElem?_cons_succ, List.getElem?_cons_zero, List.set_cons_succ, List.set_cons_zero, List.length_cons, List.length_nil, List.length_map, List.all_cons, List.all_nil, Nat.reduceAdd, Nat.zero_add, Bool.and_true, Bool.and_self, Option.some.injEq, Dt.int.injEq, Dt.bl.injEq, Dt.str.injEq, Dt.tup.injEq, Dt.lst.injEq, Sv.dat.injEq, Sv.own.injEq, exists_eq_left', exists_eq_left, exists_eq_right, exists_eq', exists_eq, if_true, if_false, Bool.not_false, Bool.not_true, Bool.not_not, true_and, and_true, false_and, and_false, exists_const, reduceCtorEq])

/-! ### excess, lost -/
def gtE (b : Book) (x : Int × Int) (s : Int × Int × (Int × Int)) : Bool := decide (s.1 * leastR b x < ownR b x * s.2.1)
def mkE (b : Book) (x : Int × Int) : Int × Int × (Int × Int) := (ownR b x, leastR b x, x)
def gtL (b : Book) (x : Int × Int) (s : Int × (Int × Int)) : Bool := decide (s.1 < ownR b x - leastR b x)
def mkL (b : Book) (x : Int × Int) : Int × (Int × Int) := (ownR b x - leastR b x, x)
theorem span_ends {a e : Int} (h : a < e) : span (a, e) = a :: (span (a + 1, e - 1) ++ [e]) := by
  rw [span_cons (by omega)]
  have := span_cat (e - 1 - a).toNat (a := a + 1) (b := e - 1) (c := e) (by omega) (by omega)
  rw [← this]
  have e2 : e - 1 + 1 = e := by omega
  rw [e2, span_one]
theorem roomAt_lin (p : T3) (m r : Int) : roomAt p (m, r) = (p.a + p.b * m) + p.c * r := rfl
/-- one stretch, all its shapes or its two ends -/
theorem piece_ends {σ : Type} {gt : Int × Int → σ → Bool} {mk : Int × Int → σ} {ok : σ → Prop} {m : Int} {p : Int × Int} (hp : p.1 ≤ p.2) (hok : ∀ s, ok s → ok (keepG gt mk s (m, p.1))) (ha : ∀ s, gt (m, p.1) s = true → gt (m, p.1) (mk (m, p.1)) = false)
    (h : ∀ s, ok s → gt (m, p.1) s = false → (∀ r, p.1 ≤ r → r ≤ p.2 → gt (m, r) s = false) ∨ (gt (m, p.2) s = true ∧ ∀ r, p.1 ≤ r → r < p.2 → gt (m, p.2) (mk (m, r)) = true)) (s : σ) (hs : ok s) :
    ((span p).map fun r => (m, r)).foldl (keepG gt mk) s = (endsOf m p).foldl (keepG gt mk) s := by
  obtain ⟨a, e⟩ := p
  dsimp only at *
  by_cases hae : a = e
  · subst hae
    rw [span_one]
    show keepG gt mk s (m, a) = keepG gt mk (keepG gt mk s (m, a)) (m, a)
    unfold keepG
    by_cases hg : gt (m, a) s = true
    · rw [if_pos hg, if_neg (by rw [ha s hg]; decide)]
    · rw [if_neg hg, if_neg hg]
  · have hae : a < e := by omega
    rw [span_ends hae, List.map_cons, List.map_append]
    refine keep_ends (ok := ok) ((span (a + 1, e - 1)).map fun r => (m, r)) hok ha (fun s hs hg => ?_) s hs
    rcases h s hs hg with k | ⟨k1, k2⟩
    · refine .inl fun x hx => ?_
      rcases List.mem_append.mp hx with z | z
      · obtain ⟨r, hr, rfl⟩ := List.mem_map.mp z
        have := mem_span.mp hr
        exact k r (by have := this.1; dsimp only at this; omega) (by have := this.2; dsimp only at this; omega)
      · rw [List.mem_singleton.mp z]
        exact k e (by omega) (Int.le_refl _)
    · refine .inr ⟨k1, fun x hx => ?_⟩
      obtain ⟨r, hr, rfl⟩ := List.mem_map.mp hx
      have := mem_span.mp hr
      exact k2 r (by have := this.1; dsimp only at this; omega) (by have := this.2; dsimp only at this; omega)
/-- over all stretches -/
theorem all_ends {σ : Type} {gt : Int × Int → σ → Bool} {mk : Int × Int → σ} {ok : σ → Prop} {b : Book} (ho : BookOk b) (ts : List T3) (hok : ∀ s x, IsSh b.w x → ok s → ok (keepG gt mk s x)) (ha : ∀ s x, gt x s = true → gt x (mk x) = false)
    (h : ∀ (m : Int) (p : Int × Int), 0 ≤ m → m ≤ b.w → p ∈ stretchA b.w m ts → ∀ s, ok s → gt (m, p.1) s = false → (∀ r, p.1 ≤ r → r ≤ p.2 → gt (m, r) s = false) ∨ (gt (m, p.2) s = true ∧ ∀ r, p.1 ≤ r → r < p.2 → gt (m, p.2) (mk (m, r)) = true)) (s : σ) (hs : ok s) :
    (shapes b.w).foldl (keepG gt mk) s = (endsA b.w ts).foldl (keepG gt mk) s := by
  rw [shapes_all ho.w.1]
  have sh : ∀ (m : Nat), m ∈ List.range (b.w + 1).toNat → ∀ p ∈ stretchA b.w m ts, ∀ r, p.1 ≤ r → r ≤ p.2 → IsSh b.w ((m : Int), r) := fun m hm p hp r r1 r2 => by
    have hm := List.mem_range.mp hm
    obtain ⟨q1, q2, q3, _⟩ := stretch_ok (by omega) (by omega) hp
    exact runs_sh (by omega) (by omega) (by omega) (by omega)
  have e1 : ((List.range (b.w + 1).toNat).flatMap fun (m : Nat) => sizeAll b.w m) = (List.range (b.w + 1).toNat).flatMap fun (m : Nat) => (stretchA b.w m ts).flatMap fun p => (span p).map fun r => ((m : Int), r) := by
    refine flat_congr fun m hm => ?_
    have hm := List.mem_range.mp hm
    unfold sizeAll
    rw [← stretch_span (ts := ts) (by omega) (by omega), List.map_flatMap]
  rw [e1]
  refine fold_pieces (ok := ok) _ _ _ (fun m hm s hs => ?_) (fun m hm s hs => ?_) s hs
  · refine fold_pieces (ok := ok) _ _ _ (fun p hp s hs => ?_) (fun p hp s hs => ?_) s hs
    · have hm2 := List.mem_range.mp hm
      obtain ⟨q1, q2, q3, _⟩ := stretch_ok (by omega) (by omega) hp
      exact piece_ends (ok := ok) q2 (fun s hs => hok s _ (sh m hm p hp p.1 (Int.le_refl _) q2) hs) (fun s => ha s _) (h m p (by omega) (by omega) hp) s hs
    · refine fold_ok (ok := ok) _ (fun x hx s hs => ?_) s hs
      obtain ⟨r, hr, rfl⟩ := List.mem_map.mp hx
      have := mem_span.mp hr
      exact hok s _ (sh m hm p hp r this.1 this.2) hs
  · refine fold_ok (ok := ok) _ (fun x hx s hs => ?_) s hs
    obtain ⟨p, hp, hx⟩ := List.mem_flatMap.mp hx
    obtain ⟨r, hr, rfl⟩ := List.mem_map.mp hx
    have := mem_span.mp hr
    exact hok s _ (sh m hm p hp r this.1 this.2) hs
def endTests (b : Book) : List T3 := testsOf b.rs ++ crossA b.ps
def E0 : Int × Int × (Int × Int) := (0, 1, (0, 0))
def L0 : Int × (Int × Int) := (-1, (0, 0))
theorem excess_ends {b : Book} (ho : BookOk b) : (shapes b.w).foldl (keepG (gtE b) (mkE b)) E0 = (endsA b.w (endTests b)).foldl (keepG (gtE b) (mkE b)) E0 := by
  refine all_ends (ok := fun s => 1 ≤ s.2.1) ho (endTests b) (fun s x hx hs => ?_) (fun s x _ => ?_) (fun m p h0 h1 hp s hs hg => ?_) E0 (by decide)
  · show 1 ≤ (keepG (gtE b) (mkE b) s x).2.1
    unfold keepG
    split
    · exact least_pos ho hx
    · exact hs
  · unfold gtE mkE
    exact decide_eq_false (Int.lt_irrefl _)
  · obtain ⟨q1, q2, q3, _⟩ := stretch_ok h0 h1 hp
    obtain ⟨P, Q, hP, hQ, hl⟩ := stretch_lin ho h0 h1 hp
    have hs : 1 ≤ s.2.1 := hs
    have pos : ∀ r, p.1 ≤ r → r ≤ p.2 → 1 ≤ (Q.a + Q.b * m) + Q.c * r := fun r r1 r2 => by
      have := least_pos ho (runs_sh (r := r) h0 h1 (by omega) (by omega))
      rw [(hl r r1 r2).2, roomAt_lin] at this
      exact this
    have g : ∀ r, p.1 ≤ r → r ≤ p.2 → gtE b (m, r) s = decide (s.1 * ((Q.a + Q.b * m) + Q.c * r) < ((P.a + P.b * m) + P.c * r) * s.2.1) := fun r r1 r2 => by
      unfold gtE
      rw [(hl r r1 r2).1, (hl r r1 r2).2, roomAt_lin, roomAt_lin]
    have g2 : ∀ r, p.1 ≤ r → r ≤ p.2 → gtE b (m, p.2) (mkE b (m, r)) = decide (((P.a + P.b * m) + P.c * r) * ((Q.a + Q.b * m) + Q.c * p.2) < ((P.a + P.b * m) + P.c * p.2) * ((Q.a + Q.b * m) + Q.c * r)) := fun r r1 r2 => by
      unfold gtE mkE
      dsimp only
      rw [(hl r r1 r2).1, (hl r r1 r2).2, (hl p.2 q2 (Int.le_refl _)).1, (hl p.2 q2 (Int.le_refl _)).2, roomAt_lin, roomAt_lin, roomAt_lin, roomAt_lin]
    rw [g p.1 (Int.le_refl _) q2] at hg
    have hg := of_decide_eq_false hg
    have lin : ∀ r, ((P.a + P.b * m) + P.c * r) * s.2.1 - s.1 * ((Q.a + Q.b * m) + Q.c * r) = ((P.a + P.b * m) * s.2.1 - s.1 * (Q.a + Q.b * m)) + (P.c * s.2.1 - s.1 * Q.c) * r := fun r => by grind
    by_cases he : s.1 * ((Q.a + Q.b * m) + Q.c * p.2) < ((P.a + P.b * m) + P.c * p.2) * s.2.1
    · refine .inr ⟨by rw [g p.2 q2 (Int.le_refl _)]; exact decide_eq_true he, fun r r1 r2 => ?_⟩
      rw [g2 r r1 (by omega)]
      exact decide_eq_true (frac_up hs (by omega) he (pos p.1 (Int.le_refl _) q2) (pos p.2 q2 (Int.le_refl _)) r1 r2)
    · refine .inl fun r r1 r2 => ?_
      rw [g r r1 r2]
      refine decide_eq_false fun hn => ?_
      have l1 := lin p.1
      have l2 := lin p.2
      have l3 := lin r
      have := lin_le (A := (P.a + P.b * m) * s.2.1 - s.1 * (Q.a + Q.b * m)) (B := P.c * s.2.1 - s.1 * Q.c) (a := p.1) (e := p.2) (x := r) (by omega) (by omega) r1 r2
      omega
theorem lost_ends {b : Book} (ho : BookOk b) : (shapes b.w).foldl (keepG (gtL b) (mkL b)) L0 = (endsA b.w (endTests b)).foldl (keepG (gtL b) (mkL b)) L0 := by
  refine all_ends (ok := fun _ => True) ho (endTests b) (fun s x hx hs => trivial) (fun s x _ => ?_) (fun m p h0 h1 hp s hs hg => ?_) L0 trivial
  · unfold gtL mkL
    exact decide_eq_false (Int.lt_irrefl _)
  · obtain ⟨q1, q2, q3, _⟩ := stretch_ok h0 h1 hp
    obtain ⟨P, Q, hP, hQ, hl⟩ := stretch_lin ho h0 h1 hp
    have v : ∀ r, p.1 ≤ r → r ≤ p.2 → ownR b (m, r) - leastR b (m, r) = ((P.a + P.b * m) - (Q.a + Q.b * m)) + (P.c - Q.c) * r := fun r r1 r2 => by
      rw [(hl r r1 r2).1, (hl r r1 r2).2, roomAt_lin, roomAt_lin, Int.sub_mul]
      omega
    have g : ∀ r, p.1 ≤ r → r ≤ p.2 → gtL b (m, r) s = decide (s.1 < ((P.a + P.b * m) - (Q.a + Q.b * m)) + (P.c - Q.c) * r) := fun r r1 r2 => by
      unfold gtL
      rw [v r r1 r2]
    rw [g p.1 (Int.le_refl _) q2] at hg
    have hg := of_decide_eq_false hg
    by_cases he : s.1 < ((P.a + P.b * m) - (Q.a + Q.b * m)) + (P.c - Q.c) * p.2
    · refine .inr ⟨by rw [g p.2 q2 (Int.le_refl _)]; exact decide_eq_true he, fun r r1 r2 => ?_⟩
      unfold gtL mkL
      dsimp only
      rw [v r r1 (by omega), v p.2 q2 (Int.le_refl _)]
      refine decide_eq_true ?_
      have hB := lin_up (A := ((P.a + P.b * m) - (Q.a + Q.b * m)) - s.1) (B := P.c - Q.c) (a := p.1) (e := p.2) (by omega) (by omega) q2
      have := Int.mul_lt_mul_of_pos_left r2 hB
      omega
    · refine .inl fun r r1 r2 => ?_
      rw [g r r1 r2]
      refine decide_eq_false fun hn => ?_
      have := lin_le (A := ((P.a + P.b * m) - (Q.a + Q.b * m)) - s.1) (B := P.c - Q.c) (a := p.1) (e := p.2) (x := r) (by omega) (by omega) r1 r2
      omega
end Ck
namespace Ck
open PySem PySem.Spec PyProof.Rows L2
local macro_rules | `(tactic| walk_at "ck") => `(tactic| try simp only [wNext, wBrk, wCnt, wSeq, wRet, wRetN, wSet, wOwn, wDrop, wUnp, wPar, wIfS, wApp, wExt, wSetIx, wAug, wFrz, wFor, k_var, k_vk1, k_vk2, k_par, wC, wL, wOp, wOpL, wF, wFL, wNil, wCons, wTup, wLst, wTV, wTAnd, wTOr, wTNot, wAnd, wOr, wNot, wIfx, wIsN, wNotN, wChain, wO0, wO1, wSl, wCall, wIsi, wLr1, wLr2, wNeg, wLc, wYes, wiSeq, wiR1, wiR2, wiEnum, wiZip, noOwnB, wipeD, wEmp, wListZip, wSortSet, wRevL, wRevT, wOneB, wParOD, wParDO, wParOO, k_mulT, k_add1, k_add2, k_add3, k_add4, k_addL, k_sub, k_mul1, k_mul2, k_mulL, k_div, k_mod, k_pow, k_cmp, k_eq, k_ne, k_ea1, k_ea2, k_ea3, k_ea4, k_in1, k_in2, k_in3, k_in4, k_ix1, k_ix2, k_ix3, k_sl1, k_sl2, k_len1, k_len2, k_len3, k_int1, k_int2, k_abs, k_tuple1, k_tuple2, k_list1, k_list2, k_min2, k_max2, k_non_non, k_ty_int_non, k_ty_bool_non, k_ty_tuple_non, k_ty_str_non, k_ty_list_non, k_non_bl, k_ty_int_bl, k_ty_bool_bl, k_ty_tuple_bl, k_ty_str_bl, k_ty_list_bl, k_non_int, k_ty_int_int, k_ty_bool_int, k_ty_tuple_int, k_ty_str_int, k_ty_list_int, k_non_str, k_ty_int_str, k_ty_bool_str, k_ty_tuple_str, k_ty_str_str, k_ty_list_str, k_non_tup, k_ty_int_tup, k_ty_bool_tup, k_ty_tuple_tup, k_ty_str_tup, k_ty_list_tup, k_non_lst, k_ty_int_lst, k_ty_bool_lst, k_ty_tuple_lst, k_ty_str_lst, k_ty_list_lst, k_non_emp, k_ty_int_emp, k_ty_bool_emp, k_ty_tuple_emp, k_ty_str_emp, k_ty_list_emp, k_seq_non, k_seq_bl, k_seq_int, k_seq_str, k_seq_tup, k_seq_lst, k_seq_emp, k_sz0, k_sz1, k_sz2, k_sz3, k_sz4, k_sz5, k_sz6, k_sz7, k_sz8, k_sz9, k_sz10, k_sz11, k_sz12, k_sz13, k_sz14, k_sz15, k_sz16, k_sz17, k_sz18, k_sz19, k_sz20, k_sz21, k_sz22, k_sz23, k_at0, k_at1, k_at2, k_at3, k_iteT, k_iteF, k_bt1, k_bt2, k_sa0, k_sa1, k_endn, k_endr, List.getElem?_cons_succ, List.getElem?_cons_zero, List.set_cons_succ, List.set_cons_zero, List.length_cons, List.length_nil, List.length_map, List.all_cons, List.all_nil, Nat.reduceAdd, Nat.zero_add, Bool.and_true, Bool.and_self, Option.some.injEq, Dt.int.injEq, Dt.bl.injEq, Dt.str.injEq, Dt.tup.injEq, Dt.lst.injEq, Sv.dat.injEq, Sv.own.injEq, exists_eq_left', exists_eq_left, exists_eq_right, exists_eq', exists_eq, if_true, if_false, Bool.not_false, Bool.not_true, Bool.not_not, true_and, and_true, false_and, and_false, exists_const, reduceCtorEq])

/-! ### the walk: excess, lost -/
def crossTo (ps : List T3) (k : Nat) : List T3 := (List.range k).flatMap (crossRow ps)
def crossIn (ps : List T3) (i k : Nat) : List T3 := (List.range k).flatMap fun j => crossT (pAt ps i) (pAt ps j)
theorem crossTo_succ (ps : List T3) (k : Nat) : crossTo ps (k + 1) = crossTo ps k ++ crossRow ps k := by
  unfold crossTo
  rw [List.range_succ, List.flatMap_append, List.flatMap_singleton]
theorem crossIn_succ (ps : List T3) (i k : Nat) : crossIn ps i (k + 1) = crossIn ps i k ++ crossT (pAt ps i) (pAt ps k) := by
  unfold crossIn
  rw [List.range_succ, List.flatMap_append, List.flatMap_singleton]
theorem crossIn_len (ps : List T3) (i : Nat) : ∀ k : Nat, (crossIn ps i k).length = 2 * k
  | 0 => rfl
  | k + 1 => by
    rw [crossIn_succ, List.length_append, crossIn_len ps i k]
    rfl
theorem crossTo_len (ps : List T3) : ∀ k : Nat, (crossTo ps k).length ≤ 2 * k * k
  | 0 => Nat.le_refl _
  | k + 1 => by
    rw [crossTo_succ, List.length_append]
    have h1 := crossTo_len ps k
    have h2 : (crossRow ps k).length = 2 * k := crossIn_len ps k k
    have h3 : 2 * (k + 1) * (k + 1) = 2 * k * k + 4 * k + 2 := by grind
    omega
/-- a book of a small width, or with few tests and prices -/
def ModE (b : Book) : Prop := b.w ≤ 60 ∨ (b.w ≤ 130 ∧ (endTests b).length ≤ 61)
def S_cross_tests {Ω : Type} : Spc Ω := pureS (ι := List T3) (fun i => [.tup (i.map d3)]) (fun i => i.length ≤ 6) fun i => .lst ((crossA i).map d3)
def S_end_shapes {Ω : Type} : Spc Ω := pureS (ι := Book) (fun b => [dB b]) (fun b => BookOk b ∧ ModE b) fun b => .lst ((endsA b.w (endTests b)).map dS)
def S_rooms {Ω : Type} : Spc Ω := pureS (ι := Book × (Int × Int)) (fun i => [dB i.1, dS i.2]) (fun i => BookOk i.1 ∧ IsSh i.1.w i.2) fun i => dS (ownR i.1 i.2, leastR i.1 i.2)
def lowF (top bot : Int) : Int × Int := (top / (Nat.gcd top.toNat bot.toNat : Nat), bot / (Nat.gcd top.toNat bot.toNat : Nat))
def S_lowest {Ω : Type} : Spc Ω := pureS (ι := Int × Int) (fun i => [.int i.1, .int i.2]) (fun i => (0 ≤ i.1 ∧ i.1 < 2 ^ 50) ∧ (1 ≤ i.2 ∧ i.2 < 2 ^ 50)) fun i => dS (lowF i.1 i.2)
def S_law_divided {Ω : Type} : Spc Ω := S_lowest
def foldE (b : Book) (l : List (Int × Int)) : Int × Int × (Int × Int) := l.foldl (keepG (gtE b) (mkE b)) E0
def foldL (b : Book) (l : List (Int × Int)) : Int × (Int × Int) := l.foldl (keepG (gtL b) (mkL b)) L0
def excessD (b : Book) : Dt := .tup [dS (lowF (foldE b (shapes b.w)).1 (foldE b (shapes b.w)).2.1), dS (foldE b (shapes b.w)).2.2]
def lostD (b : Book) : Dt := .tup [.int (foldL b (shapes b.w)).1, dS (foldL b (shapes b.w)).2]
def S_excess {Ω : Type} : Spc Ω := pureS (ι := Book) (fun b => [dB b]) (fun b => BookOk b ∧ ModE b) fun b => excessD b
def S_lost {Ω : Type} : Spc Ω := pureS (ι := Book) (fun b => [dB b]) (fun b => BookOk b ∧ ModE b) fun b => lostD b
abbrev p_cross_tests {Ω : Type} : DS Ω :=
  (wSeq (wOwn 1 (wLst wNil))
  (wSeq (wFor (.one 2) (wiR1 (wF fLen (wVar 0))) (wFor (.one 3) (wiR1 (wVar 2)) (wSeq (wSet 4 (wL (wLc [5, 6] (.many [5, 6]) (wiZip (wOp fIx (wVar 0) (wVar 2)) (wOp fIx (wVar 0) (wVar 3))) wYes (wOp fSub (wVar 5) (wVar 6)))))
  (wExt 1 (wLst (wCons (wTup (wCons (wOp fIx (wVar 4) (wC (.int 1))) (wCons (wOp fIx (wVar 4) (wC (.int 2))) (wCons (wOp fSub (wC (.int 0)) (wOp fIx (wVar 4) (wC (.int 0)))) wNil)))) (wCons (wTup (wCons (wOp fSub (wC (.int 0)) (wOp fIx (wVar 4) (wC (.int 1)))) (wCons (wOp fSub (wC (.int 0)) (wOp fIx (wVar 4) (wC (.int 2)))) (wCons (wOp fIx (wVar 4) (wC (.int 0))) wNil)))) wNil)))))))
  (wFrz 1 (wRet (wVar 1)))))
abbrev p_end_shapes {Ω : Type} : DS Ω :=
  (wSeq (wParOD 1 2 (wLst wNil) (wOp fAdd (wCall S_tests_of (wCons (wOp fIx (wVar 0) (wC (.int 2))) wNil)) (wCall S_cross_tests (wCons (wOp fIx (wVar 0) (wC (.int 1))) wNil))))
  (wSeq (wFor (.one 3) (wiR1 (wOp fAdd (wOp fIx (wVar 0) (wC (.int 0))) (wC (.int 1)))) (wFor (.many [4, 5]) (wiSeq (wCall S_stretches (wCons (wOp fIx (wVar 0) (wC (.int 0))) (wCons (wVar 3) (wCons (wVar 2) wNil))))) (wExt 1 (wLst (wCons (wTup (wCons (wVar 3) (wCons (wVar 4) wNil))) (wCons (wTup (wCons (wVar 3) (wCons (wVar 5) wNil))) wNil))))))
  (wFrz 1 (wRet (wVar 1)))))
abbrev p_rooms {Ω : Type} : DS Ω :=
  (wSeq (wSet 2 (wCall S_room_at (wCons (wOp fIx (wOp fIx (wVar 0) (wC (.int 1))) (wCall S_kept (wCons (wVar 0) (wCons (wVar 1) wNil)))) (wCons (wVar 1) wNil))))
  (wRet (wTup (wCons (wVar 2) (wCons (wF fMin1 (wL (wLc [3] (.one 3) (wiSeq (wOp fIx (wVar 0) (wC (.int 1)))) wYes (wCall S_room_at (wCons (wVar 3) (wCons (wVar 1) wNil)))))) wNil)))))
abbrev p_lowest {Ω : Type} : DS Ω :=
  (wSeq (wPar 2 3 (wCons (wF fAbs (wVar 0)) (wCons (wVar 1) wNil)))
  (wSeq (wWhile (wTV (wOp fNe (wVar 3) (wC (.int 0)))) (wPar 2 3 (wCons (wVar 3) (wCons (wOp fMod (wVar 2) (wVar 3)) wNil))))
  (wRet (wTup (wCons (wOp fDiv (wVar 0) (wVar 2)) (wCons (wOp fDiv (wVar 1) (wVar 2)) wNil))))))
abbrev p_excess {Ω : Type} : DS Ω :=
  (wSeq (wUnp [1, 2] (wTup (wCons (wTup (wCons (wC (.int 0)) (wCons (wC (.int 1)) wNil))) (wCons (wTup (wCons (wC (.int 0)) (wCons (wC (.int 0)) wNil))) wNil))))
  (wSeq (wFor (.one 3) (wiSeq (wCall S_end_shapes (wCons (wVar 0) wNil))) (wSeq (wUnp [4, 5] (wCall S_rooms (wCons (wVar 0) (wCons (wVar 3) wNil))))
  (wIfS (wTV (wOp fGt (wOp fMul (wVar 4) (wOp fIx (wVar 1) (wC (.int 1)))) (wOp fMul (wOp fIx (wVar 1) (wC (.int 0))) (wVar 5)))) (wPar 1 2 (wCons (wTup (wCons (wVar 4) (wCons (wVar 5) wNil))) (wCons (wVar 3) wNil))) wNext)))
  (wRet (wTup (wCons (wCall S_lowest (wCons (wOp fIx (wVar 1) (wC (.int 0))) (wCons (wOp fIx (wVar 1) (wC (.int 1))) wNil))) (wCons (wVar 2) wNil))))))
abbrev p_lost {Ω : Type} : DS Ω :=
  (wSeq (wUnp [1, 2] (wTup (wCons (wNeg (wC (.int 1))) (wCons (wTup (wCons (wC (.int 0)) (wCons (wC (.int 0)) wNil))) wNil))))
  (wSeq (wFor (.one 3) (wiSeq (wCall S_end_shapes (wCons (wVar 0) wNil))) (wSeq (wUnp [4, 5] (wCall S_rooms (wCons (wVar 0) (wCons (wVar 3) wNil))))
  (wIfS (wTV (wOp fGt (wOp fSub (wVar 4) (wVar 5)) (wVar 1))) (wPar 1 2 (wCons (wOp fSub (wVar 4) (wVar 5)) (wCons (wVar 3) wNil))) wNext)))
  (wRet (wTup (wCons (wVar 1) (wCons (wVar 2) wNil))))))
abbrev p_law_divided {Ω : Type} : DS Ω := p_lowest
theorem idx_range {n i y : Nat} (h : (List.range n)[i]? = some y) : y = i ∧ i < n := by
  obtain ⟨a, b⟩ := List.getElem?_eq_some_iff.mp h
  rw [List.getElem_range] at b
  rw [List.length_range] at a
  exact ⟨b.symm, a⟩
theorem rngN0 (y : Nat) : rngN 0 y = .int (y : Int) := congrArg Dt.int (Int.zero_add _)
theorem pAt_at {ps : List T3} {i : Nat} (h : i < ps.length) : ps[i]? = some (pAt ps i) := by
  unfold pAt
  rw [List.getElem?_eq_getElem h]
  rfl
theorem m_cross_tests {Ω : Type} : ∀ ds (w : Ω) C, S_cross_tests.run ds w C → p_cross_tests (endD C) (startD 7 ds) w := by
  rintro ds w C ⟨ps, rfl, hl, q⟩
  replace hl : ps.length ≤ 6 := hl
  replace q : C (.lst ((crossA ps).map d3)) w := q
  show p_cross_tests _ [some (.dat (.tup (ps.map d3))), none, none, none, none, none, none] _
  unfold p_cross_tests
  walk_at "ck"
  refine ⟨by omega, by omega, ?_⟩
  rw [rngD_eq, Int.toNat_natCast]
  refine loop_map (rngN 0) (List.range ps.length) (fun k s => ∃ x2 x3 x4, s = [some (.dat (.tup (ps.map d3))), some (.own ((crossTo ps k).map d3)), x2, x3, x4, none, none]) (fun _ => false) (fun i y s hy hb2 hj => ?_) ⟨_, _, _, rfl⟩ (fun hb s hj => ?_)
  · obtain ⟨x2, x3, x4, rfl⟩ := hj
    obtain ⟨rfl, hlt⟩ := idx_range hy
    rw [rngN0]
    have l0 := crossTo_len ps y
    have l1 : 2 * y * y ≤ 2 * 6 * 6 := Nat.mul_le_mul (by omega) (by omega)
    refine ⟨_, rfl, fun N hN => ?_⟩
    walk_at "ck"
    refine ⟨by omega, by omega, ?_⟩
    rw [rngD_eq, Int.toNat_natCast]
    refine loop_map (rngN 0) (List.range y) (fun k s => ∃ x3 x4, s = [some (.dat (.tup (ps.map d3))), some (.own ((crossTo ps y ++ crossIn ps y k).map d3)), some (.dat (.int y)), x3, x4, none, none]) (fun _ => false) (fun j z s hz hb3 hj => ?_) ⟨_, _, by unfold crossIn; rw [List.range_zero, List.flatMap_nil, List.append_nil]⟩ (fun hb s hj => ?_)
    · obtain ⟨x3, x4, rfl⟩ := hj
      obtain ⟨rfl, hlt2⟩ := idx_range hz
      rw [rngN0]
      have l2 := crossIn_len ps y z
      refine ⟨_, rfl, fun N2 hN2 => ?_⟩
      walk_at "ck"
      have e1 : L2.atI (ps.map d3) (y : Int) = some (d3 (pAt ps y)) := atI_nat (by rw [List.getElem?_map, pAt_at hlt]; rfl)
      have e2 : L2.atI (ps.map d3) (z : Int) = some (d3 (pAt ps z)) := atI_nat (by rw [List.getElem?_map, pAt_at (by omega)]; rfl)
      refine ⟨_, e1, _, e2, ?_⟩
      rw [crossIn_succ, ← List.append_assoc, List.map_append] at hN2
      generalize pAt ps y = P at hN2 ⊢
      generalize pAt ps z = Q at hN2 ⊢
      refine ⟨[.int P.a, .int P.b, .int P.c], [.int Q.a, .int Q.b, .int Q.c], .inr ⟨rfl, rfl⟩, ?_⟩
      have ez : zipD [Dt.int P.a, .int P.b, .int P.c] [.int Q.a, .int Q.b, .int Q.c] = [(P.a, Q.a), (P.b, Q.b), (P.c, Q.c)].map dS := rfl
      rw [ez]
      refine ⟨size1M (by simp), lc_map dS (fun s => .int (s.1 - s.2)) _ (fun s hs => ⟨_, rfl, fun C' h => ?_⟩) ?_⟩
      · walk_at "ck"
        exact h
      · refine ⟨_, k_at1, _, k_at2, _, k_at0, ?_⟩
        walk_at "ck"
        refine ⟨_, k_at1, ?_⟩
        walk_at "ck"
        refine ⟨_, k_at2, ?_⟩
        walk_at "ck"
        refine ⟨_, k_at0, ?_⟩
        walk_at "ck"
        exact ⟨size1M (by rw [List.length_append]; omega), hN2 rfl _ ⟨_, _, rfl⟩⟩
    · obtain ⟨x3, x4, rfl⟩ := hj
      rw [List.length_range]
      rw [crossTo_succ] at hN
      exact hN rfl _ ⟨_, _, _, rfl⟩
  · obtain ⟨x2, x3, x4, rfl⟩ := hj
    rw [List.length_range]
    walk_at "ck"
    exact q
def endsTo (w : Int) (ts : List T3) (k : Nat) : List (Int × Int) := (List.range k).flatMap fun (m : Nat) => (stretchA w m ts).flatMap (endsOf m)
theorem endsTo_succ (w : Int) (ts : List T3) (k : Nat) : endsTo w ts (k + 1) = endsTo w ts k ++ (stretchA w k ts).flatMap (endsOf k) := by
  unfold endsTo
  rw [List.range_succ, List.flatMap_append, List.flatMap_singleton]
theorem endsOf_len (m : Int) : ∀ l : List (Int × Int), (l.flatMap (endsOf m)).length = 2 * l.length
  | [] => rfl
  | p :: l => by
    rw [List.flatMap_cons, List.length_append, endsOf_len m l, List.length_cons]
    show 2 + _ = _
    omega
theorem endsTo_len {w : Int} {ts : List T3} (h : Few w ts.length) (hw : 0 ≤ w) : ∀ k : Nat, (k : Int) ≤ w + 1 → (endsTo w ts k).length ≤ 124 * k
  | 0, _ => Nat.zero_le _
  | k + 1, hk => by
    rw [endsTo_succ, List.length_append, endsOf_len]
    have ih := endsTo_len h hw k (by omega)
    obtain ⟨a, b⟩ := stretch_len (ts := ts) (w := w) (m := (k : Int)) (by omega) (by omega)
    have := few_len h hw hk a b
    omega
theorem cross_bd {b : Book} (ho : BookOk b) : ∀ t ∈ crossA b.ps, Bd3 t := fun t ht => by
  obtain ⟨i, hi, ht⟩ := List.mem_flatMap.mp ht
  obtain ⟨j, hj, ht⟩ := List.mem_flatMap.mp ht
  have hi := List.mem_range.mp hi
  have hj := List.mem_range.mp hj
  obtain ⟨⟨a1, a2⟩, ⟨a3, a4⟩, ⟨a5, a6⟩, _⟩ := ho.pr _ (List.mem_of_getElem? (pAt_at (ps := b.ps) hi))
  obtain ⟨⟨b1, b2⟩, ⟨b3, b4⟩, ⟨b5, b6⟩, _⟩ := ho.pr _ (List.mem_of_getElem? (pAt_at (ps := b.ps) (i := j) (by omega)))
  unfold crossT at ht
  simp only [List.mem_cons, List.not_mem_nil, or_false] at ht
  rcases ht with rfl | rfl <;> exact ⟨⟨by dsimp only; omega, by dsimp only; omega⟩, ⟨by dsimp only; omega, by dsimp only; omega⟩, by dsimp only; omega, by dsimp only; omega⟩
theorem endTests_len {b : Book} (ho : BookOk b) : (endTests b).length ≤ 122 := by
  unfold endTests
  rw [List.length_append]
  have h1 := tests_len ho
  have h2 : (crossA b.ps).length ≤ 2 * b.ps.length * b.ps.length := crossTo_len b.ps b.ps.length
  have h3 := ho.ps.2
  have h4 : 2 * b.ps.length * b.ps.length ≤ 2 * 6 * 6 := Nat.mul_le_mul (by omega) h3
  omega
theorem endTests_bd {b : Book} (ho : BookOk b) : ∀ t ∈ endTests b, Bd3 t := fun t ht => by
  rcases List.mem_append.mp ht with z | z
  · exact tests_bd ho t z
  · exact cross_bd ho t z
theorem m_end_shapes {Ω : Type} : ∀ ds (w : Ω) C, S_end_shapes.run ds w C → p_end_shapes (endD C) (startD 6 ds) w := by
  rintro ds w C ⟨b, rfl, ⟨ho, hw⟩, q⟩
  replace q : C (.lst ((endsTo b.w (endTests b) (b.w + 1).toNat).map dS)) w := q
  obtain ⟨w1, w2⟩ := ho.w
  have hw130 : b.w ≤ 130 := by unfold ModE at hw; omega
  have htl := endTests_len ho
  have ht1 := tests_len ho
  have hfew : Few b.w (endTests b).length := ⟨by omega, by unfold ModE at hw; omega⟩
  have hcl : (crossA b.ps).length ≤ 122 := by
    unfold endTests at htl
    rw [List.length_append] at htl
    omega
  show p_end_shapes _ [some (.dat (dB b)), none, none, none, none, none] _
  unfold p_end_shapes dB
  walk_at "ck"
  refine use_pure b.rs (by show _ ≤ 10000; omega) ?_
  refine use_pure b.ps (by show _ ≤ 6; exact ho.ps.2) ?_
  walk_at "ck"
  have e1 : (testsOf b.rs).map d3 ++ (crossA b.ps).map d3 = (endTests b).map d3 := List.map_append.symm
  rw [e1]
  refine ⟨size1M (by omega), by omega, by omega, ?_⟩
  rw [rngD_eq]
  refine loop_map (rngN 0) (List.range (b.w + 1).toNat) (fun k s => ∃ x3 x4 x5, s = [some (.dat (dB b)), some (.own ((endsTo b.w (endTests b) k).map dS)), some (.dat (.lst ((endTests b).map d3))), x3, x4, x5]) (fun _ => false) (fun i y s hy hb2 hj => ?_) ⟨_, _, _, rfl⟩ (fun hb s hj => ?_)
  · obtain ⟨x3, x4, x5, rfl⟩ := hj
    obtain ⟨rfl, hlt⟩ := idx_range hy
    rw [rngN0]
    refine ⟨_, rfl, fun N hN => ?_⟩
    unfold dB
    walk_at "ck"
    refine use_pure (b.w, (y : Int), endTests b) ⟨⟨by show (0 : Int) ≤ y; omega, by show (y : Int) ≤ b.w; omega⟩, hfew, endTests_bd ho⟩ ?_
    obtain ⟨sl1, sl2⟩ := stretch_len (ts := endTests b) (w := b.w) (m := (y : Int)) (by omega) (by omega)
    have sl3 := few_len hfew (by omega) (k := y) (by omega) sl1 sl2
    have l1 := endsTo_len hfew (by omega) y (by omega)
    walk_at "ck"
    refine loop_pre dS (stretchA b.w y (endTests b)) (fun pre s => ∃ x4 x5, s = [some (.dat (dB b)), some (.own ((endsTo b.w (endTests b) y ++ pre.flatMap (endsOf y)).map dS)), some (.dat (.lst ((endTests b).map d3))), some (.dat (.int y)), x4, x5]) (fun pre p suf sl e hj => ?_) (fun s hs => ?_) _ [] rfl ⟨_, _, by rw [List.flatMap_nil, List.append_nil]; rfl⟩
    · obtain ⟨x4, x5, rfl⟩ := hj
      have hpl : pre.length ≤ 62 := by
        have := congrArg List.length e
        rw [List.length_append, List.length_cons] at this
        omega
      have hpl2 := endsOf_len y pre
      refine ⟨_, rfl, fun N2 hN2 => ?_⟩
      walk_at "ck"
      rw [List.flatMap_append, ← List.append_assoc, List.map_append] at hN2
      exact ⟨size1M (by rw [List.length_append]; omega), hN2 _ ⟨_, _, rfl⟩⟩
    · obtain ⟨x4, x5, rfl⟩ := hs
      rw [endsTo_succ] at hN
      exact hN rfl _ ⟨_, _, _, rfl⟩
  · obtain ⟨x3, x4, x5, rfl⟩ := hj
    rw [List.length_range]
    walk_at "ck"
    exact q
theorem m_rooms {Ω : Type} : ∀ ds (w : Ω) C, S_rooms.run ds w C → p_rooms (endD C) (startD 4 ds) w := by
  rintro ds w C ⟨⟨b, s⟩, rfl, ⟨ho, hs⟩, q⟩
  replace ho : BookOk b := ho
  replace hs : IsSh b.w s := hs
  replace q : C (dS (ownR b s, leastR b s)) w := q
  obtain ⟨w1, w2⟩ := ho.w
  have hbd := sh_bd hs w2 w1
  show p_rooms _ [some (.dat (dB b)), some (.dat (dS s)), none, none] _
  unfold p_rooms dB
  walk_at "ck"
  refine use_pure (b, s) ⟨ho.bd, hbd⟩ ?_
  obtain ⟨p, hp, hr⟩ := room_of ho.form s
  have hkf := kept_form ho.form s
  have hpm := List.mem_of_getElem? hp
  refine ⟨d3 p, atI_int hkf.1 (by rw [List.getElem?_map, hp]; rfl), ?_⟩
  refine use_pure (p, s) ⟨(ho.pr p hpm).bd, hbd⟩ ?_
  have eo : ownR b s = roomAt p s := by
    unfold ownR
    rw [hr]
    rfl
  rw [eo] at q
  walk_at "ck"
  have hpl := ho.ps
  refine ⟨size1M (by omega), lc_map d3 (fun p => .int (roomAt p s)) b.ps (fun p hp => ⟨_, rfl, fun C' h => ?_⟩) ?_⟩
  · walk_at "ck"
    exact use_pure (p, s) ⟨(ho.pr p hp).bd, hbd⟩ h
  · refine ⟨b.ps.map fun p => roomAt p s, by rw [List.map_map]; rfl, by rw [List.length_map]; omega, fun m h1 h2 => ?_⟩
    rw [minL_uniq h1 h2]
    walk_at "ck"
    exact q
theorem m_lowest {Ω : Type} : ∀ ds (w : Ω) C, S_lowest.run ds w C → p_lowest (endD C) (startD 4 ds) w := by
  rintro ds w C ⟨⟨t, b⟩, rfl, ⟨⟨t0, t1⟩, b0, b1⟩, q⟩
  replace q : C (dS (lowF t b)) w := q
  dsimp only at t0 t1 b0 b1
  show p_lowest _ [some (.dat (.int t)), some (.dat (.int b)), none, none] _
  unfold p_lowest
  walk_at "ck"
  rw [if_neg (by omega)]
  refine ⟨fun n sl w' => w' = w ∧ ∃ x y : Nat, n = y ∧ sl = [some (.dat (.int t)), some (.dat (.int b)), some (.dat (.int x)), some (.dat (.int y))] ∧ Nat.gcd x y = Nat.gcd t.toNat b.toNat, ⟨b.toNat, rfl, t.toNat, b.toNat, rfl, by rw [show ((t.toNat : Nat) : Int) = t by omega, show ((b.toNat : Nat) : Int) = b by omega], rfl⟩, ?_⟩
  rintro n sl w' ⟨rfl, x, y, rfl, rfl, hg⟩
  walk_at "ck"
  refine ite2 (fun hd => ?_) (fun hd => ?_)
  · have hd : n ≠ 0 := by
      intro z
      subst z
      simp at hd
    refine ⟨by omega, ?_⟩
    refine ⟨x % n, Nat.mod_lt _ (by omega), n, rfl, ?_⟩
    rw [← hg, Nat.gcd_comm n, ← Nat.gcd_rec, Nat.gcd_comm]
  · have hd : n = 0 := by simpa using hd
    subst hd
    rw [Nat.gcd_zero_right] at hg
    unfold lowF at q
    rw [← hg] at q
    have hgb : x ≤ b.toNat := by rw [hg]; exact Nat.gcd_le_right _ (by omega)
    have hg0 : 0 < x := by rw [hg]; exact Nat.gcd_pos_of_pos_right _ (by omega)
    refine ⟨divw60 (by omega) (by omega), divw60 (by omega) (by omega), q⟩
theorem m_law_divided {Ω : Type} : ∀ ds (w : Ω) C, S_law_divided.run ds w C → p_law_divided (endD C) (startD 4 ds) w := m_lowest
theorem own_bd {b : Book} (ho : BookOk b) {s : Int × Int} (hs : IsSh b.w s) : 1 ≤ ownR b s ∧ ownR b s < 2 ^ 40 := by
  obtain ⟨p, hp, hr⟩ := room_of ho.form s
  have hpm := List.mem_of_getElem? hp
  have h1 := (roomAt_bd (ho.pr p hpm) hs ho.w.2 ho.w.1).2
  have h2 := (ho.pr p hpm).room s hs
  have eo : ownR b s = roomAt p s := by
    unfold ownR
    rw [hr]
    rfl
  rw [eo]
  exact ⟨h2, h1⟩
theorem least_bd {b : Book} (ho : BookOk b) {s : Int × Int} (hs : IsSh b.w s) : 1 ≤ leastR b s ∧ leastR b s < 2 ^ 40 := by
  refine ⟨least_pos ho hs, ?_⟩
  have hne : b.ps.map (fun t => roomAt t s) ≠ [] := by
    have := ho.ps.1
    intro e
    have := congrArg List.length e
    rw [List.length_map] at this
    have e2 : b.ps.length = 0 := by rw [this]; rfl
    omega
  obtain ⟨hm, _⟩ := minL_spec hne
  obtain ⟨Q, hQ, eQ⟩ := List.mem_map.mp hm
  have := (roomAt_bd (ho.pr Q hQ) hs ho.w.2 ho.w.1).2
  unfold leastR
  rw [← eQ]
  exact this
/-- what a fold over shapes keeps -/
structure OkE (b : Book) (s : Int × Int × (Int × Int)) : Prop where
  n0 : 0 ≤ s.1
  n1 : s.1 < 2 ^ 40
  d0 : 1 ≤ s.2.1
  d1 : s.2.1 < 2 ^ 40
  sh : IsSh b.w s.2.2
theorem okE_step {b : Book} (ho : BookOk b) {s : Int × Int × (Int × Int)} {x : Int × Int} (hx : IsSh b.w x) (h : OkE b s) : OkE b (keepG (gtE b) (mkE b) s x) := by
  unfold keepG
  split
  · obtain ⟨a, c⟩ := own_bd ho hx
    obtain ⟨d, e⟩ := least_bd ho hx
    exact ⟨by show 0 ≤ ownR b x; omega, c, d, e, hx⟩
  · exact h
theorem okE_fold {b : Book} (ho : BookOk b) {l : List (Int × Int)} (hl : ∀ x ∈ l, IsSh b.w x) : OkE b (foldE b l) :=
  fold_ok (ok := OkE b) l (fun x hx s hs => okE_step ho (hl x hx) hs) E0 ⟨by decide, by decide, by decide, by decide, .inl ⟨rfl, rfl⟩⟩
structure OkL (b : Book) (s : Int × (Int × Int)) : Prop where
  n0 : -(2 ^ 41) < s.1
  n1 : s.1 < 2 ^ 41
  sh : IsSh b.w s.2
theorem okL_fold {b : Book} (ho : BookOk b) {l : List (Int × Int)} (hl : ∀ x ∈ l, IsSh b.w x) : OkL b (foldL b l) := by
  refine fold_ok (ok := OkL b) l (fun x hx s hs => ?_) L0 ⟨by decide, by decide, .inl ⟨rfl, rfl⟩⟩
  unfold keepG
  split
  · obtain ⟨a, c⟩ := own_bd ho (hl x hx)
    obtain ⟨d, e⟩ := least_bd ho (hl x hx)
    exact ⟨by show -(2 ^ 41) < ownR b x - leastR b x; omega, by show ownR b x - leastR b x < 2 ^ 41; omega, hl x hx⟩
  · exact hs
theorem ends_sh {b : Book} (ho : BookOk b) (ts : List T3) : ∀ x ∈ endsA b.w ts, IsSh b.w x := fun x hx => by
  obtain ⟨m, hm, hx⟩ := List.mem_flatMap.mp hx
  have hm := List.mem_range.mp hm
  obtain ⟨p, hp, hx⟩ := List.mem_flatMap.mp hx
  obtain ⟨q1, q2, q3, _⟩ := stretch_ok (by omega) (by omega) hp
  unfold endsOf at hx
  simp only [List.mem_cons, List.not_mem_nil, or_false] at hx
  rcases hx with rfl | rfl
  · exact runs_sh (by omega) (by omega) q1 (by omega)
  · exact runs_sh (by omega) (by omega) (by omega) q3
theorem foldE_app (b : Book) (l : List (Int × Int)) (x : Int × Int) : foldE b (l ++ [x]) = keepG (gtE b) (mkE b) (foldE b l) x := by
  unfold foldE
  rw [List.foldl_append]
  rfl
theorem foldL_app (b : Book) (l : List (Int × Int)) (x : Int × Int) : foldL b (l ++ [x]) = keepG (gtL b) (mkL b) (foldL b l) x := by
  unfold foldL
  rw [List.foldl_append]
  rfl
theorem m_excess {Ω : Type} : ∀ ds (w : Ω) C, S_excess.run ds w C → p_excess (endD C) (startD 6 ds) w := by
  rintro ds w C ⟨b, rfl, ⟨ho, hw⟩, q⟩
  replace q : C (excessD b) w := q
  have hsh := ends_sh ho (endTests b)
  show p_excess _ [some (.dat (dB b)), none, none, none, none, none] _
  unfold p_excess
  walk_at "ck"
  refine use_pure b ⟨ho, hw⟩ ?_
  walk_at "ck"
  refine loop_pre dS (endsA b.w (endTests b)) (fun pre s => ∃ x3 x4 x5, s = [some (.dat (dB b)), some (.dat (dS ((foldE b pre).1, (foldE b pre).2.1))), some (.dat (dS (foldE b pre).2.2)), x3, x4, x5]) (fun pre x suf sl e hj => ?_) (fun s hs => ?_) _ [] rfl ⟨_, _, _, rfl⟩
  · obtain ⟨x3, x4, x5, rfl⟩ := hj
    have hx := hsh x (by rw [← e]; simp)
    have ok := okE_fold ho (l := pre) fun y hy => hsh y (by rw [← e]; simp [hy])
    obtain ⟨o1, o2⟩ := own_bd ho hx
    obtain ⟨l1, l2⟩ := least_bd ho hx
    refine ⟨_, rfl, fun N hN => ?_⟩
    rw [foldE_app] at hN
    generalize foldE b pre = st at ok hN ⊢
    obtain ⟨k1, k2, k3, k4, k5⟩ := ok
    walk_at "ck"
    refine use_pure (b, x) ⟨ho, hx⟩ ?_
    unfold dS
    walk_at "ck"
    refine ⟨mulx60 (by omega) (by omega) (by omega) (by omega), mulx60 (by omega) (by omega) (by omega) (by omega), ite2 (fun h => ?_) (fun h => ?_)⟩
    · have e2 : keepG (gtE b) (mkE b) st x = mkE b x := if_pos h
      rw [e2] at hN
      exact hN _ ⟨_, _, _, rfl⟩
    · have e2 : keepG (gtE b) (mkE b) st x = st := if_neg h
      rw [e2] at hN
      exact hN _ ⟨_, _, _, rfl⟩
  · obtain ⟨x3, x4, x5, rfl⟩ := hs
    unfold excessD at q
    have ef : foldE b (shapes b.w) = foldE b (endsA b.w (endTests b)) := excess_ends ho
    have ok := okE_fold ho (l := endsA b.w (endTests b)) hsh
    rw [ef] at q
    generalize foldE b (endsA b.w (endTests b)) = st at q ok ⊢
    obtain ⟨k1, k2, k3, k4, k5⟩ := ok
    unfold dS
    walk_at "ck"
    exact use_pure (st.1, st.2.1) ⟨⟨k1, by dsimp only; omega⟩, k3, by dsimp only; omega⟩ q
theorem m_lost {Ω : Type} : ∀ ds (w : Ω) C, S_lost.run ds w C → p_lost (endD C) (startD 6 ds) w := by
  rintro ds w C ⟨b, rfl, ⟨ho, hw⟩, q⟩
  replace q : C (lostD b) w := q
  have hsh := ends_sh ho (endTests b)
  show p_lost _ [some (.dat (dB b)), none, none, none, none, none] _
  unfold p_lost
  walk_at "ck"
  refine use_pure b ⟨ho, hw⟩ ?_
  walk_at "ck"
  refine loop_pre dS (endsA b.w (endTests b)) (fun pre s => ∃ x3 x4 x5, s = [some (.dat (dB b)), some (.dat (.int (foldL b pre).1)), some (.dat (dS (foldL b pre).2)), x3, x4, x5]) (fun pre x suf sl e hj => ?_) (fun s hs => ?_) _ [] rfl ⟨_, _, _, rfl⟩
  · obtain ⟨x3, x4, x5, rfl⟩ := hj
    have hx := hsh x (by rw [← e]; simp)
    refine ⟨_, rfl, fun N hN => ?_⟩
    rw [foldL_app] at hN
    generalize foldL b pre = st at hN ⊢
    walk_at "ck"
    refine use_pure (b, x) ⟨ho, hx⟩ ?_
    unfold dS
    walk_at "ck"
    refine ite2 (fun h => ?_) (fun h => ?_)
    · have e2 : keepG (gtL b) (mkL b) st x = mkL b x := if_pos h
      rw [e2] at hN
      exact hN _ ⟨_, _, _, rfl⟩
    · have e2 : keepG (gtL b) (mkL b) st x = st := if_neg h
      rw [e2] at hN
      exact hN _ ⟨_, _, _, rfl⟩
  · obtain ⟨x3, x4, x5, rfl⟩ := hs
    unfold lostD at q
    have ef : foldL b (shapes b.w) = foldL b (endsA b.w (endTests b)) := lost_ends ho
    rw [ef] at q
    walk_at "ck"
    exact q
end Ck
namespace Ck
open PySem PySem.Spec PyProof.Rows L2
local macro_rules | `(tactic| walk_at "ck") => `(tactic| try simp only [wNext, wBrk, wCnt, wSeq, wRet, wRetN, wSet, wOwn, wDrop, wUnp, wPar, wIfS, wApp, wExt, wSetIx, wAug, wFrz, wFor, k_var, k_vk1, k_vk2, k_par, wC, wL, wOp, wOpL, wF, wFL, wNil, wCons, wTup, wLst, wTV, wTAnd, wTOr, wTNot, wAnd, wOr, wNot, wIfx, wIsN, wNotN, wChain, wO0, wO1, wSl, wCall, wIsi, wLr1, wLr2, wNeg, wLc, wYes, wiSeq, wiR1, wiR2, wiEnum, wiZip, noOwnB, wipeD, wEmp, wListZip, wSortSet, wRevL, wRevT, wOneB, k_mulT, k_add1, k_add2, k_add3, k_add4, k_addL, k_sub, k_mul1, k_mul2, k_mulL, k_div, k_mod, k_pow, k_cmp, k_eq, k_ne, k_ea1, k_ea2, k_ea3, k_ea4, k_in1, k_in2, k_in3, k_in4, k_ix1, k_ix2, k_ix3, k_sl1, k_sl2, k_len1, k_len2, k_len3, k_int1, k_int2, k_abs, k_tuple1, k_tuple2, k_list1, k_list2, k_min2, k_max2, k_non_non, k_ty_int_non, k_ty_bool_non, k_ty_tuple_non, k_ty_str_non, k_ty_list_non, k_non_bl, k_ty_int_bl, k_ty_bool_bl, k_ty_tuple_bl, k_ty_str_bl, k_ty_list_bl, k_non_int, k_ty_int_int, k_ty_bool_int, k_ty_tuple_int, k_ty_str_int, k_ty_list_int, k_non_str, k_ty_int_str, k_ty_bool_str, k_ty_tuple_str, k_ty_str_str, k_ty_list_str, k_non_tup, k_ty_int_tup, k_ty_bool_tup, k_ty_tuple_tup, k_ty_str_tup, k_ty_list_tup, k_non_lst, k_ty_int_lst, k_ty_bool_lst, k_ty_tuple_lst, k_ty_str_lst, k_ty_list_lst, k_non_emp, k_ty_int_emp, k_ty_bool_emp, k_ty_tuple_emp, k_ty_str_emp, k_ty_list_emp, k_seq_non, k_seq_bl, k_seq_int, k_seq_str, k_seq_tup, k_seq_lst, k_seq_emp, k_sz0, k_sz1, k_sz2, k_sz3, k_sz4, k_sz5, k_sz6, k_sz7, k_sz8, k_sz9, k_sz10, k_sz11, k_sz12, k_sz13, k_sz14, k_sz15, k_sz16, k_sz17, k_sz18, k_sz19, k_sz20, k_sz21, k_sz22, k_sz23, k_at0, k_at1, k_at2, k_at3, k_iteT, k_iteF, k_bt1, k_bt2, k_sa0, k_sa1, k_endn, k_endr, List.getElem?_cons_succ, List.getElem?_cons_zero, List.set_cons_succ, List.set_cons_zero, List.length_cons, List.length_nil, List.length_map, List.all_cons, List.all_nil, Nat.reduceAdd, Nat.zero_add, Bool.and_true, Bool.and_self, Option.some.injEq, Dt.int.injEq, Dt.bl.injEq, Dt.str.injEq, Dt.tup.injEq, Dt.lst.injEq, Sv.dat.injEq, Sv.own.injEq, exists_eq_left', exists_eq_left, exists_eq_right, exists_eq', exists_eq, if_true, if_false, Bool.not_false, Bool.not_true, Bool.not_not, true_and, and_true, false_and, and_false, exists_const, reduceCtorEq])

/-! ### how many sets have a shape -/
def ch : Nat → Nat → Nat
  | _, 0 => 1
  | 0, _ + 1 => 0
  | n + 1, k + 1 => ch n k + ch n (k + 1)
theorem ch_zero (n : Nat) : ch n 0 = 1 := by cases n <;> rfl
theorem ch_succ (n k : Nat) : ch (n + 1) (k + 1) = ch n k + ch n (k + 1) := rfl
theorem ch_none (k : Nat) : ch 0 (k + 1) = 0 := rfl
theorem ch_big : ∀ {n k : Nat}, n < k → ch n k = 0
  | _, 0, h => absurd h (Nat.not_lt_zero _)
  | 0, k + 1, _ => rfl
  | n + 1, k + 1, h => by rw [ch_succ, ch_big (by omega), ch_big (by omega)]
/-- (k + 1) (n over k + 1) = (n - k) (n over k) -/
theorem ch_step : ∀ (n k : Nat), ch n (k + 1) * (k + 1) + k * ch n k = n * ch n k
  | 0, 0 => rfl
  | 0, k + 1 => by rw [ch_none, ch_none, Nat.zero_mul, Nat.mul_zero, Nat.mul_zero]
  | n + 1, 0 => by
    have h := ch_step n 0
    rw [ch_zero, Nat.zero_mul, Nat.add_zero, Nat.mul_one] at h
    rw [ch_succ, ch_zero, ch_zero]
    omega
  | n + 1, k + 1 => by
    have h1 := ch_step n k
    have h2 := ch_step n (k + 1)
    rw [ch_succ n k, ch_succ n (k + 1)]
    generalize ch n k = a at *
    generalize ch n (k + 1) = b at *
    generalize ch n (k + 2) = c at *
    grind
/-- the number of sets of a shape -/
def T : Nat → Nat → Nat → Nat
  | _, m, 0 => if m = 0 then 1 else 0
  | _, 0, _ + 1 => 0
  | w, m + 1, r + 1 => ch m r * ch (w - m) (r + 1)
/-- those that hold the last place -/
def Bf : Nat → Nat → Nat → Nat
  | w, m + 1, r + 1 => if m + 1 ≤ w then ch m r * ch (w - (m + 1)) r else 0
  | _, _, _ => 0
theorem T_step (w m r : Nat) : T (w + 1) m r = T w m r + Bf (w + 1) m r := by
  cases r with
  | zero => cases m <;> rfl
  | succ r =>
    cases m with
    | zero => rfl
    | succ m =>
      show ch m r * ch (w + 1 - m) (r + 1) = ch m r * ch (w - m) (r + 1) + if m + 1 ≤ w + 1 then ch m r * ch (w + 1 - (m + 1)) r else 0
      by_cases h : m + 1 ≤ w + 1
      · rw [if_pos h, show w + 1 - m = (w - m) + 1 by omega, show w + 1 - (m + 1) = w - m by omega, ch_succ, Nat.mul_add, Nat.add_comm]
      · rw [if_neg h, show w + 1 - m = 0 by omega, show w - m = 0 by omega]
        exact (Nat.add_zero _).symm
/-- one place more, held -/
theorem B_step (w m r : Nat) : Bf (w + 1) (m + 1) r = Bf w m r + match r with | 0 => 0 | r + 1 => T w m r - Bf w m r := by
  cases r with
  | zero => cases m <;> rfl
  | succ r =>
    show (if m + 1 ≤ w + 1 then ch m r * ch (w + 1 - (m + 1)) r else 0) = Bf w m (r + 1) + (T w m r - Bf w m r)
    cases m with
    | zero =>
      rw [if_pos (by omega)]
      cases r with
      | zero => show ch 0 0 * ch (w + 1 - 1) 0 = 0 + (1 - 0); rw [ch_zero, ch_zero]
      | succ r => show ch 0 (r + 1) * _ = 0 + (0 - 0); rw [ch_none, Nat.zero_mul]
    | succ k =>
      cases r with
      | zero =>
        show (if k + 1 + 1 ≤ w + 1 then ch (k + 1) 0 * ch (w + 1 - (k + 1 + 1)) 0 else 0) = (if k + 1 ≤ w then ch k 0 * ch (w - (k + 1)) 0 else 0) + (0 - 0)
        simp only [ch_zero]
        by_cases h : k + 1 ≤ w
        · rw [if_pos h, if_pos (by omega)]
        · rw [if_neg h, if_neg (by omega)]
      | succ j =>
        show (if k + 1 + 1 ≤ w + 1 then ch (k + 1) (j + 1) * ch (w + 1 - (k + 1 + 1)) (j + 1) else 0) = (if k + 1 ≤ w then ch k (j + 1) * ch (w - (k + 1)) (j + 1) else 0) + (ch k j * ch (w - k) (j + 1) - if k + 1 ≤ w then ch k j * ch (w - (k + 1)) j else 0)
        by_cases h : k + 1 ≤ w
        · rw [if_pos h, if_pos h, if_pos (by omega), show w + 1 - (k + 1 + 1) = w - (k + 1) by omega, show w - k = (w - (k + 1)) + 1 by omega, ch_succ (w - (k + 1)) j, ch_succ k j, Nat.mul_add, Nat.add_mul, Nat.add_sub_cancel_left, Nat.add_comm]
        · rw [if_neg h, if_neg h, if_neg (by omega), show w - k = 0 by omega, ch_none]
          rfl
theorem B_le (w m r : Nat) : Bf w m r ≤ T w m r := by
  cases w with
  | zero =>
    cases m with
    | zero => exact Nat.zero_le _
    | succ m => cases r with
      | zero => exact Nat.zero_le _
      | succ r =>
        have e : Bf 0 (m + 1) (r + 1) = 0 := by
          show (if m + 1 ≤ 0 then ch m r * ch (0 - (m + 1)) r else 0) = 0
          rw [if_neg (by omega)]
        rw [e]
        exact Nat.zero_le _
  | succ w => rw [T_step]; exact Nat.le_add_left _ _
/-! ### all sets of a width -/
def setsTo : Nat → List (List Int)
  | 0 => [[]]
  | n + 1 => setsTo n ++ (setsTo n).map fun s => s ++ [(n : Int)]
theorem setsTo_ok : ∀ (n : Nat), ∀ s ∈ setsTo n, SetOf n s
  | 0, s, hs => by
    rw [List.mem_singleton.mp hs]
    exact ⟨List.Pairwise.nil, by simp⟩
  | n + 1, s, hs => by
    rcases List.mem_append.mp hs with z | z
    · have h := setsTo_ok n s z
      exact ⟨h.a, fun x hx => by have := h.b x hx; omega⟩
    · obtain ⟨t, ht, rfl⟩ := List.mem_map.mp z
      have h := setsTo_ok n t ht
      refine ⟨List.pairwise_append.mpr ⟨h.a, List.pairwise_singleton _ _, fun x hx y hy => ?_⟩, fun x hx => ?_⟩
      · rw [List.mem_singleton.mp hy]
        exact (h.b x hx).2
      · rcases List.mem_append.mp hx with z | z
        · have := h.b x z
          omega
        · rw [List.mem_singleton.mp z]
          omega
theorem starts_app {l : List Int} {x : Int} (h : ∀ y ∈ l, y < x) : starts (l ++ [x]) = starts l ++ if x - 1 ∈ l then [] else [x] := by
  unfold starts
  rw [List.filter_append]
  congr 1
  · refine List.filter_congr fun y hy => ?_
    have := h y hy
    rw [← decide_not, ← decide_not]
    refine decide_eq_decide.mpr ?_
    rw [List.mem_append, List.mem_singleton]
    constructor
    · intro k z
      exact k (.inl z)
    · rintro k (z | z)
      · exact k z
      · omega
  · have e : (x - 1 ∈ l ++ [x]) ↔ x - 1 ∈ l := by
      rw [List.mem_append, List.mem_singleton]
      constructor
      · rintro (z | z)
        · exact z
        · omega
      · exact .inl
    by_cases k : x - 1 ∈ l
    · rw [if_pos k, List.filter_cons, decide_eq_true (e.mpr k)]
      rfl
    · rw [if_neg k, List.filter_cons, decide_eq_false fun z => k (e.mp z)]
      rfl
/-- sizes and runs as counts -/
def shN (s : List Int) : Nat × Nat := (s.length, (starts s).length)
def cnt (w m r : Nat) : Nat := (setsTo w).countP fun s => decide (shN s = (m, r))
def cntB (w m r : Nat) : Nat := (setsTo w).countP fun s => decide (shN s = (m, r)) && decide ((w : Int) - 1 ∈ s)
theorem shN_app {n : Nat} {s : List Int} (h : SetOf n s) : shN (s ++ [(n : Int)]) = (s.length + 1, (starts s).length + if (n : Int) - 1 ∈ s then 0 else 1) := by
  unfold shN
  rw [starts_app fun y hy => (h.b y hy).2, List.length_append, List.length_append]
  split <;> rfl
theorem cnt_split (w m r : Nat) : cntB w m r + (setsTo w).countP (fun s => decide (shN s = (m, r)) && !decide ((w : Int) - 1 ∈ s)) = cnt w m r := by
  unfold cntB cnt
  generalize setsTo w = l
  induction l with
  | nil => rfl
  | cons s l ih =>
    simp only [List.countP_cons]
    rw [← ih]
    by_cases h1 : shN s = (m, r) <;> by_cases h2 : (w : Int) - 1 ∈ s <;> simp [h1, h2] <;> omega
theorem cnt_closed : ∀ (w m r : Nat), cnt w m r = T w m r ∧ cntB w m r = Bf w m r
  | 0, m, r => by
    constructor
    · unfold cnt setsTo
      cases m with
      | zero => cases r <;> rfl
      | succ m =>
        cases r with
        | zero => simp [shN, T]
        | succ r =>
          have e : T 0 (m + 1) (r + 1) = 0 := by
            show ch m r * ch (0 - m) (r + 1) = 0
            rw [show 0 - m = 0 by omega, ch_none, Nat.mul_zero]
          rw [e]
          simp [shN]
    · unfold cntB setsTo
      have e : Bf 0 m r = 0 := by
        have := B_le 0 m r
        cases m with
        | zero => cases r <;> rfl
        | succ m => cases r with
          | zero => rfl
          | succ r =>
            show (if m + 1 ≤ 0 then ch m r * ch (0 - (m + 1)) r else 0) = 0
            rw [if_neg (by omega)]
      rw [e]
      simp
  | w + 1, m, r => by
    have ok := setsTo_ok w
    have hB : cntB (w + 1) m r = Bf (w + 1) m r := by
      have e1 : ((w + 1 : Nat) : Int) - 1 = (w : Int) := by omega
      have f1 : (setsTo w).countP (fun s => decide (shN s = (m, r)) && decide ((w : Int) ∈ s)) = 0 := by
        rw [List.countP_eq_zero]
        intro s hs
        have h := ok s hs
        have : (w : Int) ∉ s := fun z => by have := (h.b _ z).2; omega
        simp [this]
      have f2 : ((setsTo w).map fun s => s ++ [(w : Int)]).countP (fun s => decide (shN s = (m, r)) && decide ((w : Int) ∈ s)) = (setsTo w).countP fun s => decide (s.length + 1 = m ∧ ((starts s).length + if (w : Int) - 1 ∈ s then 0 else 1) = r) := by
        rw [List.countP_map]
        refine List.countP_congr fun s hs => ?_
        have h := ok s hs
        show (decide (shN (s ++ [(w : Int)]) = (m, r)) && decide ((w : Int) ∈ s ++ [(w : Int)])) = true ↔ _
        rw [shN_app h]
        simp
      unfold cntB
      rw [e1]
      show ((setsTo w) ++ (setsTo w).map fun s => s ++ [(w : Int)]).countP _ = _
      rw [List.countP_append, f1, f2, Nat.zero_add]
      cases m with
      | zero =>
        have : Bf (w + 1) 0 r = 0 := by cases r <;> rfl
        rw [this, List.countP_eq_zero]
        intro s _
        simp
      | succ m =>
        rw [B_step, ← (cnt_closed w m r).2]
        have f3 : (setsTo w).countP (fun s => decide (s.length + 1 = m + 1 ∧ ((starts s).length + if (w : Int) - 1 ∈ s then 0 else 1) = r)) = cntB w m r + (setsTo w).countP fun s => decide (s.length = m ∧ (starts s).length + 1 = r) && !decide ((w : Int) - 1 ∈ s) := by
          unfold cntB
          generalize setsTo w = l
          induction l with
          | nil => rfl
          | cons s l ih =>
            simp only [List.countP_cons]
            rw [ih]
            have e : (shN s = (m, r)) ↔ (s.length = m ∧ (starts s).length = r) := by unfold shN; rw [Prod.mk.injEq]
            by_cases h2 : (w : Int) - 1 ∈ s <;> simp [h2, e] <;> omega
        rw [f3]
        congr 1
        cases r with
        | zero =>
          rw [List.countP_eq_zero]
          intro s _
          simp
        | succ r =>
          show _ = T w m r - Bf w m r
          have c := cnt_split w m r
          rw [(cnt_closed w m r).1, (cnt_closed w m r).2] at c
          have f4 : (setsTo w).countP (fun s => decide (s.length = m ∧ (starts s).length + 1 = r + 1) && !decide ((w : Int) - 1 ∈ s)) = (setsTo w).countP fun s => decide (shN s = (m, r)) && !decide ((w : Int) - 1 ∈ s) := by
            refine List.countP_congr fun s _ => ?_
            unfold shN
            simp
          rw [f4]
          omega
    refine ⟨?_, hB⟩
    have hA : (setsTo (w + 1)).countP (fun s => decide (shN s = (m, r)) && !decide (((w + 1 : Nat) : Int) - 1 ∈ s)) = cnt w m r := by
      have e1 : ((w + 1 : Nat) : Int) - 1 = (w : Int) := by omega
      rw [e1]
      show ((setsTo w) ++ (setsTo w).map fun s => s ++ [(w : Int)]).countP _ = _
      rw [List.countP_append]
      have f1 : ((setsTo w).map fun s => s ++ [(w : Int)]).countP (fun s => decide (shN s = (m, r)) && !decide ((w : Int) ∈ s)) = 0 := by
        rw [List.countP_eq_zero]
        intro s hs
        obtain ⟨t, _, rfl⟩ := List.mem_map.mp hs
        simp
      rw [f1, Nat.add_zero]
      unfold cnt
      refine List.countP_congr fun s hs => ?_
      have h := ok s hs
      have : (w : Int) ∉ s := fun z => by have := (h.b _ z).2; omega
      simp [this]
    rw [← cnt_split, hB, hA, (cnt_closed w m r).1, T_step]
    exact Nat.add_comm _ _
/-! ### all shapes of one size -/
def sumN : Nat → (Nat → Nat) → Nat
  | 0, _ => 0
  | n + 1, f => sumN n f + f n
theorem sumN_congr {f g : Nat → Nat} : ∀ (n : Nat), (∀ k, k < n → f k = g k) → sumN n f = sumN n g
  | 0, _ => rfl
  | n + 1, h => by
    show sumN n f + f n = sumN n g + g n
    rw [sumN_congr n fun k hk => h k (by omega), h n (by omega)]
theorem sumN_add {f g : Nat → Nat} : ∀ n : Nat, sumN n (fun k => f k + g k) = sumN n f + sumN n g
  | 0 => rfl
  | n + 1 => by
    show sumN n (fun k => f k + g k) + (f n + g n) = (sumN n f + f n) + (sumN n g + g n)
    rw [sumN_add n]
    omega
theorem sumN_shift {f : Nat → Nat} : ∀ n : Nat, sumN (n + 1) (fun k => match k with | 0 => 0 | k + 1 => f k) = sumN n f
  | 0 => rfl
  | n + 1 => by
    show sumN (n + 1) (fun k => match k with | 0 => 0 | k + 1 => f k) + f n = sumN n f + f n
    rw [sumN_shift n]
theorem sumN_zero : ∀ n : Nat, sumN n (fun _ => 0) = 0
  | 0 => rfl
  | n + 1 => by
    show sumN n (fun _ => 0) + 0 = 0
    rw [sumN_zero n]
theorem T_far {w m r : Nat} (h : w < r) : T w m r = 0 := by
  cases r with
  | zero => omega
  | succ r =>
    cases m with
    | zero => rfl
    | succ m =>
      show ch m r * ch (w - m) (r + 1) = 0
      rw [ch_big (n := w - m) (k := r + 1) (by omega), Nat.mul_zero]
theorem B_sum (w m N : Nat) (h : w < N) : sumN (N + 1) (Bf (w + 1) (m + 1)) = sumN (N + 1) (T w m) := by
  have e1 : sumN (N + 1) (Bf (w + 1) (m + 1)) = sumN (N + 1) (fun r => Bf w m r + match r with | 0 => 0 | r + 1 => T w m r - Bf w m r) := sumN_congr _ fun r _ => B_step w m r
  have e2 : sumN (N + 1) (fun r => match r with | 0 => 0 | r + 1 => T w m r - Bf w m r) = sumN N fun r => T w m r - Bf w m r := sumN_shift N
  have e3 : sumN (N + 1) (fun r => T w m r - Bf w m r) = sumN N fun r => T w m r - Bf w m r := by
    show sumN N (fun r => T w m r - Bf w m r) + (T w m N - Bf w m N) = _
    rw [T_far h]
    omega
  rw [e1, sumN_add, e2, ← e3, ← sumN_add]
  exact sumN_congr _ fun r _ => by have := B_le w m r; omega
/-- all sets of one size -/
theorem T_sum : ∀ (w m N : Nat), w < N → sumN (N + 1) (T w m) = ch w m
  | 0, 0, N, h => by
    have : sumN (N + 1) (T 0 0) = 1 := by
      have e : ∀ n : Nat, sumN (n + 1) (T 0 0) = 1 := by
        intro n
        induction n with
        | zero => rfl
        | succ n ih => show sumN (n + 1) (T 0 0) + 0 = 1; rw [ih]
      exact e N
    rw [this]
    rfl
  | 0, m + 1, N, h => by
    rw [ch_none]
    refine Eq.trans (sumN_congr (g := fun _ => 0) _ fun r _ => ?_) (sumN_zero (N + 1))
    cases r with
    | zero => rfl
    | succ r => exact T_far (Nat.succ_pos r)
  | w + 1, 0, N, h => by
    rw [ch_zero]
    have e : ∀ n : Nat, sumN (n + 1) (T (w + 1) 0) = 1 := by
      intro n
      induction n with
      | zero => rfl
      | succ n ih => show sumN (n + 1) (T (w + 1) 0) + 0 = 1; rw [ih]
    exact e N
  | w + 1, m + 1, N, h => by
    have e : sumN (N + 1) (T (w + 1) (m + 1)) = sumN (N + 1) (fun r => T w (m + 1) r + Bf (w + 1) (m + 1) r) := sumN_congr _ fun r _ => T_step w (m + 1) r
    rw [e, sumN_add, B_sum w m N (by omega), T_sum w (m + 1) N (by omega), T_sum w m N (by omega), ch_succ]
    exact Nat.add_comm _ _
theorem ch_le : ∀ (n k : Nat), ch n k ≤ 2 ^ n
  | n, 0 => by rw [ch_zero]; exact Nat.one_le_two_pow
  | 0, k + 1 => Nat.zero_le _
  | n + 1, k + 1 => by
    have := ch_le n k
    have := ch_le n (k + 1)
    rw [ch_succ, Nat.pow_succ]
    omega
/-! ### the walk: choices, many -/
/-- how many choices: as the program has it -/
def chI (things some : Int) : Int := if 0 ≤ some ∧ some ≤ things then (ch things.toNat some.toNat : Nat) else 0
def S_choices {Ω : Type} : Spc Ω := pureS (ι := Int × Int) (fun i => [.int i.1, .int i.2]) (fun i => i.1 ≤ 1000) fun i => .int (chI i.1 i.2)
/-- how many sets have a shape -/
def manyI (w : Int) (s : Int × Int) : Int := if s.2 = 0 then (if s.1 = 0 then 1 else 0) else chI (s.1 - 1) (s.2 - 1) * chI (w - s.1 + 1) s.2
def S_many {Ω : Type} : Spc Ω := pureS (ι := Int × (Int × Int)) (fun i => [.int i.1, dS i.2]) (fun i => i.1 ≤ 900 ∧ 0 ≤ i.2.1 ∧ i.2.1 ≤ 900) fun i => .int (manyI i.1 i.2)
abbrev p_choices {Ω : Type} : DS Ω :=
  (wSeq (wIfS (wTNot (wTV (wChain (fun i j => decide (i ≤ j)) (fun i j => decide (i ≤ j)) (wC (.int 0)) (wVar 1) (wVar 0)))) (wRet (wC (.int 0))) wNext)
  (wSeq (wSet 2 (wC (.int 1)))
  (wSeq (wFor (.one 3) (wiR1 (wVar 1)) (wSet 2 (wOp fDiv (wOp fMul (wVar 2) (wOp fSub (wVar 0) (wVar 3))) (wOp fAdd (wVar 3) (wC (.int 1))))))
  (wRet (wVar 2)))))
abbrev p_many {Ω : Type} : DS Ω :=
  (wSeq (wUnp [2, 3] (wVar 1))
  (wSeq (wIfS (wTV (wOp fEq (wVar 3) (wC (.int 0)))) (wRet (wF fInt (wOp fEq (wVar 2) (wC (.int 0))))) wNext)
  (wRet (wOp fMul (wCall S_choices (wCons (wOp fSub (wVar 2) (wC (.int 1))) (wCons (wOp fSub (wVar 3) (wC (.int 1))) wNil))) (wCall S_choices (wCons (wOp fAdd (wOp fSub (wVar 0) (wVar 2)) (wC (.int 1))) (wCons (wVar 3) wNil)))))))
theorem ch_div {n k : Nat} (h : k ≤ n) : (ch n k : Int) * ((n : Int) - (k : Int)) / ((k : Int) + 1) = (ch n (k + 1) : Nat) := by
  have h1 := ch_step n k
  have h2 : (ch n (k + 1) : Int) * ((k : Int) + 1) + (k : Int) * (ch n k : Int) = (n : Int) * (ch n k : Int) := by exact_mod_cast h1
  have e : (ch n k : Int) * ((n : Int) - (k : Int)) = (ch n (k + 1) : Int) * ((k : Int) + 1) := by grind
  rw [e]
  exact Int.mul_ediv_cancel _ (by omega)
theorem ch_mulx {n k : Nat} (h : n ≤ 1000) {j : Int} (h1 : -(2 ^ 60) < j) (h2 : j < 2 ^ 60) : CMulX (ch n k : Int) j := by
  refine mulx_ok (a := 1001) (b := 60) ?_ (by omega) (by decide)
  have h3 := ch_le n k
  rw [Int.natAbs_natCast]
  exact Nat.lt_of_le_of_lt h3 (Nat.pow_lt_pow_right (by decide) (by omega))
theorem m_choices {Ω : Type} : ∀ ds (w : Ω) C, S_choices.run ds w C → p_choices (endD C) (startD 4 ds) w := by
  rintro ds w C ⟨⟨n, k⟩, rfl, hn, q⟩
  replace hn : n ≤ 1000 := hn
  replace q : C (.int (chI n k)) w := q
  show p_choices _ [some (.dat (.int n)), some (.dat (.int k)), none, none] _
  unfold p_choices
  walk_at "ck"
  unfold chI at q
  refine ⟨0, k, rfl, rfl, ite2 (fun h => ?_) (fun h => ?_)⟩
  · have h0 : 0 ≤ k := of_decide_eq_true h
    refine ite2 (fun h => ?_) (fun h => ?_)
    · rw [if_neg fun z => by simp [z.2] at h] at q
      exact q
    · have h1 : k ≤ n := by simpa using h
      rw [if_pos ⟨h0, h1⟩] at q
      refine ⟨by omega, by omega, ?_⟩
      rw [rngD_eq]
      refine loop_map (rngN 0) (List.range k.toNat) (fun j s => ∃ x3, s = [some (.dat (.int n)), some (.dat (.int k)), some (.dat (.int (ch n.toNat j : Nat))), x3]) (fun _ => false) (fun i y s hy hb hj => ?_) ⟨_, by rw [ch_zero]; rfl⟩ (fun hb s hj => ?_)
      · obtain ⟨x3, rfl⟩ := hj
        obtain ⟨rfl, hlt⟩ := idx_range hy
        rw [rngN0]
        refine ⟨_, rfl, fun N hN => ?_⟩
        walk_at "ck"
        have e : (ch n.toNat y : Int) * (n - (y : Int)) / ((y : Int) + 1) = (ch n.toNat (y + 1) : Nat) := by
          have := ch_div (n := n.toNat) (k := y) (by omega)
          rw [show ((n.toNat : Nat) : Int) = n by omega] at this
          exact this
        rw [e]
        exact ⟨ch_mulx (by omega) (by omega) (by omega), divw60 (by omega) (by omega), hN rfl _ ⟨_, rfl⟩⟩
      · obtain ⟨x3, rfl⟩ := hj
        rw [List.length_range]
        walk_at "ck"
        exact q
  · rw [if_neg fun z => h (decide_eq_true z.1)] at q
    exact q
theorem chI_nat {a b : Int} : ∃ k : Nat, chI a b = (k : Int) ∧ k ≤ 2 ^ a.toNat := by
  unfold chI
  split
  · exact ⟨_, rfl, ch_le _ _⟩
  · exact ⟨0, rfl, Nat.zero_le _⟩
theorem m_many {Ω : Type} : ∀ ds (w : Ω) C, S_many.run ds w C → p_many (endD C) (startD 4 ds) w := by
  rintro ds w C ⟨⟨n, ⟨m, r⟩⟩, rfl, ⟨hn, hm, hm2⟩, q⟩
  replace hn : n ≤ 900 := hn
  replace hm : 0 ≤ m := hm
  replace hm2 : m ≤ 900 := hm2
  replace q : C (.int (manyI n (m, r))) w := q
  show p_many _ [some (.dat (.int n)), some (.dat (dS (m, r))), none, none] _
  unfold p_many dS
  walk_at "ck"
  unfold manyI at q
  dsimp only at q
  refine ite2 (fun h => ?_) (fun h => ?_)
  · rw [if_pos (of_decide_eq_true h)] at q
    by_cases h0 : m = 0
    · rw [if_pos h0] at q
      rw [decide_eq_true h0]
      exact q
    · rw [if_neg h0] at q
      rw [decide_eq_false h0]
      exact q
  · rw [if_neg fun z => h (decide_eq_true z)] at q
    refine use_pure (m - 1, r - 1) (by show m - 1 ≤ 1000; omega) ?_
    refine use_pure (n - m + 1, r) (by show n - m + 1 ≤ 1000; omega) ?_
    obtain ⟨a, ea, la⟩ := chI_nat (a := m - 1) (b := r - 1)
    obtain ⟨b, eb, lb⟩ := chI_nat (a := n - m + 1) (b := r)
    dsimp only at ea eb ⊢
    walk_at "ck"
    refine ⟨?_, q⟩
    rw [ea, eb]
    refine mulx_ok (a := 1001) (b := 1001) ?_ ?_ (by decide)
    · rw [Int.natAbs_natCast]
      exact Nat.lt_of_le_of_lt la (Nat.pow_lt_pow_right (by decide) (by omega))
    · rw [Int.natAbs_natCast]
      exact Nat.lt_of_le_of_lt lb (Nat.pow_lt_pow_right (by decide) (by omega))
/-- for sets of a width it is the number T -/
theorem many_T {w m r : Nat} (h : m ≤ w) : manyI w ((m : Int), (r : Int)) = (T w m r : Nat) := by
  unfold manyI
  dsimp only
  cases r with
  | zero =>
    rw [if_pos (show ((0 : Nat) : Int) = 0 from rfl)]
    cases m with
    | zero => rfl
    | succ m =>
      rw [if_neg (show ¬ ((m + 1 : Nat) : Int) = 0 by omega)]
      rfl
  | succ r =>
    rw [if_neg (show ¬ ((r + 1 : Nat) : Int) = 0 by omega)]
    cases m with
    | zero =>
      have e : chI (((0 : Nat) : Int) - 1) (((r + 1 : Nat) : Int) - 1) = 0 := by
        unfold chI
        rw [if_neg (by omega)]
      rw [e, Int.zero_mul]
      rfl
    | succ m =>
      have e1 : chI (((m + 1 : Nat) : Int) - 1) (((r + 1 : Nat) : Int) - 1) = (ch m r : Nat) := by
        unfold chI
        by_cases h2 : r ≤ m
        · rw [if_pos (by omega), show (((m + 1 : Nat) : Int) - 1).toNat = m by omega, show (((r + 1 : Nat) : Int) - 1).toNat = r by omega]
        · rw [if_neg (by omega), ch_big (by omega)]
          rfl
      have e2 : chI ((w : Int) - ((m + 1 : Nat) : Int) + 1) ((r + 1 : Nat) : Int) = (ch (w - m) (r + 1) : Nat) := by
        unfold chI
        by_cases h2 : r + 1 ≤ w - m
        · rw [if_pos (by omega), show ((w : Int) - ((m + 1 : Nat) : Int) + 1).toNat = w - m by omega, Int.toNat_natCast]
        · rw [if_neg (by omega), ch_big (by omega)]
          rfl
      rw [e1, e2]
      show _ = ((ch m r * ch (w - m) (r + 1) : Nat) : Int)
      exact (Int.natCast_mul _ _).symm
end Ck
namespace Ck
open PySem PySem.Spec PyProof.Rows L2
local macro_rules | `(tactic| walk_at "ck") => `(tactic| try simp only [wNext, wBrk, wCnt, wSeq, wRet, wRetN, wSet, wOwn, wDrop, wUnp, wPar, wIfS, wApp, wExt, wSetIx, wAug, wFrz, wFor, k_var, k_vk1, k_vk2, k_par, wC, wL, wOp, wOpL, wF, wFL, wNil, wCons, wTup, wLst, wTV, wTAnd, wTOr, wTNot, wAnd, wOr, wNot, wIfx, wIsN, wNotN, wChain, wO0, wO1, wSl, wCall, wIsi, wLr1, wLr2, wNeg, wLc, wYes, wiSeq, wiR1, wiR2, wiEnum, wiZip, noOwnB, wipeD, wEmp, wListZip, wSortSet, wRevL, wRevT, wOneB, wParOD, wParDO, wParOO, wIndex, wNever, wUnp2, k_s20, k_s21, Option.bind_some, Option.map_some, wDNew, wDPut, wDGet, wDGetD, wDIn, wFrzD, wiKeys, Sv.dic.injEq, keysD, keyD, k_mulT, k_add1, k_add2, k_add3, k_add4, k_addL, k_sub, k_mul1, k_mul2, k_mulL, k_div, k_mod, k_pow, k_cmp, k_eq, k_ne, k_ea1, k_ea2, k_ea3, k_ea4, k_in1, k_in2, k_in3, k_in4, k_ix1, k_ix2, k_ix3, k_sl1, k_sl2, k_len1, k_len2, k_len3, k_int1, k_int2, k_abs, k_tuple1, k_tuple2, k_list1, k_list2, k_min2, k_max2, k_non_non, k_ty_int_non, k_ty_bool_non, k_ty_tuple_non, k_ty_str_non, k_ty_list_non, k_non_bl, k_ty_int_bl, k_ty_bool_bl, k_ty_tuple_bl, k_ty_str_bl, k_ty_list_bl, k_non_int, k_ty_int_int, k_ty_bool_int, k_ty_tuple_int, k_ty_str_int, k_ty_list_int, k_non_str, k_ty_int_str, k_ty_bool_str, k_ty_tuple_str, k_ty_str_str, k_ty_list_str, k_non_tup, k_ty_int_tup, k_ty_bool_tup, k_ty_tuple_tup, k_ty_str_tup, k_ty_list_tup, k_non_lst, k_ty_int_lst, k_ty_bool_lst, k_ty_tuple_lst, k_ty_str_lst, k_ty_list_lst, k_non_emp, k_ty_int_emp, k_ty_bool_emp, k_ty_tuple_emp, k_ty_str_emp, k_ty_list_emp, k_seq_non, k_seq_bl, k_seq_int, k_seq_str, k_seq_tup, k_seq_lst, k_seq_emp, k_sz0, k_sz1, k_sz2, k_sz3, k_sz4, k_sz5, k_sz6, k_sz7, k_sz8, k_sz9, k_sz10, k_sz11, k_sz12, k_sz13, k_sz14, k_sz15, k_sz16, k_sz17, k_sz18, k_sz19, k_sz20, k_sz21, k_sz22, k_sz23, k_at0, k_at1, k_at2, k_at3, k_iteT, k_iteF, k_bt1, k_bt2, k_sa0, k_sa1, k_endn, k_endr, List.getElem?_cons_succ, List.getElem?_cons_zero, List.set_cons_succ, List.set_cons_zero, List.length_cons, List.length_nil, List.length_map, List.all_cons, List.all_nil, Nat.reduceAdd, Nat.zero_add, Bool.and_true, Bool.and_self, Option.some.injEq, Dt.int.injEq, Dt.bl.injEq, Dt.str.injEq, Dt.tup.injEq, Dt.lst.injEq, Sv.dat.injEq, Sv.own.injEq, exists_eq_left', exists_eq_left, exists_eq_right, exists_eq', exists_eq, if_true, if_false, Bool.not_false, Bool.not_true, Bool.not_not, true_and, and_true, false_and, and_false, exists_const, reduceCtorEq])

/-! ### dicts over data -/
theorem valD_put (kvs : List (List L2.Key × Dt)) (k k' : List L2.Key) (d : Dt) : valD (putD kvs k d) k' = if k = k' then some d else valD kvs k' := by
  unfold putD
  by_cases h : (kvs.any fun kv => decide (kv.1 = k)) = true
  · rw [if_pos h]
    induction kvs with
    | nil => simp at h
    | cons kv kvs ih =>
      obtain ⟨a, b⟩ := kv
      by_cases e : a = k
      · subst e
        by_cases e2 : a = k'
        · simp [valD, e2]
        · have hrest : valD (kvs.map fun kv => if kv.1 = a then (kv.1, d) else kv) k' = valD kvs k' := by
            clear ih h
            induction kvs with
            | nil => rfl
            | cons kv kvs ih =>
              obtain ⟨c, x⟩ := kv
              by_cases e3 : c = a
              · subst e3
                have : valD ((c, x) :: kvs) k' = valD kvs k' := by simp [valD, e2]
                rw [this, List.map_cons, if_pos rfl, ← ih]
                simp [valD, e2]
              · rw [List.map_cons, if_neg e3]
                by_cases e4 : c = k'
                · simp [valD, e4]
                · have h1 : valD ((c, x) :: kvs) k' = valD kvs k' := by simp [valD, e4]
                  rw [h1, ← ih]
                  simp [valD, e4]
          rw [if_neg e2, List.map_cons, if_pos rfl]
          have h1 : valD ((a, b) :: kvs) k' = valD kvs k' := by simp [valD, e2]
          rw [h1, ← hrest]
          simp [valD, e2]
      · have h' : (kvs.any fun kv => decide (kv.1 = k)) = true := by
          rw [List.any_cons, Bool.or_eq_true] at h
          exact h.resolve_left (by simpa using e)
        have ih := ih h'
        rw [List.map_cons, if_neg e]
        by_cases e4 : a = k'
        · have : k ≠ k' := fun z => e (e4.trans z.symm)
          rw [if_neg this]
          simp [valD, e4]
        · have h1 : valD ((a, b) :: kvs) k' = valD kvs k' := by simp [valD, e4]
          rw [h1, ← ih]
          simp [valD, e4]
  · rw [if_neg h]
    have hno : ∀ kv ∈ kvs, kv.1 ≠ k := fun kv hkv e => h (List.any_eq_true.mpr ⟨kv, hkv, decide_eq_true e⟩)
    clear h
    induction kvs with
    | nil =>
      by_cases e : k = k' <;> simp [valD, e]
    | cons kv kvs ih =>
      have ih := ih fun x hx => hno x (List.mem_cons_of_mem _ hx)
      obtain ⟨a, b⟩ := kv
      have ha : a ≠ k := hno (a, b) List.mem_cons_self
      rw [List.cons_append]
      by_cases e4 : a = k'
      · have : k ≠ k' := fun z => ha (e4.trans z.symm)
        rw [if_neg this]
        simp [valD, e4]
      · have h1 : valD ((a, b) :: kvs) k' = valD kvs k' := by simp [valD, e4]
        rw [h1, ← ih]
        simp [valD, e4]
theorem mem_put {kvs : List (List L2.Key × Dt)} {k : List L2.Key} {d : Dt} {kv : List L2.Key × Dt} (h : kv ∈ putD kvs k d) : kv.1 = k ∨ ∃ kv' ∈ kvs, kv'.1 = kv.1 := by
  unfold putD at h
  split at h
  · obtain ⟨kv', h1, h2⟩ := List.mem_map.mp h
    refine .inr ⟨kv', h1, ?_⟩
    rw [← h2]
    split <;> rfl
  · rcases List.mem_append.mp h with h | h
    · exact .inr ⟨kv, h, rfl⟩
    · rw [List.mem_singleton.mp h]
      exact .inl rfl
theorem put_len (kvs : List (List L2.Key × Dt)) (k : List L2.Key) (d : Dt) : (putD kvs k d).length ≤ kvs.length + 1 := by
  unfold putD
  split
  · rw [List.length_map]
    omega
  · rw [List.length_append]
    exact Nat.le_refl _
theorem zip_fs {α β : Type} : ∀ l : List (α × β), (l.map (·.1)).zip (l.map (·.2)) = l
  | [] => rfl
  | (a, b) :: l => by rw [List.map_cons, List.map_cons, List.zip_cons_cons, zip_fs l]
theorem getK_fs (kvs : List (List L2.Key × Dt)) (k : List L2.Key) : getK (kvs.map (·.1)) (kvs.map (·.2)) k = valD kvs k := by
  unfold getK
  rw [zip_fs]
theorem shw_int62 {i : Int} (h1 : -(2 ^ 62) < i) (h2 : i < 2 ^ 62) : Shw 0 0 (.int i) := by
  refine ⟨.int i, by simp only [Dt.pr], ?_, ?_, ?_, ?_⟩
  · have e : (10 : Nat) ^ 19 = 10000000000000000000 := by decide
    have hb : i.natAbs < 10 ^ 19 := by
      rw [e]
      omega
    simp only [PyData.leavesShort, decide_eq_true_eq, PyData.shown]
    have h := int_text_length_le10 (a := i) (k := 19) (by decide) hb
    refine decide_eq_true ?_
    rw [PySem.ofString_length]
    exact h
  · simp only [PyData.showable, decide_eq_true_eq]
    have : i.natAbs < 2 ^ 62 := by omega
    exact Nat.lt_trans (PySem.Flt.log2_lt_of (by decide) this) (by decide)
  · simp only [PyData.bulk, Nat.le_refl]
  · simp only [PyData.depth, Nat.le_refl]
/-! ### all sets of a width -/
def dPl (s : List Int) : Dt := .lst (s.map .int)
theorem setsTo_len : ∀ n : Nat, (setsTo n).length = 2 ^ n
  | 0 => rfl
  | n + 1 => by
    show (setsTo n ++ (setsTo n).map _).length = _
    rw [List.length_append, List.length_map, setsTo_len n, Nat.pow_succ]
    omega
def S_law_all_sets {Ω : Type} : Spc Ω := pureS (ι := Int) (fun w => [.int w]) (fun w => 0 ≤ w ∧ w ≤ 12) fun w => .lst ((setsTo w.toNat).map dPl)
abbrev p_law_all_sets {Ω : Type} : DS Ω :=
  (wSeq (wSet 1 (wL (wLst (wCons (wL (wLst wNil)) wNil))))
  (wSeq (wFor (.one 2) (wiR1 (wVar 0)) (wSet 1 (wL (wOpL fAddL (wVar 1) (wL (wLc [3] (.one 3) (wiSeq (wVar 1)) wYes (wL (wOpL fAddL (wVar 3) (wL (wLst (wCons (wVar 2) wNil)))))))))))
  (wRet (wVar 1))))
theorem m_law_all_sets {Ω : Type} : ∀ ds (w : Ω) C, S_law_all_sets.run ds w C → p_law_all_sets (endD C) (startD 4 ds) w := by
  rintro ds w C ⟨n, rfl, ⟨h1, h2⟩, q⟩
  replace q : C (.lst ((setsTo n.toNat).map dPl)) w := q
  replace h1 : 0 ≤ n := h1
  replace h2 : n ≤ 12 := h2
  show p_law_all_sets _ [some (.dat (.int n)), none, none, none] _
  unfold p_law_all_sets
  walk_at "ck"
  rw [rngD_eq]
  refine ⟨by omega, by omega, ?_⟩
  refine loop_map (rngN 0) _ (fun k sl => ∃ x2, sl = [some (.dat (.int n)), some (.dat (.lst ((setsTo k).map dPl))), x2, none]) (fun _ => false) ?_ ⟨_, rfl⟩ fun _ s hs => ?_
  · rintro i y sl hi _ ⟨x2, rfl⟩
    obtain ⟨hi2, ey⟩ := List.getElem?_eq_some_iff.mp hi
    rw [List.length_range] at hi2
    rw [List.getElem_range] at ey
    subst ey
    refine ⟨_, rfl, fun N hN => ?_⟩
    have hl : (setsTo i).length ≤ 4096 := by
      rw [setsTo_len]
      calc 2 ^ i ≤ 2 ^ 12 := Nat.pow_le_pow_right (by decide) (by omega)
        _ = 4096 := by decide
    walk_at "ck"
    refine ⟨size1M (by omega), ?_⟩
    refine lc_map dPl (fun s => dPl (s ++ [(i : Int)])) _ (fun s hs => ⟨_, rfl, fun C hC => ?_⟩) ?_
    · have hs2 := (setsTo_ok i s hs).len (by omega)
      unfold dPl
      walk_at "ck"
      refine ⟨size1M (by omega), ?_⟩
      have e : dPl (s ++ [(i : Int)]) = Dt.lst (s.map .int ++ [rngN 0 i]) := by
        unfold dPl
        rw [List.map_append]
        show Dt.lst (s.map .int ++ [Dt.int (i : Int)]) = Dt.lst (s.map .int ++ [Dt.int (0 + (i : Int))])
        rw [Int.zero_add]
      rw [e] at hC
      exact hC
    · walk_at "ck"
      refine ⟨size1M (by omega), ?_⟩
      refine hN rfl _ ⟨some (Sv.dat (rngN 0 i)), ?_⟩
      show _ = [_, some (Sv.dat (.lst ((setsTo i ++ (setsTo i).map fun s => s ++ [(i : Int)]).map dPl))), _, _]
      rw [List.map_append, List.map_map]
      rfl
  · obtain ⟨x2, rfl⟩ := hs
    rw [List.length_range]
    walk_at "ck"
    exact q
/-! ### rows of the triangle -/
def rowI (n : Nat) : List Int := (List.range (n + 1)).map fun k => (ch n k : Int)
theorem ch_self : ∀ n : Nat, ch n n = 1
  | 0 => rfl
  | n + 1 => by rw [ch_succ, ch_self n, ch_big (Nat.lt_succ_self n)]
def S_law_rows {Ω : Type} : Spc Ω := pureS (ι := Int) (fun w => [.int w]) (fun w => 0 ≤ w ∧ w ≤ 100) fun w => .lst ((rowI w.toNat).map .int)
abbrev p_law_rows {Ω : Type} : DS Ω :=
  (wSeq (wSet 1 (wL (wLst (wCons (wC (.int 1)) wNil))))
  (wSeq (wFor (.one 2) (wiR1 (wVar 0)) (wSet 1 (wL (wOpL fAddL (wL (wOpL fAddL (wL (wLst (wCons (wC (.int 1)) wNil))) (wL (wLc [3, 4] (.many [3, 4]) (wiZip (wVar 1) (wSl fSl (wVar 1) (wO1 (wC (.int 1))) wO0)) wYes (wOp fAdd (wVar 3) (wVar 4)))))) (wL (wLst (wCons (wC (.int 1)) wNil)))))))
  (wRet (wVar 1))))
theorem row_len (n : Nat) : (rowI n).length = n + 1 := by simp [rowI]
theorem row_at {n k : Nat} (h : k ≤ n) : (rowI n)[k]? = some (ch n k : Int) := by
  unfold rowI
  rw [List.getElem?_map, List.getElem?_range (by omega)]
  rfl
theorem row_step (n : Nat) : rowI (n + 1) = 1 :: (List.zipWith (· + ·) (rowI n) ((rowI n).drop 1) ++ [1]) := by
  apply List.ext_getElem?
  intro i
  cases i with
  | zero => rw [row_at (Nat.zero_le _), ch_zero]; rfl
  | succ i =>
    rw [List.getElem?_cons_succ]
    have hz : (List.zipWith (· + ·) (rowI n) ((rowI n).drop 1)).length = n := by
      rw [List.length_zipWith, List.length_drop, row_len]
      omega
    by_cases h : i < n
    · rw [row_at (by omega), List.getElem?_append_left (by rw [hz]; exact h), List.getElem?_zipWith, List.getElem?_drop, row_at (by omega), Nat.add_comm 1 i, row_at (by omega), ch_succ]
      rfl
    · by_cases h2 : i = n
      · subst h2
        rw [row_at (by omega), List.getElem?_append_right (by rw [hz]; exact Nat.le_refl _), hz, Nat.sub_self, ch_self]
        rfl
      · rw [List.getElem?_eq_none (by rw [row_len]; omega), List.getElem?_eq_none (by rw [List.length_append, hz, List.length_singleton]; omega)]
theorem zipD_map {α β : Type} (f : α → Dt) (g : β → Dt) : ∀ (l : List α) (r : List β), zipD (l.map f) (r.map g) = (l.zip r).map fun p => Dt.tup [f p.1, g p.2]
  | [], _ => rfl
  | _ :: _, [] => rfl
  | a :: l, b :: r => by
    show Dt.tup [f a, g b] :: zipD (l.map f) (r.map g) = _
    rw [zipD_map f g l r]
    rfl
theorem zipWith_zip {α β γ : Type} (f : α → β → γ) : ∀ (l : List α) (r : List β), List.zipWith f l r = (l.zip r).map fun p => f p.1 p.2
  | [], _ => rfl
  | _ :: _, [] => rfl
  | a :: l, b :: r => by rw [List.zipWith_cons_cons, List.zip_cons_cons, List.map_cons, zipWith_zip f l r]
theorem m_law_rows {Ω : Type} : ∀ ds (w : Ω) C, S_law_rows.run ds w C → p_law_rows (endD C) (startD 5 ds) w := by
  rintro ds w C ⟨n, rfl, ⟨h1, h2⟩, q⟩
  replace q : C (.lst ((rowI n.toNat).map .int)) w := q
  replace h1 : 0 ≤ n := h1
  replace h2 : n ≤ 100 := h2
  show p_law_rows _ [some (.dat (.int n)), none, none, none, none] _
  unfold p_law_rows
  walk_at "ck"
  rw [rngD_eq]
  refine ⟨by omega, by omega, ?_⟩
  refine loop_map (rngN 0) _ (fun k sl => ∃ x2, sl = [some (.dat (.int n)), some (.dat (.lst ((rowI k).map .int))), x2, none, none]) (fun _ => false) ?_ ⟨_, rfl⟩ fun _ s hs => ?_
  · rintro i y sl hi _ ⟨x2, rfl⟩
    obtain ⟨hi2, ey⟩ := List.getElem?_eq_some_iff.mp hi
    rw [List.length_range] at hi2
    rw [List.getElem_range] at ey
    subst ey
    refine ⟨_, rfl, fun N hN => ?_⟩
    have hl := row_len i
    walk_at "ck"
    have ec : cutD ((rowI i).map Dt.int) (some 1) none = ((rowI i).drop 1).map .int := by
      rw [List.map_drop]
      exact cutD_drop (i := 1) (by rw [List.length_map, hl]; omega)
    refine ⟨_, _, .inl ⟨rfl, ec⟩, ?_⟩
    rw [zipD_map]
    have hz : ((rowI i).zip ((rowI i).drop 1)).length ≤ 100 := by
      rw [List.length_zip, hl]
      omega
    refine ⟨size1M (by rw [List.length_map]; omega), ?_⟩
    refine lc_map (fun p : Int × Int => Dt.tup [.int p.1, .int p.2]) (fun p => .int (p.1 + p.2)) _ (fun p hp => ⟨_, rfl, fun C hC => ?_⟩) ?_
    · walk_at "ck"
      exact hC
    · walk_at "ck"
      refine ⟨size1M (by omega), size1M (by rw [List.length_append, List.length_map, List.length_singleton]; omega), ?_⟩
      refine hN rfl _ ⟨some (Sv.dat (rngN 0 i)), ?_⟩
      rw [row_step, zipWith_zip, List.map_cons, List.map_append, List.map_map]
      rfl
  · obtain ⟨x2, rfl⟩ := hs
    rw [List.length_range]
    walk_at "ck"
    exact q
end Ck
namespace Ck
open PySem PySem.Spec PyProof.Rows L2
/-! ### sums of numbers of sets over shapes, by a key -/
def sumG (g : Int × Int → Int) (w : Int) (l : List (Int × Int)) (m : Nat) : Int := ((l.filter fun s => decide (g s = (m : Int))).map (manyI w)).sum
section
variable {g : Int × Int → Int} {w : Int} {n : Nat}
theorem sumG_app (l r : List (Int × Int)) (m : Nat) : sumG g w (l ++ r) m = sumG g w l m + sumG g w r m := by
  unfold sumG
  rw [List.filter_append, List.map_append, List.sum_append]
theorem sumG_one (s : Int × Int) (m : Nat) : sumG g w [s] m = if g s = (m : Int) then manyI w s else 0 := by
  unfold sumG
  rw [List.filter_cons]
  by_cases h : g s = (m : Int)
  · rw [if_pos (decide_eq_true h), if_pos h]
    simp
  · rw [if_neg (by simpa using h), if_neg h]
    rfl
def rowG (g : Int × Int → Int) (n : Nat) (w : Int) (l : List (Int × Int)) : List Int := (List.range n).map fun m => sumG g w l m
theorem rowG_nil : rowG g n w [] = List.replicate n 0 := by
  unfold rowG
  rw [List.eq_replicate_iff]
  refine ⟨by simp, fun x hx => ?_⟩
  obtain ⟨m, _, rfl⟩ := List.mem_map.mp hx
  rfl
theorem rowG_at {m : Nat} {l : List (Int × Int)} (h : m < n) : (rowG g n w l)[m]? = some (sumG g w l m) := by
  unfold rowG
  rw [List.getElem?_map, List.getElem?_range h]
  rfl
theorem rowG_len (l : List (Int × Int)) : (rowG g n w l).length = n := by simp [rowG]
theorem rowG_add {m : Nat} {l : List (Int × Int)} {s : Int × Int} (h : m < n) (hs : g s = (m : Int)) : (rowG g n w l).set m (sumG g w l m + manyI w s) = rowG g n w (l ++ [s]) := by
  apply List.ext_getElem?
  intro i
  by_cases hi : i < n
  · rw [List.getElem?_set, rowG_at hi, rowG_at hi, sumG_app, sumG_one, hs, rowG_len]
    by_cases e : m = i
    · subst e
      rw [if_pos rfl, if_pos h, if_pos rfl]
    · rw [if_neg e, if_neg (by omega), Int.add_zero]
  · rw [List.getElem?_eq_none (by rw [List.length_set, rowG_len]; omega), List.getElem?_eq_none (by rw [rowG_len]; omega)]
def sumZ : Nat → (Nat → Int) → Int
  | 0, _ => 0
  | n + 1, f => sumZ n f + f n
theorem sum_range (f : Nat → Int) : ∀ n : Nat, ((List.range n).map f).sum = sumZ n f
  | 0 => rfl
  | n + 1 => by
    rw [List.range_succ, List.map_append, List.sum_append, sum_range f n, List.map_singleton, List.sum_singleton]
    rfl
theorem sumZ_add {f h : Nat → Int} : ∀ n : Nat, sumZ n (fun k => f k + h k) = sumZ n f + sumZ n h
  | 0 => rfl
  | n + 1 => by
    show sumZ n (fun k => f k + h k) + (f n + h n) = (sumZ n f + f n) + (sumZ n h + h n)
    rw [sumZ_add n]
    omega
theorem sumZ_zero : ∀ n : Nat, sumZ n (fun _ => 0) = 0
  | 0 => rfl
  | n + 1 => by
    show sumZ n (fun _ => 0) + 0 = 0
    rw [sumZ_zero n]
    rfl
theorem sumZ_one {i x : Int} : ∀ n : Nat, sumZ n (fun m => if i = (m : Int) then x else 0) = if 0 ≤ i ∧ i < n then x else 0
  | 0 => by
    rw [if_neg (by omega)]
    rfl
  | n + 1 => by
    show sumZ n (fun m => if i = (m : Int) then x else 0) + (if i = (n : Int) then x else 0) = _
    rw [sumZ_one n]
    by_cases h : i = (n : Int)
    · rw [if_neg (by omega), if_pos h, if_pos (by omega)]
      omega
    · rw [if_neg h]
      by_cases h2 : 0 ≤ i ∧ i < n
      · rw [if_pos h2, if_pos (by omega)]
        omega
      · rw [if_neg h2, if_neg (by omega)]
        rfl
theorem rowG_sum : ∀ l : List (Int × Int), (∀ s ∈ l, 0 ≤ g s ∧ g s < n) → (rowG g n w l).sum = (l.map (manyI w)).sum
  | [], _ => by
    unfold rowG
    rw [sum_range]
    exact sumZ_zero n
  | s :: l, h => by
    have ih := rowG_sum l fun x hx => h x (List.mem_cons_of_mem _ hx)
    unfold rowG at ih ⊢
    rw [sum_range] at ih ⊢
    have e : (fun m : Nat => sumG g w (s :: l) m) = fun m : Nat => (if g s = (m : Int) then manyI w s else 0) + sumG g w l m := by
      funext m
      rw [← sumG_one]
      exact sumG_app [s] l m
    rw [e, sumZ_add, ih, sumZ_one, if_pos (h s List.mem_cons_self), List.map_cons, List.sum_cons]
end
/-! ### all shapes come to all sets -/
theorem many_row (w m : Nat) (h : m + 1 ≤ w) : ∀ n : Nat, (((List.range n).map fun j => (((m + 1 : Nat) : Int), ((j + 1 : Nat) : Int))).map (manyI w)).sum = (sumN n (fun r => T w (m + 1) (r + 1)) : Nat)
  | 0 => rfl
  | n + 1 => by
    rw [List.range_succ, List.map_append, List.map_append, List.sum_append, many_row w m h n, List.map_singleton, List.map_singleton, List.sum_singleton, many_T h]
    exact (Int.natCast_add _ _).symm
theorem sumN_fst {f : Nat → Nat} : ∀ n : Nat, sumN (n + 1) f = f 0 + sumN n fun k => f (k + 1)
  | 0 => by show 0 + f 0 = f 0 + 0; omega
  | n + 1 => by
    show sumN (n + 1) f + f (n + 1) = f 0 + (sumN n (fun k => f (k + 1)) + f (n + 1))
    rw [sumN_fst n]
    omega
theorem sumN_end {f : Nat → Nat} {n : Nat} (h : ∀ k, n ≤ k → f k = 0) : ∀ d : Nat, sumN (n + d) f = sumN n f
  | 0 => rfl
  | d + 1 => by
    show sumN (n + d) f + f (n + d) = sumN n f
    rw [sumN_end h d, h _ (by omega), Nat.add_zero]
theorem T_none {w m r : Nat} (h : min (m + 1) (w - m) ≤ r) : T w (m + 1) (r + 1) = 0 := by
  show ch m r * ch (w - m) (r + 1) = 0
  by_cases h1 : m + 1 ≤ r
  · rw [ch_big (n := m) (k := r) (by omega), Nat.zero_mul]
  · rw [ch_big (n := w - m) (k := r + 1) (by omega), Nat.mul_zero]
theorem many_size (w m : Nat) (h : m + 1 ≤ w) : ((sizeShapes w m).map (manyI w)).sum = (ch w (m + 1) : Nat) := by
  unfold sizeShapes
  rw [many_row w m h, ← T_sum w (m + 1) (w + 1) (by omega), sumN_fst, show T w (m + 1) 0 = 0 from rfl, Nat.zero_add]
  have := sumN_end (f := fun r => T w (m + 1) (r + 1)) (n := min (m + 1) (w - m)) (fun k hk => T_none hk) (w + 1 - min (m + 1) (w - m))
  rw [← this]
  congr 2
  omega
theorem many_to (w : Nat) : ∀ k : Nat, k ≤ w → ((shapesTo w k).map (manyI w)).sum = (sumN (k + 1) (ch w) : Nat)
  | 0, _ => by
    show ([manyI w (0, 0)] : List Int).sum = ((0 + ch w 0 : Nat) : Int)
    rw [ch_zero, List.sum_singleton]
    exact many_T (w := w) (m := 0) (r := 0) (Nat.zero_le _)
  | k + 1, h => by
    rw [shapesTo_succ, List.map_append, List.sum_append, many_to w k (by omega), many_size w k h]
    exact (Int.natCast_add _ _).symm
theorem ch_row : ∀ n : Nat, sumN (n + 1) (ch n) = 2 ^ n
  | 0 => rfl
  | n + 1 => by
    have ih := ch_row n
    have e1 : sumN (n + 1 + 1) (ch (n + 1)) = 1 + (sumN (n + 1) (ch n) + sumN (n + 1) fun k => ch n (k + 1)) := by
      rw [sumN_fst, ch_zero, ← sumN_add]
      rfl
    have e2 : sumN (n + 1 + 1) (ch n) = 1 + sumN (n + 1) fun k => ch n (k + 1) := by rw [sumN_fst, ch_zero]
    have e3 : sumN (n + 1 + 1) (ch n) = sumN (n + 1) (ch n) + ch n (n + 1) := rfl
    rw [ch_big (n := n) (k := n + 1) (by omega)] at e3
    rw [Nat.pow_succ]
    omega
theorem many_all (w : Nat) : ((shapes w).map (manyI w)).sum = ((2 ^ w : Nat) : Int) := by
  unfold shapes
  rw [Int.toNat_natCast, many_to w w (Nat.le_refl _), ch_row]
/-! ### by all sets -/
def shI (x : List Int) : Int × Int := ((x.length : Int), ((starts x).length : Int))
def cntG (g : Int × Int → Int) (L : List (List Int)) (m : Nat) : Nat := L.countP fun x => decide (g (shI x) = (m : Int))
theorem shapes_nodup (w : Nat) : ∀ k : Nat, (shapesTo w k).Nodup
  | 0 => by simp [shapesTo]
  | k + 1 => by
    rw [shapesTo_succ]
    refine List.nodup_append.mpr ⟨shapes_nodup w k, ?_, fun a ha b hb e => ?_⟩
    · unfold sizeShapes
      refine List.pairwise_map.mpr (List.pairwise_lt_range.imp fun {a b} h e => ?_)
      have := congrArg Prod.snd e
      dsimp only at this
      omega
    · subst e
      unfold sizeShapes at hb
      obtain ⟨j, _, rfl⟩ := List.mem_map.mp hb
      have le : ∀ (k : Nat) (s : Int × Int), s ∈ shapesTo w k → s.1 ≤ k := by
        intro k
        induction k with
        | zero =>
          intro s hs
          have : s = (0, 0) := by simpa [shapesTo] using hs
          subst this
          exact Int.le_refl _
        | succ k ih =>
          intro s hs
          rw [shapesTo_succ] at hs
          rcases List.mem_append.mp hs with h | h
          · have := ih s h
            omega
          · unfold sizeShapes at h
            obtain ⟨j, _, rfl⟩ := List.mem_map.mp h
            dsimp only
            omega
      have := le k _ ha
      dsimp only at this
      omega
theorem count_parts {S : List (Int × Int)} (nd : S.Nodup) (P : Int × Int → Bool) : ∀ L : List (List Int), (∀ x ∈ L, shI x ∈ S) → (((S.filter P).map fun s => (L.countP fun x => decide (shI x = s))).sum) = L.countP fun x => P (shI x)
  | [], _ => by
    rw [show (fun s : Int × Int => List.countP (fun x => decide (shI x = s)) ([] : List (List Int))) = fun _ => 0 from rfl]
    have : ∀ l : List (Int × Int), (l.map fun _ => 0).sum = 0 := fun l => by
      induction l with
      | nil => rfl
      | cons a l ih => rw [List.map_cons, List.sum_cons, ih]
    exact this _
  | x :: L, h => by
    have ih := count_parts nd P L fun y hy => h y (List.mem_cons_of_mem _ hy)
    have hx := h x List.mem_cons_self
    have e : ∀ l : List (Int × Int), (l.map fun s => List.countP (fun x => decide (shI x = s)) (x :: L)).sum = (l.map fun s => List.countP (fun x => decide (shI x = s)) L).sum + l.count (shI x) := fun l => by
      induction l with
      | nil => rfl
      | cons a l ih =>
        rw [List.map_cons, List.map_cons, List.sum_cons, List.sum_cons, ih, List.countP_cons, List.count_cons]
        by_cases q : shI x = a
        · subst q
          simp
          omega
        · have q2 : ¬ a = shI x := fun z => q z.symm
          simp [q, q2]
          omega
    rw [e, ih, List.countP_cons]
    have nd2 : (S.filter P).Nodup := nd.sublist List.filter_sublist
    by_cases q : P (shI x) = true
    · rw [nd2.count, if_pos (List.mem_filter.mpr ⟨hx, q⟩), if_pos q]
    · rw [nd2.count, if_neg (fun z => q (List.mem_filter.mp z).2), if_neg q]
theorem T_pos {w m r : Nat} (h : T w m r ≠ 0) : IsSh w ((m : Int), (r : Int)) := by
  unfold IsSh
  cases r with
  | zero =>
    cases m with
    | zero => exact .inl ⟨rfl, rfl⟩
    | succ m => exact (h rfl).elim
  | succ r =>
    cases m with
    | zero => exact (h rfl).elim
    | succ m =>
      right
      have h1 : ch m r ≠ 0 := fun z => h (by show ch m r * _ = 0; rw [z, Nat.zero_mul])
      have h2 : ch (w - m) (r + 1) ≠ 0 := fun z => h (by show _ * ch (w - m) (r + 1) = 0; rw [z, Nat.mul_zero])
      have k1 : r ≤ m := Nat.le_of_not_lt fun z => h1 (ch_big z)
      have k2 : r + 1 ≤ w - m := Nat.le_of_not_lt fun z => h2 (ch_big z)
      dsimp only
      omega
theorem set_shape {w : Nat} (hw : 1 ≤ w) {x : List Int} (h : x ∈ setsTo w) : shI x ∈ shapes w := by
  refine (mem_shapes (by omega)).mpr (T_pos ?_)
  rw [← (cnt_closed w x.length (starts x).length).1]
  have : 0 < cnt w x.length (starts x).length := List.countP_pos_iff.mpr ⟨x, h, decide_eq_true rfl⟩
  omega
theorem row_sets {w : Nat} (hw : 1 ≤ w) (g : Int × Int → Int) (n : Nat) : rowG g n w (shapes w) = (List.range n).map fun m => (cntG g (setsTo w) m : Int) := by
  unfold rowG
  refine List.map_congr_left fun m _ => ?_
  have nd : (shapes (w : Int)).Nodup := by
    unfold shapes
    exact shapes_nodup _ _
  have key := count_parts nd (fun s => decide (g s = (m : Int))) (setsTo w) fun x hx => set_shape hw hx
  unfold cntG
  rw [← key]
  unfold sumG
  have e : ∀ l : List (Int × Int), (∀ s ∈ l, s ∈ shapes w) → (l.map (manyI w)).sum = (((l.map fun s => List.countP (fun x => decide (shI x = s)) (setsTo w)).sum : Nat) : Int) := fun l hl => by
    induction l with
    | nil => rfl
    | cons s l ih =>
      rw [List.map_cons, List.map_cons, List.sum_cons, List.sum_cons, ih fun x hx => hl x (List.mem_cons_of_mem _ hx), Int.natCast_add]
      congr 1
      have hs := (mem_shapes (by omega)).mp (hl s List.mem_cons_self)
      obtain ⟨⟨m0, m1⟩, r0, r1, _⟩ := price_room (m := s.1) (r := s.2) hs
      obtain ⟨a, ha⟩ : ∃ a : Nat, s.1 = (a : Int) := ⟨s.1.toNat, by omega⟩
      obtain ⟨b, hb⟩ : ∃ b : Nat, s.2 = (b : Int) := ⟨s.2.toNat, by omega⟩
      obtain ⟨s1, s2⟩ := s
      dsimp only at ha hb m1
      subst ha hb
      rw [many_T (by omega), ← (cnt_closed w a b).1]
      unfold cnt
      congr 2
      funext x
      refine decide_eq_decide.mpr ?_
      unfold shN shI
      simp only [Prod.mk.injEq]
      omega
  exact e _ fun s hs => (List.mem_filter.mp hs).1
end Ck
namespace Ck
open PySem PySem.Spec PyProof.Rows L2
local macro_rules | `(tactic| walk_at "ck") => `(tactic| try simp only [wNext, wBrk, wCnt, wSeq, wRet, wRetN, wSet, wOwn, wDrop, wUnp, wPar, wIfS, wApp, wExt, wSetIx, wAug, wFrz, wFor, wShp, k_var, k_vk1, k_vk2, k_par, wC, wL, wOp, wOpL, wF, wFL, wNil, wCons, wTup, wLst, wTV, wTAnd, wTOr, wTNot, wAnd, wOr, wNot, wIfx, wIsN, wNotN, wChain, wO0, wO1, wSl, wCall, wIsi, wLr1, wLr2, wNeg, wLc, wYes, wiSeq, wiR1, wiR2, wiEnum, wiZip, noOwnB, wipeD, wEmp, wListZip, wSortSet, wRevL, wRevT, wOneB, wParOD, wParDO, wParOO, wIndex, wNever, wUnp2, k_s20, k_s21, Option.bind_some, Option.map_some, wDNew, wDPut, wDGet, wDGetD, wDIn, wFrzD, wiKeys, Sv.dic.injEq, keysD, keyD, k_mulT, k_add1, k_add2, k_add3, k_add4, k_addL, k_sub, k_mul1, k_mul2, k_mulL, k_div, k_mod, k_pow, k_cmp, k_eq, k_ne, k_ea1, k_ea2, k_ea3, k_ea4, k_in1, k_in2, k_in3, k_in4, k_ix1, k_ix2, k_ix3, k_sl1, k_sl2, k_len1, k_len2, k_len3, k_int1, k_int2, k_abs, k_tuple1, k_tuple2, k_list1, k_list2, k_min2, k_max2, k_non_non, k_ty_int_non, k_ty_bool_non, k_ty_tuple_non, k_ty_str_non, k_ty_list_non, k_non_bl, k_ty_int_bl, k_ty_bool_bl, k_ty_tuple_bl, k_ty_str_bl, k_ty_list_bl, k_non_int, k_ty_int_int, k_ty_bool_int, k_ty_tuple_int, k_ty_str_int, k_ty_list_int, k_non_str, k_ty_int_str, k_ty_bool_str, k_ty_tuple_str, k_ty_str_str, k_ty_list_str, k_non_tup, k_ty_int_tup, k_ty_bool_tup, k_ty_tuple_tup, k_ty_str_tup, k_ty_list_tup, k_non_lst, k_ty_int_lst, k_ty_bool_lst, k_ty_tuple_lst, k_ty_str_lst, k_ty_list_lst, k_non_emp, k_ty_int_emp, k_ty_bool_emp, k_ty_tuple_emp, k_ty_str_emp, k_ty_list_emp, k_seq_non, k_seq_bl, k_seq_int, k_seq_str, k_seq_tup, k_seq_lst, k_seq_emp, k_sz0, k_sz1, k_sz2, k_sz3, k_sz4, k_sz5, k_sz6, k_sz7, k_sz8, k_sz9, k_sz10, k_sz11, k_sz12, k_sz13, k_sz14, k_sz15, k_sz16, k_sz17, k_sz18, k_sz19, k_sz20, k_sz21, k_sz22, k_sz23, k_at0, k_at1, k_at2, k_at3, k_iteT, k_iteF, k_bt1, k_bt2, k_sa0, k_sa1, k_endn, k_endr, List.getElem?_cons_succ, List.getElem?_cons_zero, List.set_cons_succ, List.set_cons_zero, List.length_cons, List.length_nil, List.length_map, List.all_cons, List.all_nil, Nat.reduceAdd, Nat.zero_add, Bool.and_true, Bool.and_self, Option.some.injEq, Dt.int.injEq, Dt.bl.injEq, Dt.str.injEq, Dt.tup.injEq, Dt.lst.injEq, Sv.dat.injEq, Sv.own.injEq, exists_eq_left', exists_eq_left, exists_eq_right, exists_eq', exists_eq, if_true, if_false, Bool.not_false, Bool.not_true, Bool.not_not, true_and, and_true, false_and, and_false, exists_const, reduceCtorEq])


/-! ### how many sets are kept in each form -/
theorem kept_rng {b : Book} (h : BookOk b) (s : Int × Int) : 0 ≤ kept b s ∧ kept b s < b.ps.length := kept_form h.form s
def S_many_kept {Ω : Type} : Spc Ω := pureS (ι := Book) (fun b => [dB b]) (fun b => BookOk b ∧ b.w ≤ 60) fun b => .tup ((rowG (kept b) b.ps.length b.w (shapes b.w)).map .int)
abbrev p_many_kept {Ω : Type} : DS Ω :=
  (wSeq (wOwn 1 (wOpL fMulL (wL (wLst (wCons (wC (.int 0)) wNil))) (wF fLen (wOp fIx (wVar 0) (wC (.int 1))))))
  (wSeq (wFor (.one 2) (wShp (wOp fIx (wVar 0) (wC (.int 0)))) (wSeq (wSet 3 (wCall S_kept (wCons (wVar 0) (wCons (wVar 2) wNil))))
  (wSetIx 1 (wOp fAdd (wOp fIx (wVar 1) (wVar 3)) (wCall S_many (wCons (wOp fIx (wVar 0) (wC (.int 0))) (wCons (wVar 2) wNil)))) (wVar 3))))
  (wRet (wF fTuple (wVar 1)))))
theorem rep_ints (n : Nat) : (List.replicate n [Dt.int 0]).flatten = (List.replicate n (0 : Int)).map .int := by
  induction n with
  | zero => rfl
  | succ n ih => rw [List.replicate_succ, List.flatten_cons, ih, List.replicate_succ]; rfl
theorem m_many_kept {Ω : Type} : ∀ ds (w : Ω) C, S_many_kept.run ds w C → p_many_kept (endD C) (startD 4 ds) w := by
  rintro ds w C ⟨b, rfl, ⟨hb, hw⟩, hC⟩
  obtain ⟨w1, w2⟩ := hb.w
  obtain ⟨p1, p2⟩ := hb.ps
  show p_many_kept _ [some (.dat (dB b)), none, none, none] _
  unfold p_many_kept dB
  walk_at "ck"
  refine ⟨by omega, by omega, size1M (by omega), w1, hw, ?_⟩
  rw [Int.toNat_natCast, rep_ints]
  refine loop_map dS (shapes b.w) (fun k s => ∃ x2 x3, s = [some (.dat (dB b)), some (.own ((rowG (kept b) b.ps.length b.w ((shapes b.w).take k)).map .int)), x2, x3]) (fun _ => false) (fun i y s hy hb2 hj => ?_) ⟨none, none, ?_⟩ (fun hb2 s hj => ?_)
  · obtain ⟨x2, x3, rfl⟩ := hj
    have hsh : IsSh b.w y := (mem_shapes w1).mp (List.mem_of_getElem? hy)
    obtain ⟨⟨m0, m1⟩, r0, r1, _⟩ := price_room (m := y.1) (r := y.2) hsh
    obtain ⟨k0, k1⟩ := kept_rng hb y
    obtain ⟨f, hf⟩ : ∃ f : Nat, kept b y = (f : Int) := ⟨(kept b y).toNat, by omega⟩
    have hfl : f < b.ps.length := by omega
    refine ⟨_, rfl, fun N hN => ?_⟩
    walk_at "ck"
    refine use_pure (b, y) ⟨hb.bd, sh_bd hsh w2 w1⟩ ?_
    unfold dB
    walk_at "ck"
    refine ⟨.int (sumG (kept b) b.w ((shapes b.w).take i) f), ?_, ?_⟩
    · rw [hf]
      refine atI_ofNat ?_
      rw [List.getElem?_map, rowG_at hfl]
      rfl
    refine use_pure (b.w, y) ⟨by show b.w ≤ 900; omega, m0, by show y.1 ≤ 900; omega⟩ ?_
    walk_at "ck"
    refine ⟨_, f, hf, ?_, hN rfl _ ⟨some (.dat (dS y)), some (.dat (.int (kept b y))), ?_⟩⟩
    · rw [rowG_len]
      unfold L2.ixN
      rw [if_pos (by omega), if_pos (by omega), Int.toNat_natCast]
    · rw [List.take_succ, hy, Option.toList_some, ← rowG_add hfl hf, List.map_set]
      rfl
  · rw [List.take_zero, rowG_nil]
    rfl
  · obtain ⟨x2, x3, rfl⟩ := hj
    rw [List.take_length]
    walk_at "ck"
    exact hC
/-! ### the law's own counts -/
def cntRow (g : Int × Int → Int) (n : Nat) (L : List (List Int)) : List Int := (List.range n).map fun m => (cntG g L m : Int)
theorem cntRow_nil {g : Int × Int → Int} {n : Nat} : cntRow g n [] = List.replicate n 0 := by
  unfold cntRow
  rw [List.eq_replicate_iff]
  refine ⟨by simp, fun x hx => ?_⟩
  obtain ⟨m, _, rfl⟩ := List.mem_map.mp hx
  rfl
theorem cntRow_len {g : Int × Int → Int} {n : Nat} (L : List (List Int)) : (cntRow g n L).length = n := by simp [cntRow]
theorem cntRow_at {g : Int × Int → Int} {n m : Nat} {L : List (List Int)} (h : m < n) : (cntRow g n L)[m]? = some (cntG g L m : Int) := by
  unfold cntRow
  rw [List.getElem?_map, List.getElem?_range h]
  rfl
theorem cntG_app {g : Int × Int → Int} {L : List (List Int)} {x : List Int} (m : Nat) : cntG g (L ++ [x]) m = cntG g L m + if g (shI x) = (m : Int) then 1 else 0 := by
  unfold cntG
  rw [List.countP_append, List.countP_singleton]
  by_cases e : g (shI x) = (m : Int) <;> simp [e]
theorem cntRow_add {g : Int × Int → Int} {n m : Nat} {L : List (List Int)} {x : List Int} (h : m < n) (hs : g (shI x) = (m : Int)) : (cntRow g n L).set m ((cntG g L m : Int) + 1) = cntRow g n (L ++ [x]) := by
  apply List.ext_getElem?
  intro i
  by_cases hi : i < n
  · rw [List.getElem?_set, cntRow_at hi, cntRow_at hi, cntG_app, hs, cntRow_len]
    by_cases e : m = i
    · subst e
      rw [if_pos rfl, if_pos h, if_pos rfl]
      rfl
    · rw [if_neg e, if_neg (by omega)]
      rfl
  · rw [List.getElem?_eq_none (by rw [List.length_set, cntRow_len]; omega), List.getElem?_eq_none (by rw [cntRow_len]; omega)]
theorem shI_bd {w : Nat} (h1 : 1 ≤ w) (h2 : w ≤ 1000) {x : List Int} (h : x ∈ setsTo w) : BdS (shI x) := sh_bd (w := w) ((mem_shapes (by omega)).mp (set_shape h1 h)) (by omega) (by omega)
theorem rows_shw {l : List Int} {n : Nat} (h : ∀ x ∈ l, -(2 ^ 62) < x ∧ x < 2 ^ 62) (hn : l.length ≤ n) : Shw n 1 (.tup (l.map .int)) := by
  refine (shw_tup (shwL_map (f := Dt.int) (k := 0) (n := 0) fun x hx => shw_int62 (h x hx).1 (h x hx).2)).mono ?_ (Nat.le_refl _)
  rw [Nat.zero_add, Nat.mul_one]
  exact hn
theorem sum_pos : ∀ {l : List Int}, (∀ z ∈ l, 0 ≤ z) → 0 ≤ l.sum
  | [], _ => Int.le_refl _
  | a :: l, h => by
    rw [List.sum_cons]
    have := h a List.mem_cons_self
    have := sum_pos (l := l) fun z hz => h z (List.mem_cons_of_mem _ hz)
    omega
theorem mem_le_sum {x : Int} : ∀ {l : List Int}, (∀ z ∈ l, 0 ≤ z) → x ∈ l → x ≤ l.sum
  | a :: l, h, hx => by
    rw [List.sum_cons]
    have h0 := h a List.mem_cons_self
    have h1 := sum_pos (l := l) fun z hz => h z (List.mem_cons_of_mem _ hz)
    rcases List.mem_cons.mp hx with rfl | hx
    · omega
    · have := mem_le_sum (l := l) (fun z hz => h z (List.mem_cons_of_mem _ hz)) hx
      omega
theorem manyI_pos {w : Int} {s : Int × Int} (h : IsSh w s) : 0 ≤ manyI w s := by
  unfold manyI
  split
  · split <;> decide
  · obtain ⟨a, ea, _⟩ := chI_nat (a := s.1 - 1) (b := s.2 - 1)
    obtain ⟨b, eb, _⟩ := chI_nat (a := w - s.1 + 1) (b := s.2)
    rw [ea, eb]
    exact Int.mul_nonneg (Int.natCast_nonneg _) (Int.natCast_nonneg _)
-- N ['_law_script', '_law_deck_here', '_law_turn', '_law_width', '_law_book_here', '_law_counts', '_law_places', '_law_form', '_law_total', '_law_k', '_law_due', '_law_shape_here'] own {'_law_due', '_law_counts'}
abbrev p_lawmain : DS Dw :=
  (wSeq (wFor (.one 2) (wiR1 (wC (.int 3))) (wSeq (wSet 3 (wOp fAdd (wC (.int 1)) (wCall S_law_draw (wCons (wVar 1) (wCons (wC (.int 9)) wNil)))))
  (wSeq (wSet 4 (wCall S_law_book (wCons (wVar 1) (wCons (wVar 3) wNil))))
  (wSeq (wOwn 5 (wOpL fMulL (wL (wLst (wCons (wC (.int 0)) wNil))) (wF fLen (wOp fIx (wVar 4) (wC (.int 1))))))
  (wSeq (wFor (.one 6) (wiSeq (wCall S_law_all_sets (wCons (wVar 3) wNil))) (wSeq (wSet 7 (wCall S_law_kept (wCons (wVar 4) (wCons (wCall S_law_shape (wCons (wVar 6) wNil)) wNil))))
  (wSetIx 5 (wOp fAdd (wOp fIx (wVar 5) (wVar 7)) (wC (.int 1))) (wVar 7))))
  (wSeq (wIfS (wTV (wOp fNe (wF fRepr (wCall S_many_kept (wCons (wVar 4) wNil))) (wF fRepr (wF fTuple (wVar 5))))) (wRet (wC (.bl false))) wNext)
  (wSeq (wSet 3 (wOp fAdd (wC (.int 10)) (wCall S_law_draw (wCons (wVar 1) (wCons (wC (.int 31)) wNil)))))
  (wSeq (wPar 4 8 (wCons (wCall S_law_book (wCons (wVar 1) (wCons (wVar 3) wNil))) (wCons (wC (.int 1)) wNil)))
  (wSeq (wFor (.one 9) (wiR1 (wVar 3)) (wSet 8 (wOp fMul (wVar 8) (wC (.int 2)))))
  (wSeq (wOwn 10 (wOpL fMulL (wL (wLst (wCons (wC (.int 0)) wNil))) (wF fLen (wOp fIx (wVar 4) (wC (.int 1))))))
  (wSeq (wFor (.one 11) (wiSeq (wCall S_law_shapes (wCons (wVar 3) wNil))) (wSeq (wSet 7 (wCall S_law_kept (wCons (wVar 4) (wCons (wVar 11) wNil))))
  (wSetIx 10 (wOp fAdd (wOp fIx (wVar 10) (wVar 7)) (wCall S_many (wCons (wVar 3) (wCons (wVar 11) wNil)))) (wVar 7))))
  (wIfS (wTOr (wTV (wOp fNe (wF fRepr (wCall S_many_kept (wCons (wVar 4) wNil))) (wF fRepr (wF fTuple (wVar 10))))) (wTV (wOp fNe (wF fSum (wVar 10)) (wVar 8)))) (wRet (wC (.bl false))) wNext))))))))))))
  (wRet (wC (.bl true))))
theorem m_lawmain : ∀ a q, p_lawmain (endD fun d _ => d = .bl true) (lawSl 12 a q) ⟨q, allD⟩ := by
  intro a q
  show p_lawmain _ [some (.dat (.opq (.ref a))), some (.dat (.opq (.ref q))), none, none, none, none, none, none, none, none, none, none] _
  unfold p_lawmain
  walk_at "ck"
  refine ⟨by decide, by decide, ?_⟩
  rw [rngD_eq]
  refine loop_drawN (rngN 0) 402 (fun k sl => ∃ x2 x3 x4 x5 x6 x7 x8 x9 x10 x11, sl = [some (.dat (.opq (.ref a))), some (.dat (.opq (.ref q))), x2, x3, x4, x5, x6, x7, x8, x9, x10, x11]) _ ?_ ⟨_, _, _, _, _, _, _, _, _, _, rfl⟩ (by decide) ?_
  · rintro k j sl hj ⟨x2, x3, x4, x5, x6, x7, x8, x9, x10, x11, rfl⟩
    refine ⟨_, rfl, fun n N hn hN => ?_⟩
    walk_at "ck"
    refine use_draw (by omega) (by omega) (by omega) fun y n2 y0 y1 e2 => ?_
    obtain ⟨v, rfl⟩ : ∃ w : Nat, y = (w : Int) := ⟨y.toNat, by omega⟩
    walk_at "ck"
    refine use_drawS (1 + (v : Int)) ⟨by omega, by omega⟩ (by omega) fun d m1 hd hm1 => ?_
    obtain ⟨b, rfl, bw, hb, bp, br⟩ := hd
    obtain ⟨p1, p2⟩ := hb.ps
    walk_at "ck"
    unfold dB
    walk_at "ck"
    refine ⟨by omega, by omega, size1M (by omega), ?_⟩
    rw [Int.toNat_natCast, rep_ints]
    have ev : (1 + (v : Int)).toNat = v + 1 := by omega
    have evi : (1 + (v : Int)) = ((v + 1 : Nat) : Int) := by omega
    refine use_pure (1 + (v : Int)) ⟨by omega, by omega⟩ ?_
    walk_at "ck"
    rw [ev]
    have hsets : (setsTo (v + 1)).length ≤ 512 := by
      rw [setsTo_len]
      calc 2 ^ (v + 1) ≤ 2 ^ 9 := Nat.pow_le_pow_right (by decide) (by omega)
        _ = 512 := by decide
    refine loop_map dPl (setsTo (v + 1)) (fun k s => ∃ x6 x7, s = [some (.dat (.opq (.ref a))), some (.dat (.opq (.ref q))), some (.dat (rngN 0 j)), some (.dat (.int (1 + (v : Int)))), some (.dat (dB b)), some (.own ((cntRow (kept b) b.ps.length ((setsTo (v + 1)).take k)).map .int)), x6, x7, x8, x9, x10, x11]) (fun _ => false) (fun i y s hy hb2 hj => ?_) ⟨x6, x7, ?_⟩ (fun hb2 s hj => ?_)
    · obtain ⟨x6, x7, rfl⟩ := hj
      have hmem := List.mem_of_getElem? hy
      obtain ⟨k0, k1⟩ := kept_rng hb (shI y)
      obtain ⟨f, hf⟩ : ∃ f : Nat, kept b (shI y) = (f : Int) := ⟨(kept b (shI y)).toNat, by omega⟩
      have hfl : f < b.ps.length := by omega
      have hok := setsTo_ok _ y hmem
      have hyl := hok.len (by omega)
      refine ⟨_, rfl, fun N hN => ?_⟩
      walk_at "ck"
      refine use_pure y (by show y.length ≤ 100000; omega) ?_
      refine use_pure (b, shI y) ⟨hb.bd, shI_bd (by omega) (by omega) hmem, hb.small⟩ ?_
      walk_at "ck"
      refine ⟨.int (cntG (kept b) ((setsTo (v + 1)).take i) f), ?_, ?_⟩
      · rw [hf]
        refine atI_ofNat ?_
        rw [List.getElem?_map, cntRow_at hfl]
        rfl
      walk_at "ck"
      refine ⟨_, f, hf, ?_, hN rfl _ ⟨some (.dat (dPl y)), some (.dat (.int (kept b (shI y)))), ?_⟩⟩
      · rw [cntRow_len]
        unfold L2.ixN
        rw [if_pos (by omega), if_pos (by omega), Int.toNat_natCast]
      · rw [List.take_succ, hy, Option.toList_some, ← cntRow_add hfl hf, List.map_set]
    · rw [List.take_zero, cntRow_nil]
      rfl
    · obtain ⟨x6, x7, rfl⟩ := hj
      rw [List.take_length]
      walk_at "ck"
      refine use_pure b ⟨hb, by omega⟩ ?_
      have er : rowG (kept b) b.ps.length b.w (shapes b.w) = cntRow (kept b) b.ps.length (setsTo (v + 1)) := by
        rw [bw, evi]
        exact row_sets (by omega) (kept b) b.ps.length
      have hs1 : Shw 10 1 (.tup ((cntRow (kept b) b.ps.length (setsTo (v + 1))).map .int)) := rows_shw (fun x hx => by
        obtain ⟨m, _, rfl⟩ := List.mem_map.mp hx
        have : cntG (kept b) (setsTo (v + 1)) m ≤ 512 := Nat.le_trans List.countP_le_length hsets
        omega) (by rw [cntRow_len]; omega)
      rw [er]
      refine repr_ok hs1 (by decide) (by decide) ?_
      walk_at "ck"
      refine repr_ok hs1 (by decide) (by decide) ?_
      walk_at "ck"
      refine ite2 (fun h => absurd h (by simp)) fun _ => ?_
      clear hs1 er hsets
      refine use_draw (by omega) (by omega) (by omega) fun y n3 y2 y3 e3 => ?_
      obtain ⟨u, rfl⟩ : ∃ w : Nat, y = (w : Int) := ⟨y.toNat, by omega⟩
      walk_at "ck"
      refine use_drawS (10 + (u : Int)) ⟨by omega, by omega⟩ (by omega) fun d m2 hd hm2 => ?_
      obtain ⟨c, rfl, cw, hc, cp, cr⟩ := hd
      obtain ⟨q1, q2⟩ := hc.ps
      have eu : (10 + (u : Int)).toNat = u + 10 := by omega
      have eui : (10 + (u : Int)) = ((u + 10 : Nat) : Int) := by omega
      refine ⟨by omega, by omega, ?_⟩
      rw [eu, rngD_eq]
      refine loop_map (rngN 0) (List.range (u + 10)) (fun k s => ∃ x9, s = [some (.dat (.opq (.ref a))), some (.dat (.opq (.ref q))), some (.dat (rngN 0 j)), some (.dat (.int (10 + (u : Int)))), some (.dat (dB c)), some (Sv.own (List.map Dt.int (cntRow (kept b) b.ps.length (setsTo (v + 1))))), x6, x7, some (.dat (.int ((2 ^ k : Nat) : Int))), x9, x10, x11]) (fun _ => false) (fun i y s hy hb2 hj => ?_) ⟨x9, rfl⟩ (fun hb2 s hj => ?_)
      · obtain ⟨x9, rfl⟩ := hj
        refine ⟨_, rfl, fun N hN => ?_⟩
        walk_at "ck"
        have hi : i < u + 10 := by
          have := (List.getElem?_eq_some_iff.mp hy).1
          rw [List.length_range] at this
          exact this
        refine ⟨mulx_ok (a := 100) (b := 60) ?_ (by decide) (by decide), hN rfl _ ⟨some (.dat (rngN 0 y)), ?_⟩⟩
        · rw [Int.natAbs_natCast]
          exact Nat.pow_lt_pow_right (by decide) (by omega)
        · rw [Nat.pow_succ, Int.natCast_mul]
          rfl
      · obtain ⟨x9, rfl⟩ := hj
        rw [List.length_range]
        walk_at "ck"
        unfold dB
        walk_at "ck"
        refine ⟨by omega, by omega, size1M (by omega), ?_⟩
        rw [Int.toNat_natCast, rep_ints]
        refine use_pure (10 + (u : Int)) ⟨by omega, by omega⟩ ?_
        walk_at "ck"
        have w1 : 1 ≤ c.w := by omega
        rw [← cw]
        refine loop_map dS (shapes c.w) (fun k s => ∃ x7 x11, s = [some (.dat (.opq (.ref a))), some (.dat (.opq (.ref q))), some (.dat (rngN 0 j)), some (.dat (.int c.w)), some (.dat (dB c)), some (Sv.own (List.map Dt.int (cntRow (kept b) b.ps.length (setsTo (v + 1))))), x6, x7, some (.dat (.int ((2 ^ (u + 10) : Nat) : Int))), x9, some (.own ((rowG (kept c) c.ps.length c.w ((shapes c.w).take k)).map .int)), x11]) (fun _ => false) (fun i y s hy hb2 hj => ?_) ⟨x7, x11, ?_⟩ (fun hb2 s hj => ?_)
        · obtain ⟨x7, x11, rfl⟩ := hj
          have hsh : IsSh c.w y := (mem_shapes w1).mp (List.mem_of_getElem? hy)
          obtain ⟨⟨m0, m1⟩, r0, r1, _⟩ := price_room (m := y.1) (r := y.2) hsh
          obtain ⟨k0, k1⟩ := kept_rng hc y
          obtain ⟨f, hf⟩ : ∃ f : Nat, kept c y = (f : Int) := ⟨(kept c y).toNat, by omega⟩
          have hfl : f < c.ps.length := by omega
          refine ⟨_, rfl, fun N hN => ?_⟩
          walk_at "ck"
          refine use_pure (c, y) ⟨hc.bd, sh_bd hsh (by omega) w1, hc.small⟩ ?_
          walk_at "ck"
          refine ⟨.int (sumG (kept c) c.w ((shapes c.w).take i) f), ?_, ?_⟩
          · rw [hf]
            refine atI_ofNat ?_
            rw [List.getElem?_map, rowG_at hfl]
            rfl
          refine use_pure (c.w, y) ⟨by show c.w ≤ 900; omega, m0, by show y.1 ≤ 900; omega⟩ ?_
          walk_at "ck"
          refine ⟨_, f, hf, ?_, hN rfl _ ⟨some (.dat (.int (kept c y))), some (.dat (dS y)), ?_⟩⟩
          · rw [rowG_len]
            unfold L2.ixN
            rw [if_pos (by omega), if_pos (by omega), Int.toNat_natCast]
          · rw [List.take_succ, hy, Option.toList_some, ← rowG_add hfl hf, List.map_set]
        · rw [List.take_zero, rowG_nil]
          rfl
        · obtain ⟨x7, x11, rfl⟩ := hj
          rw [List.take_length]
          have etot : (rowG (kept c) c.ps.length c.w (shapes c.w)).sum = ((2 ^ (u + 10) : Nat) : Int) := by
            rw [rowG_sum (shapes c.w) fun s _ => kept_rng hc s, cw, eui]
            exact many_all (u + 10)
          walk_at "ck"
          refine use_pure c ⟨hc, by omega⟩ ?_
          have hs2 : Shw 10 1 (.tup ((rowG (kept c) c.ps.length c.w (shapes c.w)).map .int)) := rows_shw (fun x hx => ?_) (by rw [rowG_len]; omega)
          · refine repr_ok hs2 (by decide) (by decide) ?_
            walk_at "ck"
            refine repr_ok hs2 (by decide) (by decide) ?_
            walk_at "ck"
            refine ite2 (fun h => absurd h (by simp)) fun _ => ⟨_, rfl, ?_⟩
            rw [etot]
            walk_at "ck"
            refine ite2 (fun h => absurd h (by simp)) fun _ => ?_
            exact hN _ _ ⟨_, _, _, _, _, _, _, _, _, _, rfl⟩ (by omega)
          · have h2 : x ≤ ((2 ^ (u + 10) : Nat) : Int) ∧ 0 ≤ x := by
              rw [← etot]
              have pos : ∀ y ∈ rowG (kept c) c.ps.length c.w (shapes c.w), 0 ≤ y := fun y hy => by
                obtain ⟨m, _, rfl⟩ := List.mem_map.mp hy
                unfold sumG
                refine sum_pos fun z hz => ?_
                obtain ⟨s, hs, rfl⟩ := List.mem_map.mp hz
                exact manyI_pos ((mem_shapes w1).mp (List.mem_filter.mp hs).1)
              exact ⟨mem_le_sum pos hx, pos x hx⟩
            have h3 : (2 : Nat) ^ (u + 10) ≤ 2 ^ 60 := Nat.pow_le_pow_right (by decide) (by omega)
            omega
  · rintro sl m ⟨x2, x3, x4, x5, x6, x7, x8, x9, x10, x11, rfl⟩ e
    walk_at "ck"
end Ck
namespace Ck
open PySem PySem.Spec PyProof.Rows L2
def topS (i : Nat) : Stmt := PySem.Challenge.pw_chunkforms_k18_sets_kept_in_each_form.main.body.getD i (.Pass ⟨0, 0, 0, 0⟩)
/-- a def within a class -/
def clsS (i j : Nat) : Stmt := match topS i with
  | .ClassDef _ _ _ b _ _ _ _ _ _ _ => b.getD j (.Pass ⟨0, 0, 0, 0⟩)
  | _ => .Pass ⟨0, 0, 0, 0⟩
abbrev t_law_draw : Stmt := topS 13
theorem c_law_draw : FnScope ["_law_deck_here", "_law_below", "_law_cells", "_law_turn", "_law_rests", "_law_at", "_law_digit", "_law_mixed", "_law_again"] ["_law_deck_here", "_law_below"] (defScope t_law_draw) := ⟨rfl, rfl, rfl, by decide +kernel, rfl, by decide +kernel, by decide +kernel⟩
section
variable {P : Program} {w : World} {K : PySem.W.Frag} {mg : Str → Option Value} {base : Heap}
theorem pow3_lt {i : Int} (h0 : 0 ≤ i) (h : i < 2 ^ 60) : CPow i 3 := ⟨by decide, by decide, by omega⟩
theorem ok_law_draw {f : Addr} {fd : FuncData} (F : L2.Fun K "_law_draw" "_law_draw" t_law_draw f fd) (mi : mg "int" = none) (ml : mg "len" = none) : FnG P w K mg base CX0 1 f fd ["_law_deck_here", "_law_below"] (spOf K DeckW sDraw) := by
  refine FnG.ofOk (F.ok c_law_draw (fun vs H Q E h => ?_) fun cdv A outer s H vs Q E hr h => ?_)
  · obtain ⟨B, F', G, w', ds, h1, h2, n, rfl, _⟩ := h
    exact h2.len
  · obtain ⟨B, F', G, ⟨p, nn⟩, ds, hh, hd, n, rfl, hn0, hn1, hn2, q⟩ := h
    obtain ⟨c, r, cells, rests, t, D, ht0, ht1⟩ := hh.w
    have D : DeckAt G p c r cells rests t := D
    have ht1 : t + (nn : Int) ≤ 2 ^ 40 := ht1
    have hn2 : 1 ≤ nn := hn2
    cases hd with
    | cons d1 hd =>
      cases hd with
      | cons d2 hd =>
        cases hd
        cases d1
        cases d2
        refine ⟨_, pss_cons (ps_asg (pv 0) (pg_unl rfl (pgs_cons (pg_name (i := 2) c_law_draw.nd rfl (.inl rfl)) (pgs_cons (pg_name (i := 3) c_law_draw.nd rfl (.inl rfl)) (pgs_cons (pg_name (i := 4) c_law_draw.nd rfl (.inl rfl)) pgs_nil)))))
          (pss_cons (ps_set (i := 5) c_law_draw.nd rfl (.inl rfl) (pe_op op_mod (pe_callTy call_int1 (by rfl) mi PySem.Pv.boot_int (pa_cons (pv 3) pa_nil)) (pe_callB call_len_seq (by rfl) ml PySem.boot_len (pa_cons (pv 2) pa_nil))))
          (pss_cons (ps_asg (pe_op op_add (pv 3) pe_int) (pg_sub (pv 0) pe_int set_list))
          (pss_cons (ps_if (pt_cmpR op_gt (pe_ix ix_list (pv 4) (pv 5) (fun _ _ => rfl)) pe_int (nomark _))
            (pss_cons (ps_set (i := 6) c_law_draw.nd rfl (.inl rfl) (pe_op op_mod (pe_callTy call_int1 (by rfl) mi PySem.Pv.boot_int (pa_cons (pe_ix ix_list (pv 4) (pv 5) (fun _ _ => rfl)) pa_nil)) (pv 1)))
            (pss_cons (ps_asg (pe_op op_fdivW (pe_ix ix_list (pv 4) (pv 5) (fun _ _ => rfl)) (pv 1)) (pg_sub (pv 4) (pv 5) set_list))
            (pss_one (ps_ret (pv 6))))) pss_nil)
          (pss_cons (ps_set (i := 7) c_law_draw.nd rfl (.inl rfl) (pe_op op_mod (pe_op op_pow (pe_op op_add (pe_op op_add (pe_op op_mod (pe_callTy call_int1 (by rfl) mi PySem.Pv.boot_int (pa_cons (pe_ix ix_list (pv 2) (pv 5) (fun _ _ => rfl)) pa_nil)) pe_int) (pe_op op_mul pe_int (pv 3))) pe_int) pe_int) pe_int))
          (pss_cons (ps_set (i := 8) c_law_draw.nd rfl (.inl rfl) (pe_op op_mod (pe_op op_pow (pe_op op_add (pe_op op_add (pv 7) (pe_op op_mul pe_int (pv 3))) pe_int) pe_int) pe_int))
          (pss_one (ps_ret (pe_op op_mod (pe_op op_mod (pe_callTy call_int1 (by rfl) mi PySem.Pv.boot_int (pa_cons (pe_op op_add (pe_op op_mul (pv 8) pe_int) (pv 7)) pa_nil)) pe_int) (pv 1))))))))), ?_⟩
        have hp : H p = some (.lst [.ref c, .int t, .ref r]) := hh.g _ _ D.hp
        have hcl : 0 < ((cells.map V.int).length : Int) := by
          rw [List.length_map]
          have := D.pos
          omega
        obtain ⟨j, hj, hjl⟩ : ∃ j : Nat, t % ((cells.map V.int).length : Int) = (j : Int) ∧ j < cells.length := by
          have h1 := Int.emod_nonneg t (Int.ne_of_gt hcl)
          have h2 := Int.emod_lt_of_pos t hcl
          rw [List.length_map] at h2 h1 ⊢
          exact ⟨(t % (cells.length : Int)).toNat, by omega, by omega⟩
        -- the deck's names
        refine ⟨.ref p, rfl, p, [.ref c, .int t, .ref r], rfl, .of hp, rfl, .ref c, _, rfl, .int t, _, rfl, .ref r, [], rfl, rfl, ?_⟩
        -- the cell's place
        refine ⟨.int t, rfl, .inl ⟨t, rfl, .ref c, rfl, c, _, rfl, .inl (.of (hh.g _ _ D.hc)), t, _, rfl, rfl, hcl, ?_⟩⟩
        simp only [hj]
        -- one draw more
        refine ⟨.int t, rfl, t, 1, rfl, rfl, .ref p, rfl, p, _, 1, 1, rfl, rfl, hp, rfl, ?_⟩
        have hh1 : HR Wd.all B F' (upd G p (.lst [.ref c, .int (t + 1), .ref r])) (upd H p (.lst [.ref c, .int (t + 1), .ref r])) () := hh.setG D.hp (fun z => nomatch z) trivial trivial
        have hr1 : (upd H p (.lst [.ref c, .int (t + 1), .ref r])) r = some (.lst (rests.map V.int)) := by
          rw [upd_ne D.pr.symm]
          exact hh.g _ _ D.hr
        have hc1 : (upd H p (.lst [.ref c, .int (t + 1), .ref r])) c = some (.lst (cells.map V.int)) := by
          rw [upd_ne D.pc.symm]
          exact hh.g _ _ D.hc
        have hjr : j < rests.length := by
          rw [D.len]
          exact hjl
        have atr : atI (rests.map V.int) (j : Int) = some (.int rests[j]) := atI_nat (by rw [List.getElem?_map, List.getElem?_eq_getElem hjr]; rfl)
        have atc : atI (cells.map V.int) (j : Int) = some (.int cells[j]) := atI_nat (by rw [List.getElem?_map, List.getElem?_eq_getElem hjl]; rfl)
        refine ⟨.ref r, rfl, .int (j : Int), rfl, r, _, (j : Int), _, rfl, rfl, .of hr1, atr, rests[j], 0, rfl, rfl, _, rfl, ite2 (fun hpos => ?_) (fun hneg => ?_)⟩
        · -- a digit of the rest
          have hpos : 0 < rests[j] := of_decide_eq_true hpos
          refine ⟨.ref r, rfl, .int (j : Int), rfl, r, _, (j : Int), _, rfl, rfl, .of hr1, atr, .inl ⟨rests[j], rfl, .int n, rfl, rests[j], n, rfl, rfl, hn0, ?_⟩⟩
          refine ⟨.ref r, rfl, .int (j : Int), rfl, r, _, (j : Int), _, rfl, rfl, .of hr1, atr, .int n, rfl, rests[j], n, rfl, rfl, ⟨hn0, ?_⟩, .ref r, rfl, .int (j : Int), rfl, r, _, (j : Int), j, rfl, rfl, hr1, ?_, ?_⟩
          · have : n.natAbs < 2 ^ 60 := by omega
            exact Nat.lt_trans (PySem.Flt.log2_lt_of (by decide) this) (by decide)
          · unfold ixN
            rw [if_pos (Int.natCast_nonneg j), if_pos (by rw [List.length_map]; omega)]
            rfl
          · refine ⟨.int (rests[j] % n), rfl, ?_⟩
            have e2 : (rests.map V.int).set j (.int (rests[j] / n)) = (rests.set j (rests[j] / n)).map V.int := by rw [List.map_set]
            have hG1 : (upd G p (.lst [.ref c, .int (t + 1), .ref r])) r = some (.lst (rests.map V.int)) := by
              rw [upd_ne D.pr.symm]
              exact D.hr
            rw [e2]
            refine q (rests[j] % n) (nn - 1) (Int.emod_nonneg _ (Int.ne_of_gt hn0)) (Int.emod_lt_of_pos _ hn0) (by show nn ≤ nn - 1 + 1; omega) _ F' (upd (upd G p (.lst [.ref c, .int (t + 1), .ref r])) r (.lst ((rests.set j (rests[j] / n)).map V.int))) _ (hh1.setG hG1 (fun z => nomatch z) ?_ trivial) (Same.refl _) (.int _)
            refine ⟨c, r, cells, rests.set j (rests[j] / n), t + 1, ⟨?_, ?_, upd_same, D.pc, D.pr, D.cr, by rw [List.length_set]; exact D.len, D.pos, D.few⟩, by omega, by show t + 1 + ((nn - 1 : Nat) : Int) ≤ _; omega⟩
            · rw [upd_ne D.pr, upd_same]
            · rw [upd_ne D.cr, upd_ne D.pc.symm]
              exact D.hc
        · -- a mix
          have b1 : 0 ≤ cells[j] % 2147483477 := Int.emod_nonneg _ (by decide)
          have b2 : cells[j] % 2147483477 < 2147483477 := Int.emod_lt_of_pos _ (by decide)
          refine ⟨.ref c, rfl, .int (j : Int), rfl, c, _, (j : Int), _, rfl, rfl, .of hc1, atc, .inl ⟨cells[j], rfl, cells[j], 2147483477, rfl, rfl, (by show (0 : Int) < 2147483477; decide), .int t, rfl, 65537, t, rfl, rfl, .inl ⟨by decide, by decide⟩, _, _, rfl, rfl, _, 6151, rfl, rfl, _, 3, rfl, rfl, pow3_lt (by omega) (by omega), _, 2147483399, rfl, rfl, (by show (0 : Int) < 2147483399; decide), ?_⟩⟩
          obtain ⟨x, hx⟩ : ∃ x, (cells[j] % 2147483477 + 65537 * t + 6151) ^ (3 : Int).toNat % 2147483399 = x := ⟨_, rfl⟩
          simp only [hx]
          have x1 : 0 ≤ x := by rw [← hx]; exact Int.emod_nonneg _ (by decide)
          have x2 : x < 2147483399 := by rw [← hx]; exact Int.emod_lt_of_pos _ (by decide)
          refine ⟨.int x, rfl, .int t, rfl, 10007, t, rfl, rfl, .inl ⟨by decide, by decide⟩, x, _, rfl, rfl, _, 29, rfl, rfl, _, 3, rfl, rfl, pow3_lt (by omega) (by omega), _, 2147483353, rfl, rfl, (by show (0 : Int) < 2147483353; decide), ?_⟩
          obtain ⟨y, hy⟩ : ∃ y, (x + 10007 * t + 29) ^ (3 : Int).toNat % 2147483353 = y := ⟨_, rfl⟩
          simp only [hy]
          have y1 : 0 ≤ y := by rw [← hy]; exact Int.emod_nonneg _ (by decide)
          have y2 : y < 2147483353 := by rw [← hy]; exact Int.emod_lt_of_pos _ (by decide)
          refine ⟨.int y, rfl, y, 2147483323, rfl, rfl, .inl ⟨by omega, by omega⟩, .int x, rfl, _, x, rfl, rfl, .inl ⟨_, rfl, _, 4611686018427387847, rfl, rfl, (by show (0 : Int) < 4611686018427387847; decide), .int n, rfl, _, n, rfl, rfl, hn0, ?_⟩⟩
          refine q _ (nn - 1) (Int.emod_nonneg _ (Int.ne_of_gt hn0)) (Int.emod_lt_of_pos _ hn0) (by show nn ≤ nn - 1 + 1; omega) _ F' (upd G p (.lst [.ref c, .int (t + 1), .ref r])) _ (hh.setG D.hp (fun z => nomatch z) ?_ trivial) (Same.refl _) (.int _)
          refine ⟨c, r, cells, rests, t + 1, ⟨upd_same, ?_, ?_, D.pc, D.pr, D.cr, D.len, D.pos, D.few⟩, by omega, by show t + 1 + ((nn - 1 : Nat) : Int) ≤ _; omega⟩
          · rw [upd_ne D.pc.symm]
            exact D.hc
          · rw [upd_ne D.pr.symm]
            exact D.hr
end
abbrev t_law_deck : Stmt := topS 12
abbrev N_law_deck : List Str := ["_law_script", "_law_cells", "_law_cell"]
theorem c_law_deck : FnScope N_law_deck ["_law_script"] (defScope t_law_deck) := ⟨rfl, rfl, rfl, by decide +kernel, rfl, by decide +kernel, by decide +kernel⟩
/-- the script -/
def ScriptAt (K : PySem.W.Frag) (H : Hp) (a : Addr) : Prop := ∃ zs : List Int, SqL K H a (zs.map V.int) ∧ zs.length ≤ 63 ∧ ∀ z ∈ zs, Builtin.Int.intBits z ≤ 1048576
def spDeck (K : PySem.W.Frag) : Sp := fun vs H Q _ => ∃ a, vs = [.ref a] ∧ ScriptAt K H a ∧ ∀ H' p c r cells rests, DeckAt H' p c r cells rests 0 → Q (.ref p) H'
abbrev noW : Wd Unit := Wd.all
section
variable {P : Program} {w : World} {K : PySem.W.Frag} {mg : Str → Option Value} {base : Heap}
theorem drL_ints {F : Hp} : ∀ zs : List Int, DrL K F (zs.map V.int) (zs.map Dt.int)
  | [] => .nil
  | z :: zs => .cons (.int z) (drL_ints zs)
theorem ints_drL {F : Hp} : ∀ (zs : List Int) (vs : List V), DrL K F vs (zs.map Dt.int) → vs = zs.map V.int
  | [], vs, h => by
    cases h
    rfl
  | z :: zs, vs, h => by
    cases h with
    | cons h1 h2 =>
      cases h1
      rw [ints_drL zs _ h2]
      rfl
theorem deck_cells {zs : List Int} : cutV (zs.map V.int) none (some 63) = (zs.take 63).map V.int := by
  unfold cutV
  rw [HT.sIx_none, show HT.sIx (zs.map V.int).length (zs.map V.int).length (some 63) = min 63 (zs.map V.int).length from HT.sIx_nat _ _ 63, List.drop_zero, Nat.sub_zero, List.length_map, ← List.map_take]
  congr 1
  exact List.take_eq_take_min.symm
theorem ok_law_deck {f : Addr} {fd : FuncData} (F : L2.Fun K "_law_deck" "_law_deck" t_law_deck f fd) (mi : mg "int" = none) (ml : mg "len" = none) (mt : mg "list" = none) : FnG P w K mg base CX0 1 f fd ["_law_script"] (spDeck K) := by
  refine FnG.of F c_law_deck (fun vs H Q E h => ?_) fun cdv A outer s H vs Q E hgu hr h => ?_
  · obtain ⟨a, rfl, _⟩ := h
    rfl
  · obtain ⟨a, rfl, ⟨zs, hS, hl, hb⟩, q⟩ := h
    refine ⟨_, pss_cons (ps_set (i := 1) c_law_deck.nd rfl (.inl rfl) (pe_op op_cat (pe_callTy call_list_of (by rfl) mt PySem.Pv.boot_list (pa_cons (pe_slice sl_list (pv 0) po_none (po_some pe_int)) pa_nil))
        (pe_op op_rep (pe_lst (pa_cons pe_int pa_nil)) (pe_callTy call_int1 (by rfl) mi PySem.Pv.boot_int (pa_cons (pe_cmpR op_eq (pe_callB call_len_seq (by rfl) ml PySem.boot_len (pa_cons (pv 0) pa_nil)) pe_int (nomark _)) pa_nil)))))
      (pss_one (ps_ret (pe_lst (pa_cons (pv 1) (pa_cons pe_int (pa_cons (PDL.run (W := noW) (dl_lc [("_law_cell", 2)] rfl c_law_deck.nd (blkOk_by (N := N_law_deck) (sc := defScope t_law_deck) (by decide +kernel)) (di_seq (d_var 1)) (fun _ _ _ _ _ => tg_one (i := 2) c_law_deck.nd rfl (by first | exact .inl rfl | exact .inr rfl)) (fun _ _ _ _ _ => dts_nil)
        (fun _ _ _ _ _ => d_op op_mulA od_mul (d_var 2) (d_t1 call_int1 fd_int (by rfl) mi PySem.Pv.boot_int (d_cmp op_ge od_cmp (d_var 2) (d_op op_pow od_pow d_int d_int) (nomark _)))) (by decide))) pa_nil)))))), ?_⟩
    have s0 : ∀ {H1 : Hp} {p : Addr} {o : HO}, H1 p = none → Same H1 (upd H1 p o) := fun h => sameUpd h
    refine ⟨.ref a, rfl, 63, rfl, a, zs.map V.int, rfl, hS, fun c0 n0 => ?_⟩
    refine ⟨c0, _, rfl, .inl (.inl (.inl upd_same)), fun c1 n1 => ?_⟩
    refine ⟨size1M (by decide), fun c2 n2 => ?_⟩
    have h1 : (upd (upd (upd H c0 (.lst (cutV (zs.map V.int) none (some 63)))) c1 (.lst (cutV (zs.map V.int) none (some 63)))) c2 (.lst [.int 0])) c1 = some (.lst (cutV (zs.map V.int) none (some 63))) := sameUpd n2 _ _ upd_same
    have hA : SqL K (upd (upd (upd H c0 (.lst (cutV (zs.map V.int) none (some 63)))) c1 (.lst (cutV (zs.map V.int) none (some 63)))) c2 (.lst [.int 0])) a (zs.map V.int) := ((sameUpd n0).trans ((sameUpd n1).trans (sameUpd n2))).seq hS
    refine ⟨.ref a, rfl, a, _, rfl, .inl hA, rfl, .inr ⟨_, rfl, ?_⟩⟩
    refine ⟨c2, _, [.int 0], rfl, rfl, upd_same, by split <;> decide, by split <;> decide, by split <;> exact size1M (by decide), fun c3 n3 => ?_⟩
    obtain ⟨cells, ec, hc0, hc63, hcb⟩ : ∃ cells : List Int, cutV (zs.map V.int) none (some 63) ++ (List.replicate (if decide (V.int ((zs.map V.int).length : Int) = V.int 0) = true then (1 : Int) else 0).toNat [V.int 0]).flatten = cells.map V.int ∧ 0 < cells.length ∧ cells.length ≤ 63 ∧ ∀ z ∈ cells, Builtin.Int.intBits z ≤ 1048576 := by
      rw [deck_cells]
      cases zs with
      | nil => exact ⟨[0], rfl, by decide, by decide, fun z hz => by rw [List.mem_singleton.mp hz]; decide⟩
      | cons z zs =>
        refine ⟨(z :: zs).take 63, ?_, ?_, ?_, fun y hy => hb y (List.mem_of_mem_take hy)⟩
        · rw [if_neg (by
            intro h
            have := V.int.inj (of_decide_eq_true h)
            rw [List.length_map, List.length_cons] at this
            omega)]
          exact List.append_nil _
        · rw [List.length_take, List.length_cons]
          omega
        · rw [List.length_take]
          omega
    have hlen : (cutV (zs.map V.int) none (some 63)).length + (List.replicate (if decide (V.int ((zs.map V.int).length : Int) = V.int 0) = true then (1 : Int) else 0).toNat [V.int 0]).flatten.length ≤ sizeLine := by
      rw [← List.length_append, ec, List.length_map]
      exact size1M (by omega)
    refine ⟨c1, c3, _, _, rfl, rfl, sameUpd n3 _ _ h1, upd_same, hlen, fun c nc => ?_⟩
    rw [ec]
    generalize (upd (upd (upd (upd H c0 (.lst (cutV (zs.map V.int) none (some 63)))) c1 (.lst (cutV (zs.map V.int) none (some 63)))) c2 (.lst [.int 0])) c3 _) = H3 at nc ⊢
    refine ⟨.ref c, rfl, fun _ => none, upd (fun _ => none) c (.lst (cells.map V.int)), fun _ => none, (), [some (.dat (.opq (.ref a))), some (.dat (.lst (cells.map Dt.int))), none], ⟨⟨fun b o e => (by cases e), fun b o e => ?_, fun b o e => (by cases e), fun b o e => .inl rfl, trivial, trivial⟩, rfl, fun i x e => ?_, fun i j v l r e => ?_⟩, ?_⟩
    · by_cases hb : b = c
      · subst hb
        rw [upd_same] at e ⊢
        exact e
      · rw [upd_ne hb] at e
        cases e
    · match i, e with
      | 0, e => cases e; exact ⟨.ref a, rfl, .opq _⟩
      | 1, e => cases e; exact ⟨.ref c, rfl, .lst upd_same (drL_ints _)⟩
      | 2, e => cases e
    · match i, e with
      | 0, e => cases e
      | 1, e => cases e
      | 2, e => cases e
    · refine ⟨rfl, _, rfl, by rw [List.length_map]; exact size1M (by omega), rfl, ?_⟩
      refine lc_map Dt.int (fun z => .int (z * (if decide (10 ^ 18 ≤ z) = true then 1 else 0))) cells (fun z hz => ⟨_, rfl, fun C hC => ?_⟩) ?_
      · refine ⟨⟨by decide, by decide, by decide⟩, ?_, hC⟩
        have := hcb z hz
        unfold CMulX
        split
        · rw [show Builtin.Int.intBits 1 = 1 by decide]
          omega
        · rw [show Builtin.Int.intBits 0 = 0 by decide]
          omega
      · intro r vs F' G' H' sr e1 _ _ eH eF _ hd
        refine ⟨size1M (by show 3 ≤ _; decide), fun p np => ?_⟩
        have hF : F' c = some (.lst (cells.map V.int)) := e1 _ _ upd_same
        have hHc : H' c = some (.lst (cells.map V.int)) := sr.hr.f _ _ hF
        have ev : ∀ (l : List Int) (vs : List V), DrL K F' vs (l.map fun z => Dt.int (z * (if decide (10 ^ 18 ≤ z) = true then 1 else 0))) → vs = (l.map fun z => z * (if decide (10 ^ 18 ≤ z) = true then 1 else 0)).map V.int := by
          intro l vs h
          refine ints_drL (K := K) (F := F') _ _ ?_
          rw [List.map_map]
          exact h
        rw [ev _ _ hd] at eH
        refine q _ p c r cells (cells.map fun z => z * (if decide (10 ^ 18 ≤ z) = true then 1 else 0)) ⟨upd_same, ?_, ?_, fun z => ?_, fun z => ?_, fun z => ?_, by rw [List.length_map], hc0, hc63⟩
        · rw [upd_ne (ne_of_none hHc np)]
          exact hHc
        · rw [upd_ne (ne_of_none eH np)]
          exact eH
        · exact ne_of_none hHc np z.symm
        · exact ne_of_none eH np z.symm
        · rw [z, eF] at hF
          cases hF
/-! ### the law's own body: the deck first, then what is said over data -/
def spLaw (K : PySem.W.Frag) : Sp := fun vs H Q _ => ∃ a, vs = [.ref a] ∧ ScriptAt K H a ∧ ∀ H', Q (.bl true) H'
theorem law_end {N : List Str} {p : DS Dw} {H : Hp} {Q : VK} {E : XK} {vs : List V} (h : spLaw K vs H Q E) (mono : ∀ (D D' : DD Dw), D.Le D' → ∀ sl w, p D sl w → p D' sl w)
    (m : ∀ a q, p (endD fun d _ => d = .bl true) (lawSl N.length a q) ⟨q, allD⟩) :
    tSeq (tAsg (fun σ H Q => tCons (tVar 0) tNil σ H fun vs H1 => spDeck K vs H1 Q E) (gName 1)) (lftS K DeckW p) { nx := fun _ H' => Q .non H', rt := Q } (start N vs) H := by
  obtain ⟨a, rfl, hS, q⟩ := h
  have h0 : (start N [V.ref a])[0]? = some (some (.ref a)) := rfl
  refine ⟨.ref a, h0, a, rfl, hS, fun H' b c r cells rests D => ?_⟩
  have st : HR DeckW (fun _ => none) (fun _ => none) (upd (upd (upd (fun _ => none) b (.lst [.ref c, .int 0, .ref r])) c (.lst (cells.map V.int))) r (.lst (rests.map V.int))) H' (⟨b, allD⟩ : Dw) := by
    refine ⟨fun b o e => (by cases e), fun b o e => (by cases e), fun d o e => ?_, fun b o e => (by cases e), ⟨c, r, cells, rests, 0, ⟨?_, ?_, upd_same, D.pc, D.pr, D.cr, D.len, D.pos, D.few⟩, Int.le_refl _, by show (0 : Int) + ((1099511627776 : Nat) : Int) ≤ 2 ^ 40; decide⟩, trivial⟩
    · by_cases h1 : d = r
      · subst h1
        rw [upd_same] at e
        rw [D.hr, e]
      · rw [upd_ne h1] at e
        by_cases h2 : d = c
        · subst h2
          rw [upd_same] at e
          rw [D.hc, e]
        · rw [upd_ne h2] at e
          by_cases h3 : d = b
          · subst h3
            rw [upd_same] at e
            rw [D.hp, e]
          · rw [upd_ne h3] at e
            cases e
    · rw [upd_ne D.pr, upd_ne D.pc, upd_same]
    · rw [upd_ne D.cr, upd_same]
  refine ⟨_, _, _, ⟨b, allD⟩, lawSl N.length a b, (start_ok st (.cons (.opq _) .nil)).dat 1 (.opq _), mono _ _ ?_ _ _ (m a b)⟩
  refine ⟨fun sl w z => ?_, fun d w z v F' G' H' r1 e1 d1 => ?_, fun _ _ z => z.elim, fun _ _ z => z.elim⟩
  · cases (show Dt.non = Dt.bl true from z)
  · cases (show d = Dt.bl true from z)
    cases d1
    exact q _
end
structure Bt (base : Heap) (mg : Str → Option Value) : Prop where
  mods : HasMods base
  b_enumerate : mg "enumerate" = none
  b_int : mg "int" = none
  b_len : mg "len" = none
  b_list : mg "list" = none
  b_min : mg "min" = none
  b_range : mg "range" = none
  b_repr : mg "repr" = none
  b_sum : mg "sum" = none
  b_tuple : mg "tuple" = none
abbrev t_most_runs : Stmt := topS 1
abbrev N_most_runs : List Str := ["width", "size"]
theorem c_most_runs : FnScope N_most_runs ["width", "size"] (defScope t_most_runs) := ⟨rfl, rfl, rfl, by decide +kernel, rfl, by decide +kernel, by decide +kernel⟩
abbrev t_each_shape : Stmt := topS 2
abbrev t_do_hold : Stmt := topS 4
abbrev N_do_hold : List Str := ["tests", "shape", "p", "q", "limit"]
theorem c_do_hold : FnScope N_do_hold ["tests", "shape"] (defScope t_do_hold) := ⟨rfl, rfl, rfl, by decide +kernel, rfl, by decide +kernel, by decide +kernel⟩
abbrev t_decider : Stmt := topS 5
abbrev N_decider : List Str := ["rules", "shape", "k", "rule"]
theorem c_decider : FnScope N_decider ["rules", "shape"] (defScope t_decider) := ⟨rfl, rfl, rfl, by decide +kernel, rfl, by decide +kernel, by decide +kernel⟩
abbrev t_kept : Stmt := topS 6
abbrev N_kept : List Str := ["book", "shape", "at"]
theorem c_kept : FnScope N_kept ["book", "shape"] (defScope t_kept) := ⟨rfl, rfl, rfl, by decide +kernel, rfl, by decide +kernel, by decide +kernel⟩
abbrev t_choices : Stmt := topS 8
abbrev N_choices : List Str := ["things", "some", "found", "k"]
theorem c_choices : FnScope N_choices ["things", "some"] (defScope t_choices) := ⟨rfl, rfl, rfl, by decide +kernel, rfl, by decide +kernel, by decide +kernel⟩
abbrev t_many : Stmt := topS 9
abbrev N_many : List Str := ["width", "shape", "size", "count"]
theorem c_many : FnScope N_many ["width", "shape"] (defScope t_many) := ⟨rfl, rfl, rfl, by decide +kernel, rfl, by decide +kernel, by decide +kernel⟩
abbrev t_many_kept : Stmt := topS 10
abbrev N_many_kept : List Str := ["book", "found", "shape", "form"]
theorem c_many_kept : FnScope N_many_kept ["book"] (defScope t_many_kept) := ⟨rfl, rfl, rfl, by decide +kernel, rfl, by decide +kernel, by decide +kernel⟩
abbrev t_law_one : Stmt := topS 14
abbrev N_law_one : List Str := ["_law_deck_here", "_law_items"]
theorem c_law_one : FnScope N_law_one ["_law_deck_here", "_law_items"] (defScope t_law_one) := ⟨rfl, rfl, rfl, by decide +kernel, rfl, by decide +kernel, by decide +kernel⟩
abbrev t_law_all_sets : Stmt := topS 15
abbrev N_law_all_sets : List Str := ["_law_width", "_law_found", "_law_place", "_law_some"]
theorem c_law_all_sets : FnScope N_law_all_sets ["_law_width"] (defScope t_law_all_sets) := ⟨rfl, rfl, rfl, by decide +kernel, rfl, by decide +kernel, by decide +kernel⟩
abbrev t_law_shape : Stmt := topS 16
abbrev N_law_shape : List Str := ["_law_places", "_law_place"]
theorem c_law_shape : FnScope N_law_shape ["_law_places"] (defScope t_law_shape) := ⟨rfl, rfl, rfl, by decide +kernel, rfl, by decide +kernel, by decide +kernel⟩
abbrev t_law_shapes : Stmt := topS 17
abbrev N_law_shapes : List Str := ["_law_width", "_law_found", "_law_size", "_law_count"]
theorem c_law_shapes : FnScope N_law_shapes ["_law_width"] (defScope t_law_shapes) := ⟨rfl, rfl, rfl, by decide +kernel, rfl, by decide +kernel, by decide +kernel⟩
abbrev t_law_price : Stmt := topS 18
abbrev N_law_price : List Str := ["_law_deck_here", "_law_width", "_law_way", "_law_a", "_law_b", "_law_c"]
theorem c_law_price : FnScope N_law_price ["_law_deck_here", "_law_width"] (defScope t_law_price) := ⟨rfl, rfl, rfl, by decide +kernel, rfl, by decide +kernel, by decide +kernel⟩
abbrev t_law_prices : Stmt := topS 19
abbrev N_law_prices : List Str := ["_law_deck_here", "_law_width", "_law_most", "_law_share", "_law_found", "_law_k", "_law_part"]
theorem c_law_prices : FnScope N_law_prices ["_law_deck_here", "_law_width", "_law_most"] (defScope t_law_prices) := ⟨rfl, rfl, rfl, by decide +kernel, rfl, by decide +kernel, by decide +kernel⟩
abbrev t_law_some_shape : Stmt := topS 20
abbrev N_law_some_shape : List Str := ["_law_deck_here", "_law_width", "_law_size"]
theorem c_law_some_shape : FnScope N_law_some_shape ["_law_deck_here", "_law_width"] (defScope t_law_some_shape) := ⟨rfl, rfl, rfl, by decide +kernel, rfl, by decide +kernel, by decide +kernel⟩
abbrev t_law_test : Stmt := topS 21
abbrev N_law_test : List Str := ["_law_deck_here", "_law_width", "_law_wide", "_law_p", "_law_q", "_law_size", "_law_count"]
theorem c_law_test : FnScope N_law_test ["_law_deck_here", "_law_width"] (defScope t_law_test) := ⟨rfl, rfl, rfl, by decide +kernel, rfl, by decide +kernel, by decide +kernel⟩
abbrev t_law_tests : Stmt := topS 22
abbrev N_law_tests : List Str := ["_law_deck_here", "_law_width", "_law_k"]
theorem c_law_tests : FnScope N_law_tests ["_law_deck_here", "_law_width"] (defScope t_law_tests) := ⟨rfl, rfl, rfl, by decide +kernel, rfl, by decide +kernel, by decide +kernel⟩
abbrev t_law_book : Stmt := topS 23
abbrev N_law_book : List Str := ["_law_deck_here", "_law_width", "_law_prices_here", "_law_rules", "_law_k"]
theorem c_law_book : FnScope N_law_book ["_law_deck_here", "_law_width"] (defScope t_law_book) := ⟨rfl, rfl, rfl, by decide +kernel, rfl, by decide +kernel, by decide +kernel⟩
abbrev t_law_do_hold : Stmt := topS 24
abbrev N_law_do_hold : List Str := ["_law_tests_here", "_law_shape_here", "_law_p", "_law_q", "_law_limit"]
theorem c_law_do_hold : FnScope N_law_do_hold ["_law_tests_here", "_law_shape_here"] (defScope t_law_do_hold) := ⟨rfl, rfl, rfl, by decide +kernel, rfl, by decide +kernel, by decide +kernel⟩
abbrev t_law_decider : Stmt := topS 25
abbrev N_law_decider : List Str := ["_law_book_here", "_law_shape_here", "_law_some", "_law_k"]
theorem c_law_decider : FnScope N_law_decider ["_law_book_here", "_law_shape_here"] (defScope t_law_decider) := ⟨rfl, rfl, rfl, by decide +kernel, rfl, by decide +kernel, by decide +kernel⟩
abbrev t_law_kept : Stmt := topS 26
abbrev N_law_kept : List Str := ["_law_book_here", "_law_shape_here", "_law_at"]
theorem c_law_kept : FnScope N_law_kept ["_law_book_here", "_law_shape_here"] (defScope t_law_kept) := ⟨rfl, rfl, rfl, by decide +kernel, rfl, by decide +kernel, by decide +kernel⟩
abbrev t_lawmain : Stmt := topS 27
abbrev N_lawmain : List Str := ["_law_script", "_law_deck_here", "_law_turn", "_law_width", "_law_book_here", "_law_counts", "_law_places", "_law_form", "_law_total", "_law_k", "_law_due", "_law_shape_here"]
theorem c_lawmain : FnScope N_lawmain ["_law_script"] (defScope t_lawmain) := ⟨rfl, rfl, rfl, by decide +kernel, rfl, by decide +kernel, by decide +kernel⟩
section
variable {P : Program} {w : World} {K : PySem.W.Frag} {mg : Str → Option Value} {base : Heap}
theorem h_law_draw (T : Bt base mg) (h : Has K mg "_law_draw" t_law_draw) : Callee P w K mg base 1 "_law_draw" ["_law_deck_here", "_law_below"] DeckW S_law_draw := by
  obtain ⟨f, fd, F, hm⟩ := h.ex
  exact ⟨f, fd, ok_law_draw F T.b_int T.b_len, hm, F.kp, F.binds fun _ _ _ _ _ _ us hl => match us, hl with | [_, _], _ => rfl⟩
theorem h_most_runs (T : Bt base mg) (h : Has K mg "most_runs" t_most_runs) : Callee P w K mg base 1 "most_runs" ["width", "size"] DeckW S_most_runs :=
  Callee.mk' h c_most_runs (fun _ _ _ _ _ _ us hl => match us, hl with | [_, _], _ => rfl) (fun ds w C h => by obtain ⟨i, rfl, _⟩ := h; rfl) (p := p_most_runs) (fun f cdv A outer s H E hgu hr =>
    (db_one (ds_ret (d_b2 (call_min2 rfl) fd_min2 (by rfl) T.b_min (by decide +kernel) (d_var 1) (d_op op_addA od_add (d_op op_sub od_sub (d_var 0) (d_var 1)) d_int))))) m_most_runs
theorem h_do_hold (T : Bt base mg) (h : Has K mg "do_hold" t_do_hold) : Callee P w K mg base 1 "do_hold" ["tests", "shape"] DeckW S_do_hold :=
  Callee.mk' h c_do_hold (fun _ _ _ _ _ _ us hl => match us, hl with | [_, _], _ => rfl) (fun ds w C h => by obtain ⟨i, rfl, _⟩ := h; rfl) (p := p_do_hold) (fun f cdv A outer s H E hgu hr =>
    (db_cons (ds_for PassesOwn.never rfl (di_seq (d_var 0)) (tg_many rfl (tgs_cons c_do_hold.nd rfl (by first | exact .inl rfl | exact .inr rfl) (tgs_cons c_do_hold.nd rfl (by first | exact .inl rfl | exact .inr rfl) (tgs_cons c_do_hold.nd rfl (by first | exact .inl rfl | exact .inr rfl) tgs_nil))) rfl) (db_one (ds_if (dt_cmp op_gt od_cmp (d_op op_addA od_add (d_op op_mulA od_mul (d_var 2) (d_ix ix_seq od_ix (d_var 1) d_int (fun _ _ => rfl))) (d_op op_mulA od_mul (d_var 3) (d_ix ix_seq od_ix (d_var 1) d_int (fun _ _ => rfl)))) (d_var 4) (nomark _)) (db_one (ds_ret d_bl)) db_nil)))
      (db_one (ds_ret d_bl)))) m_do_hold
theorem h_choices (T : Bt base mg) (h : Has K mg "choices" t_choices) : Callee P w K mg base 1 "choices" ["things", "some"] DeckW S_choices :=
  Callee.mk' h c_choices (fun _ _ _ _ _ _ us hl => match us, hl with | [_, _], _ => rfl) (fun ds w C h => by obtain ⟨i, rfl, _⟩ := h; rfl) (p := p_choices) (fun f cdv A outer s H E hgu hr =>
    (db_cons (ds_if (dt_not (dt_chain op_le op_le d_int (d_var 1) (d_var 0))) (db_one (ds_ret d_int)) db_nil)
      (db_cons (ds_set c_choices.nd rfl (by first | exact .inl rfl | exact .inr rfl) d_int)
      (db_cons (ds_for PassesOwn.never rfl (di_r1 (by rfl) T.b_range (d_var 1)) (tg_one c_choices.nd rfl (by first | exact .inl rfl | exact .inr rfl)) (db_one (ds_set c_choices.nd rfl (by first | exact .inl rfl | exact .inr rfl) (d_op op_fdivW od_div (d_op op_mulA od_mul (d_var 2) (d_op op_sub od_sub (d_var 0) (d_var 3))) (d_op op_addA od_add (d_var 3) d_int)))))
      (db_one (ds_ret (d_var 2))))))) m_choices
theorem h_law_all_sets (T : Bt base mg) (h : Has K mg "_law_all_sets" t_law_all_sets) : Callee P w K mg base 1 "_law_all_sets" ["_law_width"] DeckW S_law_all_sets :=
  Callee.mk' h c_law_all_sets (fun _ _ _ _ _ _ us hl => match us, hl with | [_], _ => rfl) (fun ds w C h => by obtain ⟨i, rfl, _⟩ := h; rfl) (p := p_law_all_sets) (fun f cdv A outer s H E hgu hr =>
    (db_cons (ds_set c_law_all_sets.nd rfl (by first | exact .inl rfl | exact .inr rfl) (d_L (dl_lst (da_cons (d_L (dl_lst da_nil)) da_nil))))
      (db_cons (ds_for PassesOwn.never rfl (di_r1 (by rfl) T.b_range (d_var 0)) (tg_one c_law_all_sets.nd rfl (by first | exact .inl rfl | exact .inr rfl)) (db_one (ds_set c_law_all_sets.nd rfl (by first | exact .inl rfl | exact .inr rfl) (d_L (dl_op op_cat ol_add (d_var 1) (d_L (dl_lc [("_law_some", 3)] rfl c_law_all_sets.nd (blkOk_by (N := N_law_all_sets) (sc := defScope t_law_all_sets) (by decide +kernel)) (di_seq (d_var 1)) (fun _ _ _ _ _ => (tg_one c_law_all_sets.nd rfl (by first | exact .inl rfl | exact .inr rfl))) (fun _ _ _ _ _ => dts_nil) (fun _ _ _ _ _ => (d_L (dl_op op_cat ol_add (d_var 3) (d_L (dl_lst (da_cons (d_var 2) da_nil)))))) (by decide))))))))
      (db_one (ds_ret (d_var 1)))))) m_law_all_sets
theorem h_law_shape (T : Bt base mg) (h : Has K mg "_law_shape" t_law_shape) : Callee P w K mg base 1 "_law_shape" ["_law_places"] DeckW S_law_shape :=
  Callee.mk' h c_law_shape (fun _ _ _ _ _ _ us hl => match us, hl with | [_], _ => rfl) (fun ds w C h => by obtain ⟨i, rfl, _⟩ := h; rfl) (p := p_law_shape) (fun f cdv A outer s H E hgu hr =>
    (db_one (ds_ret (d_tup (da_cons (d_b1 call_lenA fd_len (by rfl) T.b_len PySem.boot_len (d_var 0)) (da_cons (d_b1 call_lenA fd_len (by rfl) T.b_len PySem.boot_len (d_L (dl_lc [("_law_place", 1)] rfl c_law_shape.nd (blkOk_by (N := N_law_shape) (sc := defScope t_law_shape) (by decide +kernel)) (di_seq (d_var 0)) (fun _ _ _ _ _ => (tg_one c_law_shape.nd rfl (by first | exact .inl rfl | exact .inr rfl))) (fun _ _ _ _ _ => (dts_one (dt_cmp op_notIn_seq od_in (d_op op_sub od_sub (d_var 1) d_int) (d_var 0) (by rfl)))) (fun _ _ _ _ _ => (d_var 1)) (by decide)))) da_nil)))))) m_law_shape
theorem h_law_shapes (T : Bt base mg) (h : Has K mg "_law_shapes" t_law_shapes) : Callee P w K mg base 1 "_law_shapes" ["_law_width"] DeckW S_law_shapes :=
  Callee.mk' h c_law_shapes (fun _ _ _ _ _ _ us hl => match us, hl with | [_], _ => rfl) (fun ds w C h => by obtain ⟨i, rfl, _⟩ := h; rfl) (p := p_law_shapes) (fun f cdv A outer s H E hgu hr =>
    (db_cons (ds_own c_law_shapes.nd rfl (by first | exact .inl rfl | exact .inr rfl) (dl_lst (da_cons (d_tup (da_cons d_int (da_cons d_int da_nil))) da_nil)))
      (db_cons (ds_for PassesOwn.never rfl (di_r2 (by rfl) T.b_range d_int (d_op op_addA od_add (d_var 0) d_int)) (tg_one c_law_shapes.nd rfl (by first | exact .inl rfl | exact .inr rfl)) (db_one (ds_ext (pv 1) (dl_lc [("_law_count", 3)] rfl c_law_shapes.nd (blkOk_by (N := N_law_shapes) (sc := defScope t_law_shapes) (by decide +kernel)) (di_r2 (by rfl) T.b_range d_int (d_op op_addA od_add (d_b2 (call_min2 rfl) fd_min2 (by rfl) T.b_min (by decide +kernel) (d_var 2) (d_op op_addA od_add (d_op op_sub od_sub (d_var 0) (d_var 2)) d_int)) d_int)) (fun _ _ _ _ _ => (tg_one c_law_shapes.nd rfl (by first | exact .inl rfl | exact .inr rfl))) (fun _ _ _ _ _ => dts_nil) (fun _ _ _ _ _ => (d_tup (da_cons (d_var 2) (da_cons (d_var 3) da_nil)))) (by decide)) (fun h => pe_bm PySem.F.plainAttrs_list PySem.F.slot_list_extend PySem.F.type_list_extend mt_extend (pv 1) h))))
      (db_frz (i := 1) (db_one (ds_ret (d_var 1))))))) m_law_shapes
theorem h_law_do_hold (T : Bt base mg) (h : Has K mg "_law_do_hold" t_law_do_hold) : Callee P w K mg base 1 "_law_do_hold" ["_law_tests_here", "_law_shape_here"] DeckW S_law_do_hold :=
  Callee.mk' h c_law_do_hold (fun _ _ _ _ _ _ us hl => match us, hl with | [_, _], _ => rfl) (fun ds w C h => by obtain ⟨i, rfl, _⟩ := h; rfl) (p := p_law_do_hold) (fun f cdv A outer s H E hgu hr =>
    (db_one (ds_ret (d_cmp (op_eqA hr.units) od_eq (d_L (dl_lc (g := gTup K 3 (gCons (gName 2) (gCons (gName 3) (gCons (gName 4) gNil)))) [("_law_p", 2), ("_law_q", 3), ("_law_limit", 4)] rfl c_law_do_hold.nd (blkOk_by (N := N_law_do_hold) (sc := defScope t_law_do_hold) (by decide +kernel)) (di_seq (d_var 0)) (fun _ _ _ _ _ => (tg_many rfl (tgs_cons c_law_do_hold.nd rfl (by first | exact .inl rfl | exact .inr rfl) (tgs_cons c_law_do_hold.nd rfl (by first | exact .inl rfl | exact .inr rfl) (tgs_cons c_law_do_hold.nd rfl (by first | exact .inl rfl | exact .inr rfl) tgs_nil))) rfl)) (fun _ _ _ _ _ => (dts_one (dt_cmp op_gt od_cmp (d_op op_addA od_add (d_op op_mulA od_mul (d_var 2) (d_ix ix_seq od_ix (d_var 1) d_int (fun _ _ => rfl))) (d_op op_mulA od_mul (d_var 3) (d_ix ix_seq od_ix (d_var 1) d_int (fun _ _ => rfl)))) (d_var 4) (nomark _)))) (fun _ _ _ _ _ => d_int) (by decide))) (d_L (dl_lst da_nil)) (nomark _))))) m_law_do_hold
end
abbrev N_each_shape : List Str := ["width", "size", "many"]
theorem s_each_shape : GScope N_each_shape ["width"] (defScope t_each_shape) := ⟨rfl, rfl, rfl, by decide +kernel, rfl, by decide +kernel, by decide +kernel⟩
section
variable {P : Program} {w : World} {K : PySem.W.Frag} {mg : Str → Option Value} {base : Heap}
def spMost : Sp := fun vs H Q _ => ∃ i j : Int, vs = [.int i, .int j] ∧ ∀ H', Same H H' → Q (.int (minJ j (i - j + 1))) H'
theorem HR.everything {H : Hp} : HR Wd.all H (fun _ => none) (fun _ => none) H () := ⟨fun a o h => ⟨h, .inl rfl, .inl rfl⟩, fun a o h => (nomatch h), fun a o h => (nomatch h), fun a o h => (nomatch h), trivial, trivial⟩
theorem ok_most_runs {f : Addr} {fd : FuncData} (F : L2.Fun K "most_runs" "most_runs" t_most_runs f fd) (bm : mg "min" = none) : FnOk P w K mg base CX0 1 f fd ["width", "size"] spMost := by
  refine F.ok c_most_runs (fun vs H Q E h => ?_) fun cdv A outer s H vs Q E hr h => ?_
  · obtain ⟨i, j, rfl, _⟩ := h
    rfl
  · obtain ⟨i, j, rfl, q⟩ := h
    have body : PDB (cxOf CX0 P w K mg base N_most_runs "most_runs" (defScope t_most_runs) f cdv A outer s H E).nox Wd.all (defBody t_most_runs) p_most_runs := (db_one (ds_ret (d_b2 (call_min2 rfl) fd_min2 (by rfl) bm (by decide +kernel) (d_var 1) (d_op op_addA od_add (d_op op_sub od_sub (d_var 0) (d_var 1)) d_int))))
    refine ⟨_, body.run, H, fun _ => none, fun _ => none, (), _, start_ok HR.everything (.cons (.int i) (.cons (.int j) .nil)), body.mono _ _ ?_ _ _ (m_most_runs _ _ (fun d _ => d = .int (minJ j (i - j + 1))) ⟨(i, j), rfl, trivial, rfl⟩)⟩
    refine ⟨fun sl w z => ?_, fun d w z v F' G' H' r1 e1 d1 => ?_, fun _ _ z => z.elim, fun _ _ z => z.elim⟩
    · cases (show Dt.non = Dt.int _ from z)
    · cases (show d = Dt.int _ from z)
      cases d1
      exact q _ fun a o h => (r1.b a o h).1
theorem shapes_pre (N i : Nat) : ∀ M : Nat, i ≤ M → ∃ r, shapesTo N M = shapesTo N i ++ r
  | 0, h => ⟨[], by rw [show i = 0 by omega, List.append_nil]⟩
  | M + 1, h => by
    rcases Nat.lt_or_ge i (M + 1) with h1 | h1
    · obtain ⟨r, e⟩ := shapes_pre N i M (by omega)
      exact ⟨r ++ sizeShapes N M, by rw [shapesTo_succ, e, List.append_assoc]⟩
    · exact ⟨[], by rw [show i = M + 1 by omega, List.append_nil]⟩
theorem shapes_at {N i M k : Nat} (h : i < M) (hk : k < min (i + 1) (N - i)) : (shapesTo N M)[(shapesTo N i).length + k]? = some (1 + (i : Int), 1 + (k : Int)) := by
  obtain ⟨r, e⟩ := shapes_pre N (i + 1) M h
  rw [e, shapesTo_succ, List.append_assoc, List.getElem?_append_right (Nat.le_add_right _ _), Nat.add_sub_cancel_left]
  have hl : k < (sizeShapes N i).length := by
    unfold sizeShapes
    rw [List.length_map, List.length_range]
    exact hk
  rw [List.getElem?_append_left hl]
  unfold sizeShapes
  rw [List.getElem?_map, List.getElem?_range hk]
  exact congrArg some (Prod.ext (show ((i + 1 : Nat) : Int) = 1 + (i : Int) by omega) (show ((k + 1 : Nat) : Int) = 1 + (k : Int) by omega))
theorem ok_each_shape (hm : Has K mg "most_runs" t_most_runs) (h : Has K mg "each_shape" t_each_shape) (bm : mg "min" = none) (br : mg "range" = none) : EachF P w K mg base 2 := by
  obtain ⟨f1, fd1, F1, m1⟩ := hm.ex
  obtain ⟨f, fd, F, m⟩ := h.ex
  have G1 : FnOk P w K mg base CX0 1 f1 fd1 ["width", "size"] spMost := ok_most_runs F1 bm
  have b1 : Binds K fd1 ["width", "size"] [] := F1.binds fun _ _ _ _ _ _ us hl => match us, hl with | [_, _], _ => rfl
  have b2 : Binds K fd ["width"] [] := F.binds fun _ _ _ _ _ _ us hl => match us, hl with | [_], _ => rfl
  obtain ⟨oc, od, kV, doc, pm, an, cdv, ct, osl, rfl, lk, cin⟩ := F.ex
  refine ⟨f, _, gff_of lk cin s_each_shape (fun _ => rfl) (fun vs yl ed h => ?_) fun A outer s H vs yl ed hr h => ?_, m, F.kp, b2⟩
  · obtain ⟨n, rfl, _⟩ := h
    rfl
  · obtain ⟨n, rfl, n1, n2, hy, he⟩ := h
    refine ⟨_, gfs_cons (gf_yield fun s0 H0 => pe_tup (pa_cons pe_int (pa_cons pe_int pa_nil))) (gfs_cons (gf_for rfl (fun s0 H0 => pi_range2 (by rfl) br (pa_cons pe_int (pa_cons (pe_op op_add (pv 0) pe_int) pa_nil))) (fun s0 H0 => pg_name (i := 1) s_each_shape.nd rfl (.inl rfl))
      (gfs_cons (gf_for rfl (fun s0 H0 => pi_range2 (by rfl) br (pa_cons pe_int (pa_cons (pe_op op_add (pe_call (dvs := []) (ds := []) (E := L2.E0) G1 (hr.mono (by decide)) (by rfl) m1 F1.kp b1 .nil pass0 (pa_cons (pv 0) (pa_cons (pv 1) pa_nil))) pe_int) pa_nil))) (fun s0 H0 => pg_name (i := 2) s_each_shape.nd rfl (.inl rfl))
        (gfs_cons (gf_yield fun s0 H0 => pe_tup (pa_cons (pv 1) (pa_cons (pv 2) pa_nil))) gfs_nil)) gfs_nil)) gfs_nil), fun H0 => ?_⟩
    have esh : shapes n = shapesTo n.toNat n.toNat := rfl
    refine ⟨by decide, by decide, fun p hp => ⟨hy _ _ _ _ ⟨(0, 0), rfl, p, rfl, upd_same⟩ (sameUpd hp), fun H2 => ?_⟩⟩
    refine ⟨.int n, rfl, n, 1, rfl, rfl, 1, n + 1, rfl, ⟨by decide, by decide, by omega, by omega⟩, ?_⟩
    have en : (n + 1 - 1).toNat = n.toNat := by omega
    refine for_rangeF (Pv := fun i ys H0 σ H2 => Same H0 H2 ∧ ys.length = (shapesTo n.toNat i).length ∧ ∃ s1 s2, σ = [some (.int n), s1, s2]) ⟨Same.refl _, rfl, _, _, rfl⟩ (fun i ys H0 σ H2 hi hP => ?_) (fun ys H0 σ H2 hP => ?_)
    · obtain ⟨e2, o2, s1, s2, rfl⟩ := hP
      rw [en] at hi
      have em : (minJ (1 + (i : Int)) (n - (1 + (i : Int)) + 1) + 1 - 1).toNat = min (i + 1) (n.toNat - i) := by
        unfold minJ
        split <;> omega
      refine ⟨.int n, rfl, .int (1 + i), rfl, n, 1 + i, rfl, fun H3 e3 => ⟨minJ (1 + i) (n - (1 + i) + 1), 1, rfl, rfl, 1, minJ (1 + i) (n - (1 + i) + 1) + 1, rfl, ⟨by decide, by decide, ?_, ?_⟩, ?_⟩⟩
      · unfold minJ
        split <;> omega
      · unfold minJ
        split <;> omega
      refine for_rangeF (Pv := fun k ys H0 σ H4 => Same H0 H4 ∧ ys.length = (shapesTo n.toNat i).length + k ∧ ∃ s2, σ = [some (.int n), some (.int (1 + i)), s2]) ⟨e2.trans e3, o2, _, rfl⟩ (fun k ys H0 σ H4 hk hP => ?_) (fun ys H0 σ H4 hP => ?_)
      · obtain ⟨e4, o4, s2', rfl⟩ := hP
        rw [em] at hk
        have l1 := shapesTo_len n.toNat i
        have l3 : i * n.toNat ≤ 60 * 60 := Nat.mul_le_mul (by omega) (by omega)
        refine ⟨Nat.lt_of_lt_of_le (show ys.length < 1000000 by omega) (size1M (Nat.le_refl _)), .int (1 + i), rfl, .int (1 + k), rfl, size1M (by show 2 ≤ 1000000; decide), fun p2 hp2 => ⟨hy _ _ _ _ ⟨(1 + (i : Int), 1 + (k : Int)), ?_, p2, rfl, upd_same⟩ (e4.trans (sameUpd hp2)), fun H5 => ⟨Same.refl _, ?_, _, rfl⟩⟩⟩
        · rw [o4, esh]
          exact shapes_at hi hk
        · rw [List.length_append, List.length_singleton, o4]
          omega
      · obtain ⟨e4, o4, s2', rfl⟩ := hP
        refine ⟨e4, ?_, _, _, rfl⟩
        rw [em] at o4
        rw [o4, shapesTo_succ, List.length_append]
        unfold sizeShapes
        rw [List.length_map, List.length_range]
    · obtain ⟨e2, o2, _⟩ := hP
      rw [en] at o2
      exact he _ _ _ o2 e2
end
section
variable {P : Program} {w : World} {K : PySem.W.Frag} {mg : Str → Option Value} {base : Heap}
theorem h_each_shape (T : Bt base mg) (h : Has K mg "each_shape" t_each_shape) (hm : Has K mg "most_runs" t_most_runs) : EachF P w K mg base 2 := ok_each_shape hm h T.b_min T.b_range
theorem h_decider (T : Bt base mg) (h : Has K mg "decider" t_decider) (h_do_hold : Callee P w K mg base 1 "do_hold" ["tests", "shape"] DeckW S_do_hold) : Callee P w K mg base 2 "decider" ["rules", "shape"] DeckW S_decider :=
  Callee.mk' h c_decider (fun _ _ _ _ _ _ us hl => match us, hl with | [_, _], _ => rfl) (fun ds w C h => by obtain ⟨i, rfl, _⟩ := h; rfl) (p := p_decider) (fun f cdv A outer s H E hgu hr =>
    (db_cons (ds_for PassesOwn.never rfl (di_enum (by rfl) T.b_enumerate (d_var 0)) (tg_many rfl (tgs_cons c_decider.nd rfl (by first | exact .inl rfl | exact .inr rfl) (tgs_cons c_decider.nd rfl (by first | exact .inl rfl | exact .inr rfl) tgs_nil)) rfl) (db_one (ds_if (dt_val (d_calle h_do_hold hgu hr (by decide) (by rfl) (da_cons (d_ix ix_seq od_ix (d_var 3) d_int (fun _ _ => rfl)) (da_cons (d_var 1) da_nil)))) (db_one (ds_ret (d_var 2))) db_nil)))
      (db_one (ds_ret (d_b1 call_lenA fd_len (by rfl) T.b_len PySem.boot_len (d_var 0)))))) m_decider
theorem h_many (T : Bt base mg) (h : Has K mg "many" t_many) (h_choices : Callee P w K mg base 1 "choices" ["things", "some"] DeckW S_choices) : Callee P w K mg base 2 "many" ["width", "shape"] DeckW S_many :=
  Callee.mk' h c_many (fun _ _ _ _ _ _ us hl => match us, hl with | [_, _], _ => rfl) (fun ds w C h => by obtain ⟨i, rfl, _⟩ := h; rfl) (p := p_many) (fun f cdv A outer s H E hgu hr =>
    (db_cons (ds_unp rfl (d_var 1) (tgs_cons c_many.nd rfl (by first | exact .inl rfl | exact .inr rfl) (tgs_cons c_many.nd rfl (by first | exact .inl rfl | exact .inr rfl) tgs_nil)) rfl)
      (db_cons (ds_if (dt_cmp (op_eqA hr.units) od_eq (d_var 3) d_int (nomark _)) (db_one (ds_ret (d_t1 call_int1 fd_int (by rfl) T.b_int PySem.Pv.boot_int (d_cmp (op_eqA hr.units) od_eq (d_var 2) d_int (nomark _))))) db_nil)
      (db_one (ds_ret (d_op op_mulA od_mul (d_calle h_choices hgu hr (by decide) (by rfl) (da_cons (d_op op_sub od_sub (d_var 2) d_int) (da_cons (d_op op_sub od_sub (d_var 3) d_int) da_nil))) (d_calle h_choices hgu hr (by decide) (by rfl) (da_cons (d_op op_addA od_add (d_op op_sub od_sub (d_var 0) (d_var 2)) d_int) (da_cons (d_var 3) da_nil))))))))) m_many
theorem h_law_one (T : Bt base mg) (h : Has K mg "_law_one" t_law_one) (h_law_draw : Callee P w K mg base 1 "_law_draw" ["_law_deck_here", "_law_below"] DeckW S_law_draw) : Callee P w K mg base 2 "_law_one" ["_law_deck_here", "_law_items"] DeckW S_law_one :=
  Callee.mk' h c_law_one (fun _ _ _ _ _ _ us hl => match us, hl with | [_, _], _ => rfl) (fun ds w C h => by obtain ⟨i, rfl, _⟩ := h; rfl) (p := p_law_one) (fun f cdv A outer s H E hgu hr =>
    (db_one (ds_ret (d_ix ix_seq od_ix (d_var 1) (d_calle h_law_draw hgu hr (by decide) (by rfl) (da_cons (d_var 0) (da_cons (d_b1 call_lenA fd_len (by rfl) T.b_len PySem.boot_len (d_var 1)) da_nil))) (fun _ _ => rfl))))) m_law_one
theorem h_law_price (T : Bt base mg) (h : Has K mg "_law_price" t_law_price) (h_law_draw : Callee P w K mg base 1 "_law_draw" ["_law_deck_here", "_law_below"] DeckW S_law_draw) : Callee P w K mg base 2 "_law_price" ["_law_deck_here", "_law_width"] DeckW S_law_price :=
  Callee.mk' h c_law_price (fun _ _ _ _ _ _ us hl => match us, hl with | [_, _], _ => rfl) (fun ds w C h => by obtain ⟨i, rfl, _⟩ := h; rfl) (p := p_law_price) (fun f cdv A outer s H E hgu hr =>
    (db_cons (ds_unp rfl (d_tup (da_cons (d_calle h_law_draw hgu hr (by decide) (by rfl) (da_cons (d_var 0) (da_cons d_int da_nil))) (da_cons (d_op op_addA od_add d_int (d_calle h_law_draw hgu hr (by decide) (by rfl) (da_cons (d_var 0) (da_cons d_int da_nil)))) (da_cons (d_calle h_law_draw hgu hr (by decide) (by rfl) (da_cons (d_var 0) (da_cons d_int da_nil))) (da_cons (d_calle h_law_draw hgu hr (by decide) (by rfl) (da_cons (d_var 0) (da_cons d_int da_nil))) da_nil))))) (tgs_cons c_law_price.nd rfl (by first | exact .inl rfl | exact .inr rfl) (tgs_cons c_law_price.nd rfl (by first | exact .inl rfl | exact .inr rfl) (tgs_cons c_law_price.nd rfl (by first | exact .inl rfl | exact .inr rfl) (tgs_cons c_law_price.nd rfl (by first | exact .inl rfl | exact .inr rfl) tgs_nil)))) rfl)
      (db_cons (ds_if (dt_cmp op_lt od_cmp (d_var 2) d_int (nomark _)) (db_one (ds_ret (d_ix ix_seq od_ix (d_L (dl_lst (da_cons (d_tup (da_cons (d_var 3) (da_cons (d_var 4) (da_cons d_int da_nil)))) (da_cons (d_tup (da_cons (d_op op_addA od_add (d_var 3) (d_op op_fdivW od_div (d_var 1) (d_op op_addA od_add d_int (d_var 4)))) (da_cons d_int (da_cons d_int da_nil)))) (da_cons (d_tup (da_cons (d_var 3) (da_cons d_int (da_cons (d_var 5) da_nil)))) da_nil))))) (d_var 2) (fun _ _ => rfl)))) db_nil)
      (db_cons (ds_if (dt_cmp (op_eqA hr.units) od_eq (d_var 2) d_int (nomark _)) (db_one (ds_ret (d_tup (da_cons (d_op op_addA od_add (d_var 3) (d_op op_mulA od_mul (d_var 4) (d_var 1))) (da_cons (d_op op_sub od_sub d_int (d_var 4)) (da_cons d_int da_nil)))))) db_nil)
      (db_one (ds_ret (d_ifx (dt_cmp (op_eqA hr.units) od_eq (d_var 2) d_int (nomark _)) (d_tup (da_cons (d_var 3) (da_cons (d_var 4) (da_cons (d_var 5) da_nil)))) (d_tup (da_cons (d_op op_addA od_add (d_var 3) (d_op op_mulA od_mul (d_var 5) (d_op op_fdivW od_div (d_op op_addA od_add (d_var 1) d_int) d_int))) (da_cons (d_var 4) (da_cons (d_op op_sub od_sub d_int (d_var 5)) da_nil))))))))))) m_law_price
theorem h_law_some_shape (T : Bt base mg) (h : Has K mg "_law_some_shape" t_law_some_shape) (h_law_draw : Callee P w K mg base 1 "_law_draw" ["_law_deck_here", "_law_below"] DeckW S_law_draw) : Callee P w K mg base 2 "_law_some_shape" ["_law_deck_here", "_law_width"] DeckW S_law_some_shape :=
  Callee.mk' h c_law_some_shape (fun _ _ _ _ _ _ us hl => match us, hl with | [_, _], _ => rfl) (fun ds w C h => by obtain ⟨i, rfl, _⟩ := h; rfl) (p := p_law_some_shape) (fun f cdv A outer s H E hgu hr =>
    (db_cons (ds_set c_law_some_shape.nd rfl (by first | exact .inl rfl | exact .inr rfl) (d_calle h_law_draw hgu hr (by decide) (by rfl) (da_cons (d_var 0) (da_cons (d_op op_addA od_add (d_var 1) d_int) da_nil))))
      (db_one (ds_ret (d_ifx (dt_cmp op_gt od_cmp (d_var 2) d_int (nomark _)) (d_tup (da_cons (d_var 2) (da_cons (d_op op_addA od_add d_int (d_calle h_law_draw hgu hr (by decide) (by rfl) (da_cons (d_var 0) (da_cons (d_b2 (call_min2 rfl) fd_min2 (by rfl) T.b_min (by decide +kernel) (d_var 2) (d_op op_addA od_add (d_op op_sub od_sub (d_var 1) (d_var 2)) d_int)) da_nil)))) da_nil))) (d_tup (da_cons d_int (da_cons d_int da_nil)))))))) m_law_some_shape
theorem h_law_decider (T : Bt base mg) (h : Has K mg "_law_decider" t_law_decider) (h_law_do_hold : Callee P w K mg base 1 "_law_do_hold" ["_law_tests_here", "_law_shape_here"] DeckW S_law_do_hold) : Callee P w K mg base 2 "_law_decider" ["_law_book_here", "_law_shape_here"] DeckW S_law_decider :=
  Callee.mk' h c_law_decider (fun _ _ _ _ _ _ us hl => match us, hl with | [_, _], _ => rfl) (fun ds w C h => by obtain ⟨i, rfl, _⟩ := h; rfl) (p := p_law_decider) (fun f cdv A outer s H E hgu hr =>
    (db_cons (ds_setLc [("_law_k", 3)] rfl c_law_decider.nd rfl rfl (sw_true rfl rfl rfl (by decide +kernel)) (blkOk_by (N := N_law_decider) (sc := defScope t_law_decider) (by decide +kernel)) (di_r1 (by rfl) T.b_range (d_b1 call_lenA fd_len (by rfl) T.b_len PySem.boot_len (d_ix ix_seq od_ix (d_var 0) d_int (fun _ _ => rfl)))) (fun _ _ _ _ _ => (tg_one c_law_decider.nd rfl (by first | exact .inl rfl | exact .inr rfl))) (fun _ _ _ _ _ => (dts_one (dt_val (d_calle h_law_do_hold hgu hr (by decide) (by rfl) (da_cons (d_ix ix_seq od_ix (d_ix ix_seq od_ix (d_ix ix_seq od_ix (d_var 0) d_int (fun _ _ => rfl)) (d_var 3) (fun _ _ => rfl)) d_int (fun _ _ => rfl)) (da_cons (d_var 1) da_nil)))))) (fun _ _ _ _ _ => (d_var 3)) (by decide))
      (db_one (ds_ret (d_ifx (dt_cmp (op_neA hr.units) od_ne (d_var 2) (d_L (dl_lst da_nil)) (nomark _)) (d_ix ix_seq od_ix (d_var 2) d_int (fun _ _ => rfl)) (d_b1 call_lenA fd_len (by rfl) T.b_len PySem.boot_len (d_ix ix_seq od_ix (d_var 0) d_int (fun _ _ => rfl)))))))) m_law_decider
theorem h_kept (T : Bt base mg) (h : Has K mg "kept" t_kept) (h_decider : Callee P w K mg base 2 "decider" ["rules", "shape"] DeckW S_decider) : Callee P w K mg base 3 "kept" ["book", "shape"] DeckW S_kept :=
  Callee.mk' h c_kept (fun _ _ _ _ _ _ us hl => match us, hl with | [_, _], _ => rfl) (fun ds w C h => by obtain ⟨i, rfl, _⟩ := h; rfl) (p := p_kept) (fun f cdv A outer s H E hgu hr =>
    (db_cons (ds_set c_kept.nd rfl (by first | exact .inl rfl | exact .inr rfl) (d_calle h_decider hgu hr (by decide) (by rfl) (da_cons (d_ix ix_seq od_ix (d_var 0) d_int (fun _ _ => rfl)) (da_cons (d_var 1) da_nil))))
      (db_one (ds_ret (d_ifx (dt_cmp op_lt od_cmp (d_var 2) (d_b1 call_lenA fd_len (by rfl) T.b_len PySem.boot_len (d_ix ix_seq od_ix (d_var 0) d_int (fun _ _ => rfl))) (nomark _)) (d_ix ix_seq od_ix (d_ix ix_seq od_ix (d_ix ix_seq od_ix (d_var 0) d_int (fun _ _ => rfl)) (d_var 2) (fun _ _ => rfl)) d_int (fun _ _ => rfl)) (d_ix ix_seq od_ix (d_var 0) d_int (fun _ _ => rfl))))))) m_kept
theorem h_law_prices (T : Bt base mg) (h : Has K mg "_law_prices" t_law_prices) (h_law_one : Callee P w K mg base 2 "_law_one" ["_law_deck_here", "_law_items"] DeckW S_law_one) (h_law_draw : Callee P w K mg base 1 "_law_draw" ["_law_deck_here", "_law_below"] DeckW S_law_draw) (h_law_price : Callee P w K mg base 2 "_law_price" ["_law_deck_here", "_law_width"] DeckW S_law_price) : Callee P w K mg base 3 "_law_prices" ["_law_deck_here", "_law_width", "_law_most"] DeckW S_law_prices :=
  Callee.mk' h c_law_prices (fun _ _ _ _ _ _ us hl => match us, hl with | [_, _, _], _ => rfl) (fun ds w C h => by obtain ⟨i, rfl, _⟩ := h; rfl) (p := p_law_prices) (fun f cdv A outer s H E hgu hr =>
    (db_cons (ds_set c_law_prices.nd rfl (by first | exact .inl rfl | exact .inr rfl) (d_calle h_law_one hgu hr (by decide) (by rfl) (da_cons (d_var 0) (da_cons (d_L (dl_lst (da_cons d_int (da_cons d_int (da_cons d_int (da_cons d_int (da_cons (d_ifx (dt_cmp op_lt od_cmp (d_var 1) d_int (nomark _)) d_int d_int) da_nil))))))) da_nil))))
      (db_cons (ds_own c_law_prices.nd rfl (by first | exact .inl rfl | exact .inr rfl) (dl_lst da_nil))
      (db_cons (ds_for PassesOwn.never rfl (di_r1 (by rfl) T.b_range (d_op op_addA od_add d_int (d_calle h_law_draw hgu hr (by decide) (by rfl) (da_cons (d_var 0) (da_cons (d_var 2) da_nil))))) (tg_one c_law_prices.nd rfl (by first | exact .inl rfl | exact .inr rfl)) (db_one (ds_app (pv 4) (d_t1 call_tuple_of fd_tuple (by rfl) T.b_tuple PySem.Pv.boot_tuple (d_L (dl_lc [("_law_part", 6)] rfl c_law_prices.nd (blkOk_by (N := N_law_prices) (sc := defScope t_law_prices) (by decide +kernel)) (di_seq (d_calle h_law_price hgu hr (by decide) (by rfl) (da_cons (d_var 0) (da_cons (d_var 1) da_nil)))) (fun _ _ _ _ _ => (tg_one c_law_prices.nd rfl (by first | exact .inl rfl | exact .inr rfl))) (fun _ _ _ _ _ => dts_nil) (fun _ _ _ _ _ => (d_op op_mulA od_mul (d_var 3) (d_var 6))) (by decide)))) (fun h => pe_bm PySem.F.plainAttrs_list PySem.F.slot_list_append PySem.F.type_list_append mt_append (pv 4) h))))
      (db_one (ds_ret (d_t1 call_tuple_of fd_tuple (by rfl) T.b_tuple PySem.Pv.boot_tuple (d_var 4)))))))) m_law_prices
theorem h_law_test (T : Bt base mg) (h : Has K mg "_law_test" t_law_test) (h_law_one : Callee P w K mg base 2 "_law_one" ["_law_deck_here", "_law_items"] DeckW S_law_one) (h_law_draw : Callee P w K mg base 1 "_law_draw" ["_law_deck_here", "_law_below"] DeckW S_law_draw) (h_law_some_shape : Callee P w K mg base 2 "_law_some_shape" ["_law_deck_here", "_law_width"] DeckW S_law_some_shape) : Callee P w K mg base 3 "_law_test" ["_law_deck_here", "_law_width"] DeckW S_law_test :=
  Callee.mk' h c_law_test (fun _ _ _ _ _ _ us hl => match us, hl with | [_, _], _ => rfl) (fun ds w C h => by obtain ⟨i, rfl, _⟩ := h; rfl) (p := p_law_test) (fun f cdv A outer s H E hgu hr =>
    (db_cons (ds_set c_law_test.nd rfl (by first | exact .inl rfl | exact .inr rfl) (d_calle h_law_one hgu hr (by decide) (by rfl) (da_cons (d_var 0) (da_cons (d_L (dl_lst (da_cons d_int (da_cons d_int (da_cons d_int (da_cons d_int (da_cons d_int da_nil))))))) da_nil))))
      (db_cons (ds_par rfl c_law_test.nd rfl rfl (by decide) rfl rfl (da_cons (d_op op_sub od_sub (d_calle h_law_draw hgu hr (by decide) (by rfl) (da_cons (d_var 0) (da_cons (d_op op_addA od_add (d_op op_mulA od_mul d_int (d_var 2)) d_int) da_nil))) (d_var 2)) (da_cons (d_op op_sub od_sub (d_calle h_law_draw hgu hr (by decide) (by rfl) (da_cons (d_var 0) (da_cons (d_op op_addA od_add (d_op op_mulA od_mul d_int (d_var 2)) d_int) da_nil))) (d_var 2)) da_nil)) rfl (fun h => ps_par rfl c_law_test.nd rfl rfl (by decide) rfl rfl h rfl))
      (db_cons (ds_unp rfl (d_calle h_law_some_shape hgu hr (by decide) (by rfl) (da_cons (d_var 0) (da_cons (d_var 1) da_nil))) (tgs_cons c_law_test.nd rfl (by first | exact .inl rfl | exact .inr rfl) (tgs_cons c_law_test.nd rfl (by first | exact .inl rfl | exact .inr rfl) tgs_nil)) rfl)
      (db_one (ds_ret (d_tup (da_cons (d_var 3) (da_cons (d_var 4) (da_cons (d_op op_sub od_sub (d_op op_addA od_add (d_op op_addA od_add (d_op op_mulA od_mul (d_var 3) (d_var 5)) (d_op op_mulA od_mul (d_var 4) (d_var 6))) (d_calle h_law_draw hgu hr (by decide) (by rfl) (da_cons (d_var 0) (da_cons d_int da_nil)))) d_int) da_nil)))))))))) m_law_test
theorem h_law_kept (T : Bt base mg) (h : Has K mg "_law_kept" t_law_kept) (h_law_decider : Callee P w K mg base 2 "_law_decider" ["_law_book_here", "_law_shape_here"] DeckW S_law_decider) : Callee P w K mg base 3 "_law_kept" ["_law_book_here", "_law_shape_here"] DeckW S_law_kept :=
  Callee.mk' h c_law_kept (fun _ _ _ _ _ _ us hl => match us, hl with | [_, _], _ => rfl) (fun ds w C h => by obtain ⟨i, rfl, _⟩ := h; rfl) (p := p_law_kept) (fun f cdv A outer s H E hgu hr =>
    (db_cons (ds_set c_law_kept.nd rfl (by first | exact .inl rfl | exact .inr rfl) (d_calle h_law_decider hgu hr (by decide) (by rfl) (da_cons (d_var 0) (da_cons (d_var 1) da_nil))))
      (db_one (ds_ret (d_ifx (dt_cmp op_lt od_cmp (d_var 2) (d_b1 call_lenA fd_len (by rfl) T.b_len PySem.boot_len (d_ix ix_seq od_ix (d_var 0) d_int (fun _ _ => rfl))) (nomark _)) (d_ix ix_seq od_ix (d_ix ix_seq od_ix (d_ix ix_seq od_ix (d_var 0) d_int (fun _ _ => rfl)) (d_var 2) (fun _ _ => rfl)) d_int (fun _ _ => rfl)) (d_ix ix_seq od_ix (d_var 0) d_int (fun _ _ => rfl))))))) m_law_kept
theorem h_many_kept (T : Bt base mg) (h : Has K mg "many_kept" t_many_kept) (h_kept : Callee P w K mg base 3 "kept" ["book", "shape"] DeckW S_kept) (h_many : Callee P w K mg base 2 "many" ["width", "shape"] DeckW S_many) (h_each_shape : EachF P w K mg base 2) : Callee P w K mg base 4 "many_kept" ["book"] DeckW S_many_kept :=
  Callee.mk' h c_many_kept (fun _ _ _ _ _ _ us hl => match us, hl with | [_], _ => rfl) (fun ds w C h => by obtain ⟨i, rfl, _⟩ := h; rfl) (p := p_many_kept) (fun f cdv A outer s H E hgu hr =>
    (db_cons (ds_own c_many_kept.nd rfl (by first | exact .inl rfl | exact .inr rfl) (dl_op op_rep ol_mul (d_L (dl_lst (da_cons d_int da_nil))) (d_b1 call_lenA fd_len (by rfl) T.b_len PySem.boot_len (d_ix ix_seq od_ix (d_var 0) d_int (fun _ _ => rfl)))))
      (db_cons (ds_forG h_each_shape (fun _ _ h => h) rfl hr (by decide) (by rfl) (d_ix ix_seq od_ix (d_var 0) d_int (fun _ _ => rfl)) (tg_one c_many_kept.nd rfl (by first | exact .inl rfl | exact .inr rfl)) (db_cons (ds_set c_many_kept.nd rfl (by first | exact .inl rfl | exact .inr rfl) (d_calle h_kept hgu hr (by decide) (by rfl) (da_cons (d_var 0) (da_cons (d_var 2) da_nil))))
      (db_one (ds_setIx (o := .Name (Str.ofString "found") ⟨0, 0, 0, 0⟩) (pv 1) (d_op op_addA od_add (d_ix ix_seq od_ix (d_var 1) (d_var 3) (fun _ _ => rfl)) (d_calle h_many hgu hr (by decide) (by rfl) (da_cons (d_ix ix_seq od_ix (d_var 0) d_int (fun _ _ => rfl)) (da_cons (d_var 2) da_nil)))) (d_var 3)))))
      (db_one (ds_ret (d_t1 call_tuple_of fd_tuple (by rfl) T.b_tuple PySem.Pv.boot_tuple (d_var 1))))))) m_many_kept
theorem h_law_tests (T : Bt base mg) (h : Has K mg "_law_tests" t_law_tests) (h_law_one : Callee P w K mg base 2 "_law_one" ["_law_deck_here", "_law_items"] DeckW S_law_one) (h_law_test : Callee P w K mg base 3 "_law_test" ["_law_deck_here", "_law_width"] DeckW S_law_test) : Callee P w K mg base 4 "_law_tests" ["_law_deck_here", "_law_width"] DeckW S_law_tests :=
  Callee.mk' h c_law_tests (fun _ _ _ _ _ _ us hl => match us, hl with | [_, _], _ => rfl) (fun ds w C h => by obtain ⟨i, rfl, _⟩ := h; rfl) (p := p_law_tests) (fun f cdv A outer s H E hgu hr =>
    (db_one (ds_ret (d_t1 call_tuple_of fd_tuple (by rfl) T.b_tuple PySem.Pv.boot_tuple (d_L (dl_lc [("_law_k", 2)] rfl c_law_tests.nd (blkOk_by (N := N_law_tests) (sc := defScope t_law_tests) (by decide +kernel)) (di_r1 (by rfl) T.b_range (d_calle h_law_one hgu hr (by decide) (by rfl) (da_cons (d_var 0) (da_cons (d_L (dl_lst (da_cons d_int (da_cons d_int (da_cons d_int (da_cons d_int (da_cons d_int (da_cons d_int (da_cons d_int (da_cons d_int (da_cons d_int da_nil))))))))))) da_nil)))) (fun _ _ _ _ _ => (tg_one c_law_tests.nd rfl (by first | exact .inl rfl | exact .inr rfl))) (fun _ _ _ _ _ => dts_nil) (fun _ _ _ _ _ => (d_calle h_law_test hgu hr (by decide) (by rfl) (da_cons (d_var 0) (da_cons (d_var 1) da_nil)))) (by decide))))))) m_law_tests
theorem h_law_book (T : Bt base mg) (h : Has K mg "_law_book" t_law_book) (h_law_prices : Callee P w K mg base 3 "_law_prices" ["_law_deck_here", "_law_width", "_law_most"] DeckW S_law_prices) (h_law_draw : Callee P w K mg base 1 "_law_draw" ["_law_deck_here", "_law_below"] DeckW S_law_draw) (h_law_tests : Callee P w K mg base 4 "_law_tests" ["_law_deck_here", "_law_width"] DeckW S_law_tests) : Callee P w K mg base 5 "_law_book" ["_law_deck_here", "_law_width"] DeckW S_law_book :=
  Callee.mk' h c_law_book (fun _ _ _ _ _ _ us hl => match us, hl with | [_, _], _ => rfl) (fun ds w C h => by obtain ⟨i, rfl, _⟩ := h; rfl) (p := p_law_book) (fun f cdv A outer s H E hgu hr =>
    (db_cons (ds_set c_law_book.nd rfl (by first | exact .inl rfl | exact .inr rfl) (d_calle h_law_prices hgu hr (by decide) (by rfl) (da_cons (d_var 0) (da_cons (d_var 1) (da_cons d_int da_nil)))))
      (db_cons (ds_setLc [("_law_k", 4)] rfl c_law_book.nd rfl rfl (sw_true rfl rfl rfl (by decide +kernel)) (blkOk_by (N := N_law_book) (sc := defScope t_law_book) (by decide +kernel)) (di_r1 (by rfl) T.b_range (d_calle h_law_draw hgu hr (by decide) (by rfl) (da_cons (d_var 0) (da_cons d_int da_nil)))) (fun _ _ _ _ _ => (tg_one c_law_book.nd rfl (by first | exact .inl rfl | exact .inr rfl))) (fun _ _ _ _ _ => dts_nil) (fun _ _ _ _ _ => (d_tup (da_cons (d_calle h_law_tests hgu hr (by decide) (by rfl) (da_cons (d_var 0) (da_cons (d_var 1) da_nil))) (da_cons (d_calle h_law_draw hgu hr (by decide) (by rfl) (da_cons (d_var 0) (da_cons (d_b1 call_lenA fd_len (by rfl) T.b_len PySem.boot_len (d_var 2)) da_nil))) da_nil)))) (by decide))
      (db_one (ds_ret (d_tup (da_cons (d_var 1) (da_cons (d_var 2) (da_cons (d_t1 call_tuple_of fd_tuple (by rfl) T.b_tuple PySem.Pv.boot_tuple (d_var 3)) (da_cons (d_calle h_law_draw hgu hr (by decide) (by rfl) (da_cons (d_var 0) (da_cons (d_b1 call_lenA fd_len (by rfl) T.b_len PySem.boot_len (d_var 2)) da_nil))) da_nil)))))))))) m_law_book
theorem ok_lawmain {f : Addr} {fd : FuncData} (F : L2.Fun K "law" "law" t_lawmain f fd) (T : Bt base mg) (hd : Has K mg "_law_deck" t_law_deck) (h_law_draw : Callee P w K mg base 1 "_law_draw" ["_law_deck_here", "_law_below"] DeckW S_law_draw) (h_law_book : Callee P w K mg base 5 "_law_book" ["_law_deck_here", "_law_width"] DeckW S_law_book) (h_law_all_sets : Callee P w K mg base 1 "_law_all_sets" ["_law_width"] DeckW S_law_all_sets) (h_law_kept : Callee P w K mg base 3 "_law_kept" ["_law_book_here", "_law_shape_here"] DeckW S_law_kept) (h_law_shape : Callee P w K mg base 1 "_law_shape" ["_law_places"] DeckW S_law_shape) (h_many_kept : Callee P w K mg base 4 "many_kept" ["book"] DeckW S_many_kept) (h_law_shapes : Callee P w K mg base 1 "_law_shapes" ["_law_width"] DeckW S_law_shapes) (h_many : Callee P w K mg base 2 "many" ["width", "shape"] DeckW S_many) : FnG P w K mg base CX0 6 f fd ["_law_script"] (spLaw K) := by
  obtain ⟨fk, fdk, Fk, mk⟩ := hd.ex
  have gk : FnG P w K mg base CX0 1 fk fdk ["_law_script"] (spDeck K) := ok_law_deck Fk T.b_int T.b_len T.b_list
  have bk : Binds K fdk ["_law_script"] [] := Fk.binds fun _ _ _ _ _ _ us hl => match us, hl with | [_], _ => rfl
  refine FnG.of F c_lawmain (fun vs H Q E h => ?_) fun cdv A outer s H vs Q E hgu hr h => ?_
  · obtain ⟨a, rfl, _⟩ := h
    rfl
  · have body : PDB (cxOf CX0 P w K mg base N_lawmain "law" (defScope t_lawmain) f cdv A outer s H E).nox DeckW ((defBody t_lawmain).tail) p_lawmain :=
      (db_cons (ds_for PassesOwn.never rfl (di_r1 (by rfl) T.b_range d_int) (tg_one c_lawmain.nd rfl (by first | exact .inl rfl | exact .inr rfl)) (db_cons (ds_set c_lawmain.nd rfl (by first | exact .inl rfl | exact .inr rfl) (d_op op_addA od_add d_int (d_calle h_law_draw hgu hr (by decide) (by rfl) (da_cons (d_var 1) (da_cons d_int da_nil)))))
      (db_cons (ds_set c_lawmain.nd rfl (by first | exact .inl rfl | exact .inr rfl) (d_calle h_law_book hgu hr (by decide) (by rfl) (da_cons (d_var 1) (da_cons (d_var 3) da_nil))))
      (db_cons (ds_own c_lawmain.nd rfl (by first | exact .inl rfl | exact .inr rfl) (dl_op op_rep ol_mul (d_L (dl_lst (da_cons d_int da_nil))) (d_b1 call_lenA fd_len (by rfl) T.b_len PySem.boot_len (d_ix ix_seq od_ix (d_var 4) d_int (fun _ _ => rfl)))))
      (db_cons (ds_for PassesOwn.never rfl (di_seq (d_calle h_law_all_sets hgu hr (by decide) (by rfl) (da_cons (d_var 3) da_nil))) (tg_one c_lawmain.nd rfl (by first | exact .inl rfl | exact .inr rfl)) (db_cons (ds_set c_lawmain.nd rfl (by first | exact .inl rfl | exact .inr rfl) (d_calle h_law_kept hgu hr (by decide) (by rfl) (da_cons (d_var 4) (da_cons (d_calle h_law_shape hgu hr (by decide) (by rfl) (da_cons (d_var 6) da_nil)) da_nil))))
      (db_one (ds_setIx (o := .Name (Str.ofString "found") ⟨0, 0, 0, 0⟩) (pv 5) (d_op op_addA od_add (d_ix ix_seq od_ix (d_var 5) (d_var 7) (fun _ _ => rfl)) d_int) (d_var 7)))))
      (db_cons (ds_if (dt_cmp (op_neA hr.units) od_ne (d_b1 (call_repr T.mods hgu hr.units) fd_repr (by rfl) T.b_repr (by decide +kernel) (d_calle h_many_kept hgu hr (by decide) (by rfl) (da_cons (d_var 4) da_nil))) (d_b1 (call_repr T.mods hgu hr.units) fd_repr (by rfl) T.b_repr (by decide +kernel) (d_t1 call_tuple_of fd_tuple (by rfl) T.b_tuple PySem.Pv.boot_tuple (d_var 5))) (nomark _)) (db_one (ds_ret d_bl)) db_nil)
      (db_cons (ds_set c_lawmain.nd rfl (by first | exact .inl rfl | exact .inr rfl) (d_op op_addA od_add d_int (d_calle h_law_draw hgu hr (by decide) (by rfl) (da_cons (d_var 1) (da_cons d_int da_nil)))))
      (db_cons (ds_par rfl c_lawmain.nd rfl rfl (by decide) rfl rfl (da_cons (d_calle h_law_book hgu hr (by decide) (by rfl) (da_cons (d_var 1) (da_cons (d_var 3) da_nil))) (da_cons d_int da_nil)) rfl (fun h => ps_par rfl c_lawmain.nd rfl rfl (by decide) rfl rfl h rfl))
      (db_cons (ds_for PassesOwn.never rfl (di_r1 (by rfl) T.b_range (d_var 3)) (tg_one c_lawmain.nd rfl (by first | exact .inl rfl | exact .inr rfl)) (db_one (ds_set c_lawmain.nd rfl (by first | exact .inl rfl | exact .inr rfl) (d_op op_mulA od_mul (d_var 8) d_int))))
      (db_cons (ds_own c_lawmain.nd rfl (by first | exact .inl rfl | exact .inr rfl) (dl_op op_rep ol_mul (d_L (dl_lst (da_cons d_int da_nil))) (d_b1 call_lenA fd_len (by rfl) T.b_len PySem.boot_len (d_ix ix_seq od_ix (d_var 4) d_int (fun _ _ => rfl)))))
      (db_cons (ds_for PassesOwn.never rfl (di_seq (d_calle h_law_shapes hgu hr (by decide) (by rfl) (da_cons (d_var 3) da_nil))) (tg_one c_lawmain.nd rfl (by first | exact .inl rfl | exact .inr rfl)) (db_cons (ds_set c_lawmain.nd rfl (by first | exact .inl rfl | exact .inr rfl) (d_calle h_law_kept hgu hr (by decide) (by rfl) (da_cons (d_var 4) (da_cons (d_var 11) da_nil))))
      (db_one (ds_setIx (o := .Name (Str.ofString "found") ⟨0, 0, 0, 0⟩) (pv 10) (d_op op_addA od_add (d_ix ix_seq od_ix (d_var 10) (d_var 7) (fun _ _ => rfl)) (d_calle h_many hgu hr (by decide) (by rfl) (da_cons (d_var 3) (da_cons (d_var 11) da_nil)))) (d_var 7)))))
      (db_one (ds_if (PDW.pt (dt_or (dt_cmp (op_neA hr.units) od_ne (d_b1 (call_repr T.mods hgu hr.units) fd_repr (by rfl) T.b_repr (by decide +kernel) (d_calle h_many_kept hgu hr (by decide) (by rfl) (da_cons (d_var 4) da_nil))) (d_b1 (call_repr T.mods hgu hr.units) fd_repr (by rfl) T.b_repr (by decide +kernel) (d_t1 call_tuple_of fd_tuple (by rfl) T.b_tuple PySem.Pv.boot_tuple (d_var 10))) (nomark _)) (dt_or1 (dt_cmp (op_neA hr.units) od_ne (d_b1 (cr_sum rfl) fd_sum (by rfl) T.b_sum (by decide +kernel) (d_var 10)) (d_var 8) (nomark _))))) (db_one (ds_ret d_bl)) db_nil)))))))))))))
      (db_one (ds_ret d_bl)))
    refine ⟨_, pss_cons (ps_set (i := 1) c_lawmain.nd rfl (by first | exact .inl rfl | exact .inr rfl) (pe_callG gk hgu (hr.mono (by decide)) (by rfl) mk Fk.kp bk pass0 (pa_cons (pv 0) pa_nil))) (PDB.nox body).run, ?_⟩
    exact law_end h body.mono m_lawmain
theorem all_ok {l : PySem.W.OpenLaw} {h : Heap} {fa : Addr} (hfa : mg "law" = some (.ref fa)) (T0 : ∀ base, HasMods base → Bt base mg) (g_lawmain : Has K mg "law" t_lawmain) (g_law_deck : Has K mg "_law_deck" t_law_deck) (g_law_draw : Has K mg "_law_draw" t_law_draw) (g_most_runs : Has K mg "most_runs" t_most_runs) (g_do_hold : Has K mg "do_hold" t_do_hold) (g_choices : Has K mg "choices" t_choices) (g_law_all_sets : Has K mg "_law_all_sets" t_law_all_sets) (g_law_shape : Has K mg "_law_shape" t_law_shape) (g_law_shapes : Has K mg "_law_shapes" t_law_shapes) (g_law_do_hold : Has K mg "_law_do_hold" t_law_do_hold) (g_each_shape : Has K mg "each_shape" t_each_shape) (g_decider : Has K mg "decider" t_decider) (g_many : Has K mg "many" t_many) (g_law_one : Has K mg "_law_one" t_law_one) (g_law_price : Has K mg "_law_price" t_law_price) (g_law_some_shape : Has K mg "_law_some_shape" t_law_some_shape) (g_law_decider : Has K mg "_law_decider" t_law_decider) (g_kept : Has K mg "kept" t_kept) (g_law_prices : Has K mg "_law_prices" t_law_prices) (g_law_test : Has K mg "_law_test" t_law_test) (g_law_kept : Has K mg "_law_kept" t_law_kept) (g_many_kept : Has K mg "many_kept" t_many_kept) (g_law_tests : Has K mg "_law_tests" t_law_tests) (g_law_book : Has K mg "_law_book" t_law_book) :
    ∃ fd : FuncData, (∀ (s : Shared) (u : Value), BindsTo s fd ⟨[u], []⟩ [("_law_script", u)]) ∧ ∀ base : Heap, K.In base → base.Ns mainGlobals mg → HasMods base → FnG l.prog w K mg base CX0 6 fa fd ["_law_script"] (spLaw K) := by
  obtain ⟨f, fd, F, hm⟩ := g_lawmain.ex
  cases hfa.symm.trans hm
  refine ⟨fd, ?_, fun base _ _ hmod => ?_⟩
  · obtain ⟨oc, od, kV, doc, pm, an, cdv, ct, osl, rfl, lk, hcd⟩ := F.ex
    exact fun s v => .of_eq rfl
  · have T := T0 base hmod
    have k_law_draw := h_law_draw (P := l.prog) (w := w) (base := base) T g_law_draw
    have k_most_runs := h_most_runs (P := l.prog) (w := w) (base := base) T g_most_runs
    have k_do_hold := h_do_hold (P := l.prog) (w := w) (base := base) T g_do_hold
    have k_choices := h_choices (P := l.prog) (w := w) (base := base) T g_choices
    have k_law_all_sets := h_law_all_sets (P := l.prog) (w := w) (base := base) T g_law_all_sets
    have k_law_shape := h_law_shape (P := l.prog) (w := w) (base := base) T g_law_shape
    have k_law_shapes := h_law_shapes (P := l.prog) (w := w) (base := base) T g_law_shapes
    have k_law_do_hold := h_law_do_hold (P := l.prog) (w := w) (base := base) T g_law_do_hold
    have k_each_shape := h_each_shape (P := l.prog) (w := w) (base := base) T g_each_shape g_most_runs
    have k_decider := h_decider (P := l.prog) (w := w) (base := base) T g_decider k_do_hold
    have k_many := h_many (P := l.prog) (w := w) (base := base) T g_many k_choices
    have k_law_one := h_law_one (P := l.prog) (w := w) (base := base) T g_law_one k_law_draw
    have k_law_price := h_law_price (P := l.prog) (w := w) (base := base) T g_law_price k_law_draw
    have k_law_some_shape := h_law_some_shape (P := l.prog) (w := w) (base := base) T g_law_some_shape k_law_draw
    have k_law_decider := h_law_decider (P := l.prog) (w := w) (base := base) T g_law_decider k_law_do_hold
    have k_kept := h_kept (P := l.prog) (w := w) (base := base) T g_kept k_decider
    have k_law_prices := h_law_prices (P := l.prog) (w := w) (base := base) T g_law_prices k_law_one k_law_draw k_law_price
    have k_law_test := h_law_test (P := l.prog) (w := w) (base := base) T g_law_test k_law_one k_law_draw k_law_some_shape
    have k_law_kept := h_law_kept (P := l.prog) (w := w) (base := base) T g_law_kept k_law_decider
    have k_many_kept := h_many_kept (P := l.prog) (w := w) (base := base) T g_many_kept k_kept k_many k_each_shape
    have k_law_tests := h_law_tests (P := l.prog) (w := w) (base := base) T g_law_tests k_law_one k_law_test
    have k_law_book := h_law_book (P := l.prog) (w := w) (base := base) T g_law_book k_law_prices k_law_draw k_law_tests
    exact ok_lawmain F T g_law_deck k_law_draw k_law_book k_law_all_sets k_law_kept k_law_shape k_many_kept k_law_shapes k_many
end
end Ck
open PySem PySem.W PyProof.Rows
set_option maxHeartbeats 0 in
theorem PySem.Challenge.cw_chunkforms_k18_sets_kept_in_each_form_holds : PySem.Challenge.rw_chunkforms_k18_sets_kept_in_each_form.Holds := by
  w_on; o_law; k_head; (case hw => w_witness2)
  k_fill
  refine Ck.walk_G (l := PySem.Challenge.rw_chunkforms_k18_sets_kept_in_each_form) (n := 63) (k := 6) (x := "_law_script") (CX := fun _ => L2.CX0) (sp := fun w => Ck.spLaw _) rfl rfl (by decide) rfl ⟨rfl, by decide, by decide⟩ (fun w h Y => PySem.W.kIn_of Y) ?F (fun _ _ a zs hl hb _ hS => ⟨a, rfl, ⟨zs, hS, hl, hb⟩, fun _ => rfl⟩) (fun _ _ _ _ _ h => h)
  case F =>
    intro w mg fa h KX G hmg
    refine' Ck.all_ok (h := h) hmg (fun _ hmod => ⟨hmod, (PySem.W.mg_none_of KX G ?z0), (PySem.W.mg_none_of KX G ?z1), (PySem.W.mg_none_of KX G ?z2), (PySem.W.mg_none_of KX G ?z3), (PySem.W.mg_none_of KX G ?z4), (PySem.W.mg_none_of KX G ?z5), (PySem.W.mg_none_of KX G ?z6), (PySem.W.mg_none_of KX G ?z7), (PySem.W.mg_none_of KX G ?z8)⟩) (Ck.has_mk KX G ?a0 ?l0 ?c0 ?k0) (Ck.has_mk KX G ?a1 ?l1 ?c1 ?k1) (Ck.has_mk KX G ?a2 ?l2 ?c2 ?k2) (Ck.has_mk KX G ?a3 ?l3 ?c3 ?k3) (Ck.has_mk KX G ?a4 ?l4 ?c4 ?k4) (Ck.has_mk KX G ?a5 ?l5 ?c5 ?k5) (Ck.has_mk KX G ?a6 ?l6 ?c6 ?k6) (Ck.has_mk KX G ?a7 ?l7 ?c7 ?k7) (Ck.has_mk KX G ?a8 ?l8 ?c8 ?k8) (Ck.has_mk KX G ?a9 ?l9 ?c9 ?k9) (Ck.has_mk KX G ?a10 ?l10 ?c10 ?k10) (Ck.has_mk KX G ?a11 ?l11 ?c11 ?k11) (Ck.has_mk KX G ?a12 ?l12 ?c12 ?k12) (Ck.has_mk KX G ?a13 ?l13 ?c13 ?k13) (Ck.has_mk KX G ?a14 ?l14 ?c14 ?k14) (Ck.has_mk KX G ?a15 ?l15 ?c15 ?k15) (Ck.has_mk KX G ?a16 ?l16 ?c16 ?k16) (Ck.has_mk KX G ?a17 ?l17 ?c17 ?k17) (Ck.has_mk KX G ?a18 ?l18 ?c18 ?k18) (Ck.has_mk KX G ?a19 ?l19 ?c19 ?k19) (Ck.has_mk KX G ?a20 ?l20 ?c20 ?k20) (Ck.has_mk KX G ?a21 ?l21 ?c21 ?k21) (Ck.has_mk KX G ?a22 ?l22 ?c22 ?k22) (Ck.has_mk KX G ?a23 ?l23 ?c23 ?k23)
    (case z0 => k_is)
    (case z1 => k_is)
    (case z2 => k_is)
    (case z3 => k_is)
    (case z4 => k_is)
    (case z5 => k_is)
    (case z6 => k_is)
    (case z7 => k_is)
    (case z8 => k_is)
    (case a0 => k_is)
    (case l0 => k_is)
    (case c0 => k_is)
    (case k0 => k_is)
    (case a1 => k_is)
    (case l1 => k_is)
    (case c1 => k_is)
    (case k1 => k_is)
    (case a2 => k_is)
    (case l2 => k_is)
    (case c2 => k_is)
    (case k2 => k_is)
    (case a3 => k_is)
    (case l3 => k_is)
    (case c3 => k_is)
    (case k3 => k_is)
    (case a4 => k_is)
    (case l4 => k_is)
    (case c4 => k_is)
    (case k4 => k_is)
    (case a5 => k_is)
    (case l5 => k_is)
    (case c5 => k_is)
    (case k5 => k_is)
    (case a6 => k_is)
    (case l6 => k_is)
    (case c6 => k_is)
    (case k6 => k_is)
    (case a7 => k_is)
    (case l7 => k_is)
    (case c7 => k_is)
    (case k7 => k_is)
    (case a8 => k_is)
    (case l8 => k_is)
    (case c8 => k_is)
    (case k8 => k_is)
    (case a9 => k_is)
    (case l9 => k_is)
    (case c9 => k_is)
    (case k9 => k_is)
    (case a10 => k_is)
    (case l10 => k_is)
    (case c10 => k_is)
    (case k10 => k_is)
    (case a11 => k_is)
    (case l11 => k_is)
    (case c11 => k_is)
    (case k11 => k_is)
    (case a12 => k_is)
    (case l12 => k_is)
    (case c12 => k_is)
    (case k12 => k_is)
    (case a13 => k_is)
    (case l13 => k_is)
    (case c13 => k_is)
    (case k13 => k_is)
    (case a14 => k_is)
    (case l14 => k_is)
    (case c14 => k_is)
    (case k14 => k_is)
    (case a15 => k_is)
    (case l15 => k_is)
    (case c15 => k_is)
    (case k15 => k_is)
    (case a16 => k_is)
    (case l16 => k_is)
    (case c16 => k_is)
    (case k16 => k_is)
    (case a17 => k_is)
    (case l17 => k_is)
    (case c17 => k_is)
    (case k17 => k_is)
    (case a18 => k_is)
    (case l18 => k_is)
    (case c18 => k_is)
    (case k18 => k_is)
    (case a19 => k_is)
    (case l19 => k_is)
    (case c19 => k_is)
    (case k19 => k_is)
    (case a20 => k_is)
    (case l20 => k_is)
    (case c20 => k_is)
    (case k20 => k_is)
    (case a21 => k_is)
    (case l21 => k_is)
    (case c21 => k_is)
    (case k21 => k_is)
    (case a22 => k_is)
    (case l22 => k_is)
    (case c22 => k_is)
    (case k22 => k_is)
    (case a23 => k_is)
    (case l23 => k_is)
    (case c23 => k_is)
    (case k23 => k_is)
