import PyProof.Rows.All
import Wide.All
import OpenK.AllK
import Wide.FinOn
import HandS.ForMost
import HandS.ForExc
import HandS.Wide
import HandS.WideBits
import HandS.TupAny
import HandS.IsInst
import HandS.SortInts
import HandS.RaiseMore
import HandS.Conv
import HandS.EndBits
import KE.GoesEnum
import KE.GoesMore
import HandS.Zip
import HandS.NoneIn
import HandS.Style
import HandS.SetFor
import HandS.Strs
import KE.KDictZip
import HandS.TupMul
import HandS.TupLe
import HandS.TupLen
import HandS.WordsExc
import HandS.TryMany
import HandS.SuiteRaise
import HandS.ExcField
import HandS.GenList
import HandS.Lambda
import OpenK.KMeth
import KE.KOpsOwn
import HandS.Property
import HandS.IterNext
import HandS.Defaults
import HandS.EndTab
import HandS.HeadWalk
import KE.KExcInit
import HandS.ClsMeth
import KE.KCallOwn
import HandS.CallLocal
import HandS.FStr
import HandS.Iter
import HandS.Dict
import KE.KDictWalk
import KE.KDictKeyed
import KE.KDictLaw
import HandS.SortRule
import HandS.More
import KE.KDictSum
import KE.DataMinMax
import KE.SortData
import HandS.Deep
import KE.KEqNest
import KE.KTryMore
import PySem.Challenge.RW_chunkforms_k27_whole_rows_of_edits
set_option Elab.async false
set_option linter.all false
set_option maxRecDepth 100000
set_option maxHeartbeats 2000000
/-! The engine: what a piece of code does, said over data in place of a heap. -/
namespace Ck
open PySem PySem.Spec PyProof.Rows L2

/-! ### data -/
/-- data as the program sees it; opq: a value taken as it is (a deck, an instance, a class); emp: an empty dict; dic: a dict that is changed no more, its keys tuples; ins: an instance that is changed no more; tpx: a tuple whose object has no dict of its own, for sure -/
inductive Dt where
  | non | bl (b : Bool) | int (i : Int) | str (x : Str) | tup (l : List Dt) | lst (l : List Dt) | emp | opq (v : V)
  | dic (ks : List (List L2.Key)) (l : List Dt) | ins (c : Addr) (ns : List Str) (l : List Dt) | tpx (l : List Dt)

/-! ### keys of dicts, over data -/
def keyD : Dt → Option L2.Key
  | .int i => some (.inl i)
  | .str x => some (.inr x)
  | _ => none
def keysD : List Dt → Option (List L2.Key)
  | [] => some []
  | d :: l => (keyD d).bind fun k => (keysD l).map fun r => k :: r
/-- keys are no empty tuples (one of them may be the written part's) -/
def keysT : List Dt → Option (List L2.Key)
  | [] => none
  | d :: l => keysD (d :: l)
/-- a tuple of the written part -/
def KTp (K : PySem.W.Frag) (a : Addr) (vs : List V) : Prop := ∃ (o : Obj) (its : Array Value) (n : Nat), K.lookup a = some o ∧ o.cls = .type "tuple" ∧ o.data = .seq its n ∧ its.size ≤ sizeLine ∧ Vals vs its.toList
/-- an empty tuple of the written part -/
abbrev KT0 (K : PySem.W.Frag) (a : Addr) : Prop := KTp K a []
/-- a tuple of the written part, or one whose object is known -/
def SqK (K : PySem.W.Frag) (H : Hp) (a : Addr) (vs : List V) : Prop := KTp K a vs ∨ ∃ o, H a = some (.frz o (.tup vs))
theorem SqK.t {K : PySem.W.Frag} {H : Hp} {a : Addr} {vs : List V} (h : SqK K H a vs) : SqT K H a vs := by
  rcases h with h | ⟨o, h⟩
  · exact .inr h
  · exact .inl (.inr ⟨o, h⟩)
theorem SqK.mono {K : PySem.W.Frag} {H H' : Hp} {a : Addr} {vs : List V} (e : Same H H') (h : SqK K H a vs) : SqK K H' a vs := by
  rcases h with h | ⟨o, h⟩
  · exact .inl h
  · exact .inr ⟨o, e _ _ h⟩
mutual
/-- v stands for d over the heap H -/
inductive Dr (K : PySem.W.Frag) (H : Hp) : V → Dt → Prop
  | non : Dr K H .non .non
  | bl (b : Bool) : Dr K H (.bl b) (.bl b)
  | int (i : Int) : Dr K H (.int i) (.int i)
  | str (x : Str) : Dr K H (.str x) (.str x)
  | tup {a : Addr} {vs : List V} {l : List Dt} : H a = some (.tup vs) → DrL K H vs l → Dr K H (.ref a) (.tup l)
  | lst {a : Addr} {vs : List V} {l : List Dt} : H a = some (.lst vs) → DrL K H vs l → Dr K H (.ref a) (.lst l)
  | tupK {a : Addr} {vs : List V} {l : List Dt} : SqK K H a vs → DrL K H vs l → keysT l = none → Dr K H (.ref a) (.tup l)
  | tpx {a : Addr} {o : Obj} {vs : List V} {l : List Dt} : H a = some (.frz o (.tup vs)) → o.dict = none ∧ keysT l = none → DrL K H vs l → Dr K H (.ref a) (.tpx l)
  | emp {a : Addr} : H a = some (.dK []) → Dr K H (.ref a) .emp
  | opq (v : V) : Dr K H v (.opq v)
  | dic {a : Addr} {o : Obj} {us : List (List L2.Key × V)} {ks : List (List L2.Key)} {l : List Dt} : H a = some (.frz o (.dT us)) → us.map (·.1) = ks → DrL K H (us.map (·.2)) l → Dr K H (.ref a) (.dic ks l)
  | ins {a c dx : Addr} {ns : List Str} {vs : List V} {l : List Dt} : H a = some (.ins c dx (ns.zip vs)) → H dx = some (.own a) → ns.length = vs.length → DrL K H vs l → Dr K H (.ref a) (.ins c ns l)
inductive DrL (K : PySem.W.Frag) (H : Hp) : List V → List Dt → Prop
  | nil : DrL K H [] []
  | cons {v : V} {vs : List V} {d : Dt} {l : List Dt} : Dr K H v d → DrL K H vs l → DrL K H (v :: vs) (d :: l)
end

theorem sameSeqT {K : PySem.W.Frag} {H H' : Hp} {a : Addr} {xs : List V} (e : Same H H') (h : SqT K H a xs) : SqT K H' a xs := by
  rcases h with (h | ⟨o, h⟩) | h
  · exact .inl (.inl (e _ _ h))
  · exact .inl (.inr ⟨o, e _ _ h⟩)
  · exact .inr h

section
variable {K : PySem.W.Frag} {F F' H H' : Hp}
mutual
theorem Dr.mono (e : Same F F') : ∀ {v : V} {d : Dt}, Dr K F v d → Dr K F' v d
  | _, _, .non => .non
  | _, _, .bl b => .bl b
  | _, _, .int i => .int i
  | _, _, .str x => .str x
  | _, _, .tup h q => .tup (e _ _ h) (DrL.mono e q)
  | _, _, .lst h q => .lst (e _ _ h) (DrL.mono e q)
  | _, _, .tupK h q k => .tupK (h.mono e) (DrL.mono e q) k
  | _, _, .tpx h k q => .tpx (e _ _ h) k (DrL.mono e q)
  | _, _, .emp h => .emp (e _ _ h)
  | _, _, .opq v => .opq v
  | _, _, .dic h k q => .dic (e _ _ h) k (DrL.mono e q)
  | _, _, .ins h h2 k q => .ins (e _ _ h) (e _ _ h2) k (DrL.mono e q)
theorem DrL.mono (e : Same F F') : ∀ {vs : List V} {l : List Dt}, DrL K F vs l → DrL K F' vs l
  | _, _, .nil => .nil
  | _, _, .cons h q => .cons (Dr.mono e h) (DrL.mono e q)
end
theorem DrL.len : ∀ {vs : List V} {l : List Dt}, DrL K F vs l → vs.length = l.length
  | _, _, .nil => rfl
  | _, _, .cons _ q => by rw [List.length_cons, List.length_cons, DrL.len q]
theorem DrL.at : ∀ {vs : List V} {l : List Dt} {i : Nat} {d : Dt}, DrL K F vs l → l[i]? = some d → ∃ v, vs[i]? = some v ∧ Dr K F v d
  | _, _, _, _, .nil, h => by simp at h
  | _, _, 0, _, .cons h _, e => by
    have e' := Option.some.inj e
    subst e'
    exact ⟨_, rfl, h⟩
  | _, _, i + 1, _, .cons _ q, e => DrL.at (i := i) q e
theorem DrL.app : ∀ {vs ws : List V} {l r : List Dt}, DrL K F vs l → DrL K F ws r → DrL K F (vs ++ ws) (l ++ r)
  | _, _, _, _, .nil, q => q
  | _, _, _, _, .cons h q, r => .cons h (DrL.app q r)
theorem DrL.take : ∀ {vs : List V} {l : List Dt} (n : Nat), DrL K F vs l → DrL K F (vs.take n) (l.take n)
  | _, _, 0, _ => .nil
  | _, _, _ + 1, .nil => .nil
  | _, _, n + 1, .cons h q => .cons h (DrL.take n q)
theorem DrL.drop : ∀ {vs : List V} {l : List Dt} (n : Nat), DrL K F vs l → DrL K F (vs.drop n) (l.drop n)
  | _, _, 0, q => q
  | _, _, _ + 1, .nil => .nil
  | _, _, n + 1, .cons _ q => DrL.drop n q
theorem DrL.set : ∀ {vs : List V} {l : List Dt} {v : V} {d : Dt} (i : Nat), Dr K F v d → DrL K F vs l → DrL K F (vs.set i v) (l.set i d)
  | _, _, _, _, _, _, .nil => .nil
  | _, _, _, _, 0, h, .cons _ q => .cons h q
  | _, _, _, _, i + 1, h, .cons g q => .cons g (DrL.set i h q)
theorem DrL.cut {vs : List V} {l : List Dt} (h : DrL K F vs l) (lo hi : Option Int) : DrL K F (cutV vs lo hi) ((l.drop (HT.sIx l.length 0 lo)).take (HT.sIx l.length l.length hi - HT.sIx l.length 0 lo)) := by
  unfold cutV
  rw [h.len]
  exact DrL.take _ (DrL.drop _ h)
theorem DrL.rep {vs : List V} {l : List Dt} (h : DrL K F vs l) : ∀ n : Nat, DrL K F (List.replicate n vs).flatten (List.replicate n l).flatten
  | 0 => .nil
  | n + 1 => by
    rw [List.replicate_succ, List.replicate_succ, List.flatten_cons, List.flatten_cons]
    exact DrL.app h (DrL.rep h n)
end

/-! ### the state over data -/
/-- what a slot holds: data, or a list of its own that may be changed -/
inductive Ow where
  | lst (l : List Dt) | dic (kvs : List (List L2.Key × Dt))
inductive Sv where
  | dat (d : Dt) | mine (o : Ow)
abbrev Sv.own (l : List Dt) : Sv := .mine (.lst l)
abbrev Sv.dic (kvs : List (List L2.Key × Dt)) : Sv := .mine (.dic kvs)
abbrev Sl := List (Option Sv)
theorem Sv.own.injEq (l r : List Dt) : (Sv.own l = Sv.own r) = (l = r) := by
  refine propext ⟨fun h => ?_, fun h => by rw [h]⟩
  injection h with h
  injection h
theorem Sv.dic.injEq (l r : List (List L2.Key × Dt)) : (Sv.dic l = Sv.dic r) = (l = r) := by
  refine propext ⟨fun h => ?_, fun h => by rw [h]⟩
  injection h with h
  injection h

def isTp : HO → Bool
  | .tup _ => true
  | _ => false
def IsTp (o : HO) : Prop := isTp o = true
/-- a world over data: what it says of its own objects (beside what never changes), and of what others hold -/
structure Wd (Ω : Type) where
  ok : Ω → Hp → Hp → Prop
  bk : Hp → Prop
  monoF : ∀ (w : Ω) (F F' G : Hp), Same F F' → ok w F G → ok w F' G
  monoB : ∀ (B B' : Hp), Same B B' → bk B → bk B'
/-- F: what never changes; G: the world's own objects; B: what others hold and nobody here touches; all within H; tuples alone may be shared -/
structure HR {Ω : Type} (W : Wd Ω) (B F G H : Hp) (w : Ω) : Prop where
  b : ∀ a o, B a = some o → H a = some o ∧ (F a = none ∨ IsTp o) ∧ (G a = none ∨ IsTp o)
  f : Same F H
  g : Same G H
  d : ∀ a o, F a = some o → G a = none ∨ IsTp o
  w : W.ok w F G
  k : W.bk B

/-- an own object over data -/
inductive OwR (K : PySem.W.Frag) (F : Hp) : HO → Ow → Prop
  | lst {vs : List V} {l : List Dt} (h : DrL K F vs l) : OwR K F (.lst vs) (.lst l)
  | dic {us : List (List L2.Key × V)} {kvs : List (List L2.Key × Dt)} (hk : us.map (·.1) = kvs.map (·.1)) (h : DrL K F (us.map (·.2)) (kvs.map (·.2))) : OwR K F (.dT us) (.dic kvs)
theorem OwR.asLst {K : PySem.W.Frag} {F : Hp} {ob : HO} {l : List Dt} (h : OwR K F ob (.lst l)) : ∃ vs, ob = .lst vs ∧ DrL K F vs l := by
  cases h with | lst h => exact ⟨_, rfl, h⟩
theorem OwR.mono {K : PySem.W.Frag} {F F' : Hp} {ob : HO} {o : Ow} (e : Same F F') (h : OwR K F ob o) : OwR K F' ob o := by
  cases h with
  | lst h => exact .lst (h.mono e)
  | dic hk h => exact .dic hk (h.mono e)
def SlotOk (K : PySem.W.Frag) (B F G H : Hp) (v : V) : Sv → Prop
  | .dat d => Dr K F v d
  | .mine o => ∃ a ob, v = .ref a ∧ B a = none ∧ F a = none ∧ G a = none ∧ H a = some ob ∧ OwR K F ob o

structure SR {Ω : Type} (K : PySem.W.Frag) (W : Wd Ω) (B F G H : Hp) (w : Ω) (σ : L2.St) (sl : Sl) : Prop where
  hr : HR W B F G H w
  len : sl.length = σ.length
  s : ∀ (i : Nat) (x : Sv), sl[i]? = some (some x) → ∃ v, σ[i]? = some (some v) ∧ SlotOk K B F G H v x
  o : ∀ (i j : Nat) (v : V) (l r : Ow), sl[i]? = some (some (.mine l)) → sl[j]? = some (some (.mine r)) → σ[i]? = some (some v) → σ[j]? = some (some v) → i = j

/-- how a result hangs on the state: clean data, or the list of the slot i as it stands -/
inductive Fl where
  | cl | br (i : Nat)
def FlOk (K : PySem.W.Frag) (F : Hp) (σ : L2.St) (sl : Sl) (v : V) (d : Dt) : Fl → Prop
  | .cl => Dr K F v d
  | .br i => σ[i]? = some (some v) ∧ ∃ l, sl[i]? = some (some (.own l)) ∧ d = .lst l
/-- d is to be read at v now -/
def Da (K : PySem.W.Frag) (F H : Hp) (v : V) (d : Dt) : Prop := Dr K F v d ∨ ∃ a vs l, v = .ref a ∧ d = .lst l ∧ H a = some (.lst vs) ∧ DrL K F vs l

section
variable {Ω : Type} {K : PySem.W.Frag} {W : Wd Ω} {B F F' G G' H H' : Hp} {w w' : Ω} {σ σ' : L2.St} {sl sl' : Sl} {v : V} {d : Dt} {fl : Fl} {p a : Addr} {o : HO}
theorem FlOk.mono (e : Same F F') (h : FlOk K F σ sl v d fl) : FlOk K F' σ sl v d fl := by
  cases fl with
  | cl => exact Dr.mono e h
  | br i => exact h
theorem FlOk.da (r : SR K W B F G H w σ sl) (h : FlOk K F σ sl v d fl) : Da K F H v d := by
  cases fl with
  | cl => exact .inl h
  | br i =>
    obtain ⟨h1, l, h2, rfl⟩ := h
    obtain ⟨u, hu, a, ob, rfl, _, _, _, hH, q⟩ := r.s i _ h2
    obtain ⟨vs, rfl, q2⟩ := q.asLst
    rw [h1] at hu
    cases hu
    exact .inr ⟨a, vs, l, rfl, rfl, hH, q2⟩
theorem Da.int {i : Int} (h : Da K F H v (.int i)) : v = .int i := by
  rcases h with h | ⟨_, _, _, _, e, _⟩
  · cases h; rfl
  · cases e
theorem Da.bl {b : Bool} (h : Da K F H v (.bl b)) : v = .bl b := by
  rcases h with h | ⟨_, _, _, _, e, _⟩
  · cases h; rfl
  · cases e
theorem Da.str {x : Str} (h : Da K F H v (.str x)) : v = .str x := by
  rcases h with h | ⟨_, _, _, _, e, _⟩
  · cases h; rfl
  · cases e
theorem Da.non (h : Da K F H v .non) : v = .non := by
  rcases h with h | ⟨_, _, _, _, e, _⟩
  · cases h; rfl
  · cases e
theorem Da.opq {u : V} (h : Da K F H v (.opq u)) : v = u := by
  rcases h with h | ⟨_, _, _, _, e, _⟩
  · cases h; rfl
  · cases e
theorem Da.emp (h : Da K F H v .emp) : ∃ a, v = .ref a ∧ F a = some (.dK []) := by
  rcases h with h | ⟨_, _, _, _, e, _⟩
  · cases h with | emp q => exact ⟨_, rfl, q⟩
  · cases e
theorem Da.tupS {l : List Dt} (h : Da K F H v (.tup l)) : ∃ a vs, v = .ref a ∧ SqT K F a vs ∧ DrL K F vs l ∧ Dr K F (.ref a) (.tup l) := by
  rcases h with h | ⟨_, _, _, _, e, _⟩
  · cases h with
    | tup q r => exact ⟨_, _, rfl, .of q, r, .tup q r⟩
    | tupK q r k => exact ⟨_, _, rfl, q.t, r, .tupK q r k⟩
  · cases e
theorem Da.dicR {ks : List (List L2.Key)} {l : List Dt} (h : Da K F H v (.dic ks l)) : ∃ a o us, v = .ref a ∧ F a = some (.frz o (.dT us)) ∧ us.map (·.1) = ks ∧ DrL K F (us.map (·.2)) l := by
  rcases h with h | ⟨_, _, _, _, e, _⟩
  · cases h with | dic q k r => exact ⟨_, _, _, rfl, q, k, r⟩
  · cases e
theorem Da.insR {c : Addr} {ns : List Str} {l : List Dt} (h : Da K F H v (.ins c ns l)) : ∃ a dx vs, v = .ref a ∧ F a = some (.ins c dx (ns.zip vs)) ∧ F dx = some (.own a) ∧ ns.length = vs.length ∧ DrL K F vs l := by
  rcases h with h | ⟨_, _, _, _, e, _⟩
  · cases h with | ins q q2 k r => exact ⟨_, _, _, rfl, q, q2, k, r⟩
  · cases e
theorem Da.tup {l : List Dt} (h : Da K F H v (.tup l)) : ∃ a vs, v = .ref a ∧ SqT K F a vs ∧ DrL K F vs l := by
  obtain ⟨a, vs, e, q, r, _⟩ := h.tupS
  exact ⟨a, vs, e, q, r⟩
theorem Da.lst {l : List Dt} (e : Same F H) (h : Da K F H v (.lst l)) : ∃ a vs, v = .ref a ∧ H a = some (.lst vs) ∧ DrL K F vs l := by
  rcases h with h | ⟨a, vs, l', rfl, e', q, r⟩
  · cases h with | lst q r => exact ⟨_, _, rfl, e _ _ q, r⟩
  · cases e'; exact ⟨a, vs, rfl, q, r⟩
theorem Da.now (e : Same F H) (h : Da K F H v d) : Dr K H v d := by
  rcases h with h | ⟨a, vs, l', rfl, rfl, q, r⟩
  · exact h.mono e
  · exact .lst q (r.mono e)

theorem sameUpd (h : H p = none) : Same H (upd H p o) := fun b x e => by
  rw [upd_ne (ne_of_none e h)]
  exact e
/-- a new object, known at once -/
theorem HR.new (r : HR W B F G H w) (hp : H p = none) : HR W B (upd F p o) G (upd H p o) w := by
  have hF : F p = none := r.f.free hp
  have hG : G p = none := r.g.free hp
  refine ⟨fun b x e => ?_, fun b x e => ?_, fun b x e => ?_, fun b x e => ?_, W.monoF _ _ _ _ (sameUpd hF) r.w, r.k⟩
  · obtain ⟨h1, h2, h3⟩ := r.b b x e
    have hn : b ≠ p := ne_of_none h1 hp
    exact ⟨by rw [upd_ne hn]; exact h1, by rw [upd_ne hn]; exact h2, h3⟩
  · by_cases hb : b = p
    · subst hb
      rw [upd_same] at e ⊢
      exact e
    · rw [upd_ne hb] at e ⊢
      exact r.f _ _ e
  · have hn : b ≠ p := ne_of_none (r.g _ _ e) hp
    rw [upd_ne hn]
    exact r.g _ _ e
  · by_cases hb : b = p
    · subst hb
      exact .inl hG
    · rw [upd_ne hb] at e
      exact r.d _ _ e
/-- a new object that stays its maker's own -/
theorem HR.newOwn (r : HR W B F G H w) (hp : H p = none) : HR W B F G (upd H p o) w :=
  ⟨fun b x e => by
      obtain ⟨h1, h2, h3⟩ := r.b b x e
      exact ⟨by rw [upd_ne (ne_of_none h1 hp)]; exact h1, h2, h3⟩,
    r.f.trans (sameUpd hp), r.g.trans (sameUpd hp), r.d, r.w, r.k⟩
/-- what nobody else holds may change -/
theorem HR.chg (r : HR W B F G H w) (hB : B p = none) (hF : F p = none) (hG : G p = none) : HR W B F G (upd H p o) w :=
  ⟨fun b x e => by
      obtain ⟨h1, h2, h3⟩ := r.b b x e
      exact ⟨by rw [upd_ne (ne_of_none e hB)]; exact h1, h2, h3⟩,
    fun b x e => by rw [upd_ne (ne_of_none e hF)]; exact r.f _ _ e, fun b x e => by rw [upd_ne (ne_of_none e hG)]; exact r.g _ _ e, r.d, r.w, r.k⟩
/-- what is one's own becomes known for good -/
theorem HR.frz (r : HR W B F G H w) (hB : B p = none) (hF : F p = none) (hG : G p = none) (hH : H p = some o) : HR W B (upd F p o) G H w := by
  refine ⟨fun b x e => ?_, fun b x e => ?_, r.g, fun b x e => ?_, W.monoF _ _ _ _ (sameUpd hF) r.w, r.k⟩
  · obtain ⟨h1, h2, h3⟩ := r.b b x e
    exact ⟨h1, by rw [upd_ne (ne_of_none e hB)]; exact h2, h3⟩
  · by_cases hb : b = p
    · subst hb
      rw [upd_same] at e
      rw [hH, e]
    · rw [upd_ne hb] at e
      exact r.f _ _ e
  · by_cases hb : b = p
    · subst hb
      exact .inl hG
    · rw [upd_ne hb] at e
      exact r.d _ _ e
/-- a tuple that stands there becomes known for good -/
theorem HR.tupF (r : HR W B F G H w) (hH : H p = some o) (ht : IsTp o) (hF : F p = none) : HR W B (upd F p o) G H w := by
  refine ⟨fun b x e => ?_, fun b x e => ?_, r.g, fun b x e => ?_, W.monoF _ _ _ _ (sameUpd hF) r.w, r.k⟩
  · obtain ⟨h1, h2, h3⟩ := r.b b x e
    by_cases hb : b = p
    · subst hb
      rw [hH] at h1
      cases h1
      exact ⟨hH, .inr ht, h3⟩
    · exact ⟨h1, by rw [upd_ne hb]; exact h2, h3⟩
  · by_cases hb : b = p
    · subst hb
      rw [upd_same] at e
      rw [hH, e]
    · rw [upd_ne hb] at e
      exact r.f _ _ e
  · by_cases hb : b = p
    · subst hb
      rw [upd_same] at e
      cases e
      exact .inr ht
    · rw [upd_ne hb] at e
      exact r.d _ _ e

theorem OwR.notTp {ob : HO} {l : Ow} (h : OwR K F ob l) : ¬ IsTp ob := by
  cases h <;> exact fun z => nomatch z
/-- the slots are kept from one state to another -/
theorem SR.to (r : SR K W B F G H w σ sl) (h : HR W B F' G' H' w') (e : Same F F') (ho : ∀ (i : Nat) (l : Ow) (a : Addr) (ob : HO), sl[i]? = some (some (.mine l)) → σ[i]? = some (some (.ref a)) → H a = some ob → B a = none → F a = none → G a = none → ¬ IsTp ob → H' a = some ob ∧ F' a = none ∧ G' a = none) : SR K W B F' G' H' w' σ sl := by
  refine ⟨h, r.len, fun i x q => ?_, r.o⟩
  obtain ⟨v, h1, h2⟩ := r.s i x q
  refine ⟨v, h1, ?_⟩
  cases x with
  | dat d => exact Dr.mono e h2
  | mine l =>
    obtain ⟨a, vs, rfl, hB, hF, hG, hH, hr⟩ := h2
    obtain ⟨k1, k2, k3⟩ := ho i l a vs q h1 hH hB hF hG hr.notTp
    exact ⟨a, vs, rfl, hB, k2, k3, k1, hr.mono e⟩
theorem SR.new (r : SR K W B F G H w σ sl) (hp : H p = none) : SR K W B (upd F p o) G (upd H p o) w σ sl :=
  r.to (r.hr.new hp) (sameUpd (r.hr.f.free hp)) fun i l a vs _ _ h _ hF hG _ => by
    have hn : a ≠ p := ne_of_none h hp
    rw [upd_ne hn, upd_ne hn]
    exact ⟨h, hF, hG⟩
theorem SR.newOwn (r : SR K W B F G H w σ sl) (hp : H p = none) : SR K W B F G (upd H p o) w σ sl :=
  r.to (r.hr.newOwn hp) (Same.refl F) fun i l a vs _ _ h _ hF hG _ => by
    rw [upd_ne (ne_of_none h hp)]
    exact ⟨h, hF, hG⟩
theorem SR.tupF (r : SR K W B F G H w σ sl) (hH : H p = some o) (ht : IsTp o) (hF : F p = none) : SR K W B (upd F p o) G H w σ sl := by
  refine ⟨r.hr.tupF hH ht hF, r.len, fun i x q => ?_, r.o⟩
  obtain ⟨v, h1, h2⟩ := r.s i x q
  refine ⟨v, h1, ?_⟩
  cases x with
  | dat d => exact Dr.mono (sameUpd hF) h2
  | mine l =>
    obtain ⟨a, vs, rfl, hB, hF', hG, hH', hr⟩ := h2
    have hn : a ≠ p := fun z => by
      subst z
      rw [hH] at hH'
      cases hH'
      exact hr.notTp ht
    exact ⟨a, vs, rfl, hB, by rw [upd_ne hn]; exact hF', hG, hH', hr.mono (sameUpd hF)⟩
/-- data is laid into a slot -/
theorem SR.dat (r : SR K W B F G H w σ sl) (i : Nat) (h : Dr K F v d) : SR K W B F G H w (σ.set i (some v)) (sl.set i (some (.dat d))) := by
  refine ⟨r.hr, by rw [List.length_set, List.length_set, r.len], fun j x q => ?_, fun j k u l m h1 h2 h3 h4 => ?_⟩
  · rw [List.getElem?_set] at q ⊢
    by_cases e : i = j
    · subst e
      rw [if_pos rfl] at q ⊢
      by_cases hl : i < sl.length
      · rw [if_pos hl] at q
        rw [if_pos (by rw [← r.len]; exact hl)]
        cases q
        exact ⟨v, rfl, h⟩
      · rw [if_neg hl] at q
        cases q
    · rw [if_neg e] at q ⊢
      exact r.s j x q
  · have ne : ∀ (n : Nat) (u : Ow), (sl.set i (some (.dat d)))[n]? = some (some (.mine u)) → sl[n]? = some (some (.mine u)) ∧ i ≠ n := fun n u z => by
      rw [List.getElem?_set] at z
      by_cases e : i = n
      · rw [if_pos e] at z
        split at z <;> cases z
      · rw [if_neg e] at z
        exact ⟨z, e⟩
    obtain ⟨a1, n1⟩ := ne j l h1
    obtain ⟨a2, n2⟩ := ne k m h2
    rw [List.getElem?_set_ne n1] at h3
    rw [List.getElem?_set_ne n2] at h4
    exact r.o j k u l m a1 a2 h3 h4
/-- what is one's own is laid into a slot -/
theorem SR.mineSet {ob : HO} {l : Ow} (r : SR K W B F G H w σ sl) (i : Nat) (hB : B a = none) (hF : F a = none) (hG : G a = none) (hH : H a = some ob) (h : OwR K F ob l)
    (hn : ∀ (j : Nat) (m : Ow), sl[j]? = some (some (.mine m)) → j ≠ i → σ[j]? ≠ some (some (.ref a))) : SR K W B F G H w (σ.set i (some (.ref a))) (sl.set i (some (.mine l))) := by
  have hs : ∀ (j : Nat) (m : Ow), (sl.set i (some (.mine l)))[j]? = some (some (.mine m)) → (j = i ∧ i < sl.length) ∨ (j ≠ i ∧ sl[j]? = some (some (.mine m))) := fun j m z => by
    rw [List.getElem?_set] at z
    by_cases e : i = j
    · rw [if_pos e] at z
      split at z
      · exact .inl ⟨e.symm, by omega⟩
      · cases z
    · rw [if_neg e] at z
      exact .inr ⟨fun q => e q.symm, z⟩
  refine ⟨r.hr, by rw [List.length_set, List.length_set, r.len], fun j x q => ?_, fun j k u m n h1 h2 h3 h4 => ?_⟩
  · rw [List.getElem?_set] at q ⊢
    by_cases e : i = j
    · subst e
      rw [if_pos rfl] at q ⊢
      by_cases hl : i < sl.length
      · rw [if_pos hl] at q
        rw [if_pos (by rw [← r.len]; exact hl)]
        cases q
        exact ⟨_, rfl, a, ob, rfl, hB, hF, hG, hH, h⟩
      · rw [if_neg hl] at q
        cases q
    · rw [if_neg e] at q ⊢
      exact r.s j x q
  · rcases hs j m h1 with ⟨e1, hl⟩ | ⟨n1, a1⟩ <;> rcases hs k n h2 with ⟨e2, hl2⟩ | ⟨n2, a2⟩
    · rw [e1, e2]
    · subst e1
      rw [List.getElem?_set_self (by rw [← r.len]; exact hl)] at h3
      rw [List.getElem?_set_ne (Ne.symm n2)] at h4
      cases h3
      exact absurd h4 (hn k n a2 n2)
    · subst e2
      rw [List.getElem?_set_self (by rw [← r.len]; exact hl2)] at h4
      rw [List.getElem?_set_ne (Ne.symm n1)] at h3
      cases h4
      exact absurd h3 (hn j m a1 n1)
    · rw [List.getElem?_set_ne (Ne.symm n1)] at h3
      rw [List.getElem?_set_ne (Ne.symm n2)] at h4
      exact r.o j k u m n a1 a2 h3 h4
theorem SR.ownSet {vs : List V} {l : List Dt} (r : SR K W B F G H w σ sl) (i : Nat) (hB : B a = none) (hF : F a = none) (hG : G a = none) (hH : H a = some (.lst vs)) (h : DrL K F vs l)
    (hn : ∀ (j : Nat) (m : Ow), sl[j]? = some (some (.mine m)) → j ≠ i → σ[j]? ≠ some (some (.ref a))) : SR K W B F G H w (σ.set i (some (.ref a))) (sl.set i (some (.own l))) := r.mineSet i hB hF hG hH (.lst h) hn
/-- a stands at no slot of one's own -/
def NoOwn (σ : L2.St) (sl : Sl) (a : Addr) : Prop := ∀ (j : Nat) (m : Ow), sl[j]? = some (some (.mine m)) → σ[j]? ≠ some (some (.ref a))
theorem SR.fresh (r : SR K W B F G H w σ sl) (h : H a = none) : B a = none ∧ NoOwn σ sl a := by
  refine ⟨?_, fun j m h1 h2 => ?_⟩
  · cases hb : B a with
    | none => rfl
    | some o =>
      have := (r.hr.b a o hb).1
      rw [h] at this
      cases this
  · obtain ⟨v, q1, c, vs, rfl, _, _, _, q2, _⟩ := r.s j _ h1
    rw [h2] at q1
    cases q1
    rw [h] at q2
    cases q2
end
end Ck
namespace Ck
open PySem PySem.Spec PyProof.Rows L2

/-! ### what an expression, an argument list, a test say over data -/
abbrev DE (Ω : Type) := Sl → Ω → (Dt → Fl → Ω → Prop) → Prop
abbrev DL (Ω : Type) := Sl → Ω → (List Dt → Ω → Prop) → Prop
abbrev DT (Ω : Type) := Sl → Ω → (Bool → Ω → Prop) → Prop
abbrev DO (Ω : Type) := Sl → Ω → (Option Int → Ω → Prop) → Prop

section
variable {Ω : Type} (K : PySem.W.Frag) (W : Wd Ω)
def lft (p : DE Ω) : TE := fun σ H Q => ∃ B F G w sl, SR K W B F G H w σ sl ∧ p sl w fun d fl w' => ∀ v F' G' H', SR K W B F' G' H' w' σ sl → Same F F' → FlOk K F' σ sl v d fl → Q v H'
def lftL (p : DL Ω) : TE := fun σ H Q => ∃ B F G w sl, SR K W B F G H w σ sl ∧ p sl w fun l w' => ∀ a vs F' G' H', SR K W B F' G' H' w' σ sl → Same F F' → B a = none → NoOwn σ sl a → H' a = some (.lst vs) → F' a = none → G' a = none → DrL K F' vs l → Q (.ref a) H'
def lftA (p : DL Ω) : TA := fun σ H Q => ∃ B F G w sl, SR K W B F G H w σ sl ∧ p sl w fun l w' => ∀ vs F' G' H', SR K W B F' G' H' w' σ sl → Same F F' → DrL K F' vs l → Q vs H'
def lftT (p : DT Ω) : TT := fun σ H Q => ∃ B F G w sl, SR K W B F G H w σ sl ∧ p sl w fun b w' => ∀ F' G' H', SR K W B F' G' H' w' σ sl → Same F F' → Q b H'
def lftO (p : DO Ω) : TO := fun σ H Q => ∃ B F G w sl, SR K W B F G H w σ sl ∧ p sl w fun b w' => ∀ F' G' H', SR K W B F' G' H' w' σ sl → Same F F' → Q b H'
end
structure PD {Ω : Type} (X : Cx) (W : Wd Ω) (e : Expr) (p : DE Ω) : Prop where
  run : PE X e (lft X.K W p)
  mono : ∀ sl w (C C' : Dt → Fl → Ω → Prop), (∀ d fl w', C d fl w' → C' d fl w') → p sl w C → p sl w C'
structure PDL {Ω : Type} (X : Cx) (W : Wd Ω) (e : Expr) (p : DL Ω) : Prop where
  run : PE X e (lftL X.K W p)
  mono : ∀ sl w (C C' : List Dt → Ω → Prop), (∀ d w', C d w' → C' d w') → p sl w C → p sl w C'
structure PDA {Ω : Type} (X : Cx) (W : Wd Ω) (es : List Expr) (p : DL Ω) : Prop where
  run : PA X es (lftA X.K W p)
  mono : ∀ sl w (C C' : List Dt → Ω → Prop), (∀ d w', C d w' → C' d w') → p sl w C → p sl w C'
structure PDT {Ω : Type} (X : Cx) (W : Wd Ω) (e : Expr) (p : DT Ω) : Prop where
  run : PT X e (lftT X.K W p)
  mono : ∀ sl w (C C' : Bool → Ω → Prop), (∀ d w', C d w' → C' d w') → p sl w C → p sl w C'
structure PDW {Ω : Type} (X : Cx) (W : Wd Ω) (e : Expr) (p : DT Ω) : Prop where
  run : PW X e (lftT X.K W p)
  mono : ∀ sl w (C C' : Bool → Ω → Prop), (∀ d w', C d w' → C' d w') → p sl w C → p sl w C'
structure PDO {Ω : Type} (X : Cx) (W : Wd Ω) (e : Option Expr) (p : DO Ω) : Prop where
  run : PO X e (lftO X.K W p)
  mono : ∀ sl w (C C' : Option Int → Ω → Prop), (∀ d w', C d w' → C' d w') → p sl w C → p sl w C'

theorem pe_imp {X : Cx} {e : Expr} {t t' : TE} (h : PE X e t) (i : ∀ σ H Q, t' σ H Q → t σ H Q) : PE X e t' := ⟨fun pins s σ H Q I q => h.run pins s σ H Q I (i σ H Q q)⟩
theorem pa_imp {X : Cx} {e : List Expr} {t t' : TA} (h : PA X e t) (i : ∀ σ H Q, t' σ H Q → t σ H Q) : PA X e t' := ⟨fun pos pins s σ H Q I q => h.run pos pins s σ H Q I (i σ H Q q)⟩
theorem pt_imp {X : Cx} {e : Expr} {t t' : TT} (h : PT X e t) (i : ∀ σ H Q, t' σ H Q → t σ H Q) : PT X e t' := ⟨fun pins s σ H Q I q => h.run pins s σ H Q I (i σ H Q q)⟩
theorem pw_imp {X : Cx} {e : Expr} {t t' : TT} (h : PW X e t) (i : ∀ σ H Q, t' σ H Q → t σ H Q) : PW X e t' := ⟨fun whole pins s σ H Q I q => h.run whole pins s σ H Q I (i σ H Q q)⟩

/-! ### results of an operation -/
/-- nothing new and data of F, or one new object, or a tuple that stood there already -/
def Ext (K : PySem.W.Frag) (F H F' H' : Hp) (v : V) (d : Dt) : Prop := (F' = F ∧ H' = H ∧ Dr K F v d) ∨ (∃ p o, H p = none ∧ F' = upd F p o ∧ H' = upd H p o ∧ Dr K (upd F p o) v d) ∨
  ∃ p o, H p = some o ∧ IsTp o ∧ F p = none ∧ F' = upd F p o ∧ H' = H ∧ Dr K (upd F p o) v d
theorem Ext.use {Ω : Type} {K : PySem.W.Frag} {W : Wd Ω} {B F F' G H H' : Hp} {w : Ω} {σ : L2.St} {sl : Sl} {v : V} {d : Dt} (r : SR K W B F G H w σ sl) (x : Ext K F H F' H' v d) : SR K W B F' G H' w σ sl ∧ Same F F' ∧ Dr K F' v d := by
  rcases x with ⟨rfl, rfl, h⟩ | ⟨p, o, hp, rfl, rfl, h⟩ | ⟨p, o, hp, ht, hF, rfl, rfl, h⟩
  · exact ⟨r, Same.refl _, h⟩
  · exact ⟨r.new hp, sameUpd (r.hr.f.free hp), h⟩
  · exact ⟨r.tupF hp ht hF, sameUpd hF, h⟩
structure OpD (K : PySem.W.Frag) (r : R2) (f : Dt → Dt → (Dt → Prop) → Prop) : Prop where
  run : ∀ (F H : Hp) (xv yv : V) (x y : Dt) (Q : VK) (C : Dt → Prop), Same F H → Da K F H xv x → Da K F H yv y → f x y C → (∀ d v F' H', C d → Ext K F H F' H' v d → Q v H') → r xv yv H Q
  mono : ∀ x y (C C' : Dt → Prop), (∀ d, C d → C' d) → f x y C → f x y C'
structure FnD (K : PySem.W.Frag) (r : List V → Hp → VK → Prop) (f : Dt → (Dt → Prop) → Prop) : Prop where
  run : ∀ (F H : Hp) (xv : V) (x : Dt) (Q : VK) (C : Dt → Prop), Same F H → Da K F H xv x → f x C → (∀ d v F' H', C d → Ext K F H F' H' v d → Q v H') → r [xv] H Q
  mono : ∀ x (C C' : Dt → Prop), (∀ d, C d → C' d) → f x C → f x C'
structure FnD2 (K : PySem.W.Frag) (r : List V → Hp → VK → Prop) (f : Dt → Dt → (Dt → Prop) → Prop) : Prop where
  run : ∀ (F H : Hp) (xv yv : V) (x y : Dt) (Q : VK) (C : Dt → Prop), Same F H → Da K F H xv x → Da K F H yv y → f x y C → (∀ d v F' H', C d → Ext K F H F' H' v d → Q v H') → r [xv, yv] H Q
  mono : ∀ x y (C C' : Dt → Prop), (∀ d, C d → C' d) → f x y C → f x y C'
/-- a new list -/
structure FnL (K : PySem.W.Frag) (r : List V → Hp → VK → Prop) (f : Dt → (List Dt → Prop) → Prop) : Prop where
  run : ∀ (F H : Hp) (xv : V) (x : Dt) (Q : VK) (C : List Dt → Prop), Same F H → Da K F H xv x → f x C → (∀ l a vs, C l → H a = none → DrL K F vs l → Q (.ref a) (upd H a (.lst vs))) → r [xv] H Q
  mono : ∀ x (C C' : List Dt → Prop), (∀ d, C d → C' d) → f x C → f x C'
structure OpL (K : PySem.W.Frag) (r : R2) (f : Dt → Dt → (List Dt → Prop) → Prop) : Prop where
  run : ∀ (F H : Hp) (xv yv : V) (x y : Dt) (Q : VK) (C : List Dt → Prop), Same F H → Da K F H xv x → Da K F H yv y → f x y C → (∀ l a vs, C l → H a = none → DrL K F vs l → Q (.ref a) (upd H a (.lst vs))) → r xv yv H Q
  mono : ∀ x y (C C' : List Dt → Prop), (∀ d, C d → C' d) → f x y C → f x y C'

/-! ### the forms over data -/
section
variable {Ω : Type}
def wVar (i : Nat) : DE Ω := fun sl w C => match sl[i]? with
  | some (some (.dat d)) => C d .cl w
  | some (some (.mine (.lst l))) => C (.lst l) (.br i) w
  | _ => False
def wC (d : Dt) : DE Ω := fun _ w C => C d .cl w
def wL (p : DL Ω) : DE Ω := fun sl w C => p sl w fun l w' => C (.lst l) .cl w'
def wOp (f : Dt → Dt → (Dt → Prop) → Prop) (pa pb : DE Ω) : DE Ω := fun sl w C => pa sl w fun x _ w1 => pb sl w1 fun y _ w2 => f x y fun d => C d .cl w2
def wOpL (f : Dt → Dt → (List Dt → Prop) → Prop) (pa pb : DE Ω) : DL Ω := fun sl w C => pa sl w fun x _ w1 => pb sl w1 fun y _ w2 => f x y fun d => C d w2
def wF (f : Dt → (Dt → Prop) → Prop) (pa : DE Ω) : DE Ω := fun sl w C => pa sl w fun x _ w1 => f x fun d => C d .cl w1
def wFL (f : Dt → (List Dt → Prop) → Prop) (pa : DE Ω) : DL Ω := fun sl w C => pa sl w fun x _ w1 => f x fun d => C d w1
def wNil : DL Ω := fun _ w C => C [] w
def wCons (pa : DE Ω) (pr : DL Ω) : DL Ω := fun sl w C => pa sl w fun d fl w1 => fl = .cl ∧ pr sl w1 fun ds w2 => C (d :: ds) w2
def wTup (p : DL Ω) : DE Ω := fun sl w C => p sl w fun ds w' => ds.length ≤ sizeLine ∧ C (.tup ds) .cl w'
def wLst (p : DL Ω) : DL Ω := fun sl w C => p sl w fun ds w' => ds.length ≤ sizeLine ∧ C ds w'
def wTV (p : DE Ω) : DT Ω := fun sl w C => p sl w fun d _ w' => ∃ b, d = .bl b ∧ C b w'
def wTAnd (pa pb : DT Ω) : DT Ω := fun sl w C => pa sl w fun b w1 => if b = true then pb sl w1 C else C false w1
def wTOr (pa pb : DT Ω) : DT Ω := fun sl w C => pa sl w fun b w1 => if b = true then C true w1 else pb sl w1 C
def wTNot (pa : DT Ω) : DT Ω := fun sl w C => pa sl w fun b w1 => C (!b) w1
def wAnd (pa pb : DE Ω) : DE Ω := fun sl w C => pa sl w fun d _ w1 => ∃ c, d = .bl c ∧ if c = true then pb sl w1 C else C (.bl false) .cl w1
def wOr (pa pb : DE Ω) : DE Ω := fun sl w C => pa sl w fun d _ w1 => ∃ c, d = .bl c ∧ if c = true then C (.bl true) .cl w1 else pb sl w1 C
def wNot (pa : DE Ω) : DE Ω := fun sl w C => pa sl w fun d _ w1 => ∃ c, d = .bl c ∧ C (.bl (!c)) .cl w1
def wIfx (pt : DT Ω) (pa pb : DE Ω) : DE Ω := fun sl w C => pt sl w fun b w1 => if b = true then pa sl w1 C else pb sl w1 C
def isNon : Dt → Option Bool
  | .non => some true
  | .opq _ => none
  | _ => some false
def wIsN (pa : DE Ω) : DE Ω := fun sl w C => pa sl w fun d _ w1 => ∃ b, isNon d = some b ∧ C (.bl b) .cl w1
def wNotN (pa : DE Ω) : DE Ω := fun sl w C => pa sl w fun d _ w1 => ∃ b, isNon d = some b ∧ C (.bl (!b)) .cl w1
def wChain (f g : Int → Int → Bool) (pa pb pc : DE Ω) : DE Ω := fun sl w C => pa sl w fun x _ w1 => pb sl w1 fun y _ w2 => ∃ i j, x = .int i ∧ y = .int j ∧
  if f i j = true then pc sl w2 fun z _ w3 => ∃ k, z = .int k ∧ C (.bl (g j k)) .cl w3 else C (.bl false) .cl w2
def wO0 : DO Ω := fun _ w C => C none w
def wO1 (p : DE Ω) : DO Ω := fun sl w C => p sl w fun d _ w1 => ∃ i, d = .int i ∧ C (some i) w1
def wSl (f : Dt → Option Int → Option Int → (Dt → Prop) → Prop) (pa : DE Ω) (pl ph : DO Ω) : DE Ω := fun sl w C => pa sl w fun x _ w1 => pl sl w1 fun l w2 => ph sl w2 fun h w3 => f x l h fun d => C d .cl w3
end

section
variable {Ω : Type} {X : Cx} {W : Wd Ω} {e a b c : Expr} {es : List Expr} {p pa pb pc : DE Ω} {q pr pl : DL Ω} {t u : DT Ω} {pos : Pos} {f : Dt → Dt → (Dt → Prop) → Prop}
theorem d_var {x : Str} (i : Nat) (hN : X.N[i]? = some x := by rfl) (hv : Vis X.env.scope x := by first | exact Or.inl rfl | exact Or.inr (Or.inl rfl) | exact Or.inr (Or.inr rfl)) (hd : (x == ("__debug__" : Str)) = false := by decide)
    (hcd : (x == ("__classdict__" : Str)) = false := by decide) : PD X W (.Name x pos) (wVar i) := by
  refine ⟨pe_imp (pe_var hN hv hd hcd) fun σ H Q h => ?_, fun sl w C C' hC h => ?_⟩
  · obtain ⟨B, F, G, w, sl, r, h⟩ := h
    unfold wVar at h
    split at h
    · rename_i d hi
      obtain ⟨v, h1, h2⟩ := r.s i _ hi
      exact ⟨v, h1, h v F G H r (Same.refl F) h2⟩
    · rename_i l hi
      obtain ⟨v, h1, h2⟩ := r.s i _ hi
      exact ⟨v, h1, h v F G H r (Same.refl F) ⟨h1, l, hi, rfl⟩⟩
    · exact h.elim
  · unfold wVar at h ⊢
    split at h
    · exact hC _ _ _ h
    · exact hC _ _ _ h
    · exact h.elim
theorem d_C {v : V} {d : Dt} (h : PE X e (tC v)) (hd : ∀ F, Dr X.K F v d) : PD X W e (wC d) :=
  ⟨pe_imp h fun σ H Q ⟨B, F, G, w, sl, r, h⟩ => h v F G H r (Same.refl F) (hd F), fun sl w C C' hC h => hC _ _ _ h⟩
theorem d_int {i : Int} {j : Nat} : PD X W (.Constant (.int i) j pos) (wC (.int i)) := d_C pe_int fun _ => .int i
theorem d_bl {i : Bool} {j : Nat} : PD X W (.Constant (.bool i) j pos) (wC (.bl i)) := d_C pe_bl fun _ => .bl i
theorem d_non {j : Nat} : PD X W (.Constant .none j pos) (wC .non) := d_C pe_non fun _ => .non
/-- a constant of the module -/
theorem d_glob {x : Str} {v : V} {d : Dt} {u : Value} (hg : Gl X x) (hm : X.mg x = some u) (r : RelV v u) (hd : ∀ F, Dr X.K F v d) (hdb : (x == ("__debug__" : Str)) = false := by decide) : PD X W (.Name x pos) (wC d) := d_C (pe_glob hg hm r hdb) hd
/-- a new list, kept as it is from here on -/
theorem d_L (h : PDL X W e q) : PD X W e (wL q) := by
  refine ⟨pe_imp h.run fun σ H Q ⟨B, F, G, w, sl, r, k⟩ => ⟨B, F, G, w, sl, r, h.mono _ _ _ _ (fun l w' z a vs F' G' H' r' e' hB hn hH hF hG hD => ?_) k⟩, fun sl w C C' hC z => h.mono _ _ _ _ (fun l w' => hC _ _ _) z⟩
  have e2 : Same F' (upd F' a (.lst vs)) := sameUpd hF
  refine z (.ref a) (upd F' a (.lst vs)) G' H' (r'.to (r'.hr.frz hB hF hG hH) e2 fun i l' c us s1 s2 s3 s4 s5 s6 _ => ?_) (e'.trans e2) (.lst upd_same (hD.mono e2))
  have hne : c ≠ a := fun z => by
    subst z
    exact hn i l' s1 s2
  exact ⟨s3, by rw [upd_ne hne]; exact s5, s6⟩
theorem use_op {r : R2} {B F F1 G H H1 : Hp} {w : Ω} {σ : L2.St} {sl : Sl} (hf : OpD X.K r f) {x y : Dt} {fx fy : Fl} {vx vy : V} {C : Dt → Fl → Ω → Prop} {Q : VK} (r1 : SR X.K W B F G H w σ sl) (kx : FlOk X.K F σ sl vx x fx) (ky : FlOk X.K F σ sl vy y fy)
    (h : f x y fun d => C d .cl w) (hC : ∀ d v F' H', C d .cl w → SR X.K W B F' G H' w σ sl → Same F F' → Dr X.K F' v d → Q v H') : r vx vy H Q :=
  hf.run F H vx vy x y Q _ r1.hr.f (kx.da r1) (ky.da r1) h fun d v F' H' c x =>
    let ⟨s, e, k⟩ := x.use r1
    hC d v F' H' c s e k
theorem imp_op {r : R2} (hf : OpD X.K r f) (ha : PD X W a pa) (hb : PD X W b pb) : ∀ σ H Q, lft X.K W (wOp f pa pb) σ H Q → tOp r (lft X.K W pa) (lft X.K W pb) σ H Q := by
  intro σ H Q ⟨B, F, G, w, sl, r1, k⟩
  refine ⟨B, F, G, w, sl, r1, ha.mono _ _ _ _ (fun x fl w1 k1 v F1 G1 H1 r2 e1 f1 => ?_) k⟩
  refine ⟨B, F1, G1, w1, sl, r2, hb.mono _ _ _ _ (fun y fl2 w2 k2 u F2 G2 H2 r3 e2 f2 => ?_) k1⟩
  exact use_op (F1 := F1) (H1 := H1) (C := fun d fl w' => ∀ v F' G' H', SR X.K W B F' G' H' w' σ sl → Same F F' → FlOk X.K F' σ sl v d fl → Q v H') hf r3 (f1.mono e2) f2 k2 fun d z F' H' c s e3 k3 => c z F' G2 H' s ((e1.trans e2).trans e3) k3
theorem mono_op {r : R2} {K : PySem.W.Frag} (hf : OpD K r f) (ha : PD X W a pa) (hb : PD X W b pb) : ∀ sl w (C C' : Dt → Fl → Ω → Prop), (∀ d fl w', C d fl w' → C' d fl w') → wOp f pa pb sl w C → wOp f pa pb sl w C' := fun sl w C C' hC z =>
  ha.mono _ _ _ _ (fun x fl w1 z1 => hb.mono _ _ _ _ (fun y fl2 w2 z2 => hf.mono _ _ _ _ (fun d => hC _ _ _) z2) z1) z
theorem d_op {op : Operator} {r : R2} (ho : OpR X (binaryOp op) r) (hf : OpD X.K r f) (ha : PD X W a pa) (hb : PD X W b pb) : PD X W (.BinOp a op b pos) (wOp f pa pb) := ⟨pe_imp (pe_op ho ha.run hb.run) (imp_op hf ha hb), mono_op hf ha hb⟩
theorem d_cmp {op : CmpOp} {r : R2} (ho : OpR X (compareOp op) r) (hf : OpD X.K r f) (ha : PD X W a pa) (hb : PD X W b pb) (hm : behindInMarks op b = false) : PD X W (.Compare a [op] [b] pos) (wOp f pa pb) := ⟨pe_imp (pe_cmpR ho ha.run hb.run hm) (imp_op hf ha hb), mono_op hf ha hb⟩
theorem d_ix {r : R2} (ho : IxR X r) (hf : OpD X.K r f) (ha : PD X W a pa) (hb : PD X W b pb) (hs : PlainIx b) : PD X W (.Subscript a b pos) (wOp f pa pb) := ⟨pe_imp (pe_ix ho ha.run hb.run hs) (imp_op hf ha hb), mono_op hf ha hb⟩
theorem dl_op {op : Operator} {r : R2} {f : Dt → Dt → (List Dt → Prop) → Prop} (ho : OpR X (binaryOp op) r) (hf : OpL X.K r f) (ha : PD X W a pa) (hb : PD X W b pb) : PDL X W (.BinOp a op b pos) (wOpL f pa pb) := by
  refine ⟨pe_imp (pe_op ho ha.run hb.run) fun σ H Q ⟨B, F, G, w, sl, r1, k⟩ => ?_, fun sl w C C' hC z => ha.mono _ _ _ _ (fun x fl w1 z1 => hb.mono _ _ _ _ (fun y fl2 w2 z2 => hf.mono _ _ _ _ (fun d => hC _ _) z2) z1) z⟩
  refine ⟨B, F, G, w, sl, r1, ha.mono _ _ _ _ (fun x fl w1 k1 v F1 G1 H1 r2 e1 f1 => ?_) k⟩
  refine ⟨B, F1, G1, w1, sl, r2, hb.mono _ _ _ _ (fun y fl2 w2 k2 u F2 G2 H2 r3 e2 f2 => ?_) k1⟩
  refine hf.run F2 H2 v u x y Q _ r3.hr.f ((f1.mono e2).da r3) (f2.da r3) k2 fun l p vs c hp hD => ?_
  exact c p vs F2 G2 _ (r3.newOwn hp) (e1.trans e2) (r3.fresh hp).1 (r3.fresh hp).2 upd_same (r3.hr.f.free hp) (r3.hr.g.free hp) hD

/-! ### argument lists, displays -/
theorem da_nil : PDA X W [] wNil := ⟨pa_imp pa_nil fun σ H Q ⟨B, F, G, w, sl, r, k⟩ => k [] F G H r (Same.refl F) .nil, fun sl w C C' hC z => hC _ _ z⟩
theorem da_cons (ha : PD X W e pa) (hr : PDA X W es pr) (hs : starEach (e :: es) X.env = (false, eval e X.env) :: starEach es X.env := by rfl) : PDA X W (e :: es) (wCons pa pr) := by
  refine ⟨pa_imp (pa_cons ha.run hr.run hs) fun σ H Q ⟨B, F, G, w, sl, r, k⟩ => ?_, fun sl w C C' hC z => ha.mono _ _ _ _ (fun d fl w1 ⟨z0, z1⟩ => ⟨z0, hr.mono _ _ _ _ (fun ds w2 => hC _ _) z1⟩) z⟩
  refine ⟨B, F, G, w, sl, r, ha.mono _ _ _ _ (fun d fl w1 ⟨k0, k1⟩ v F1 G1 H1 r1 e1 f1 => ?_) k⟩
  subst k0
  refine ⟨B, F1, G1, w1, sl, r1, hr.mono _ _ _ _ (fun ds w2 k2 vs F2 G2 H2 r2 e2 f2 => ?_) k1⟩
  exact k2 (v :: vs) F2 G2 H2 r2 (e1.trans e2) (.cons (Dr.mono e2 f1) f2)
theorem d_tup {k : Nat} (h : PDA X W es q) : PD X W (.Tuple es k pos) (wTup q) := by
  refine ⟨pe_imp (pe_tup h.run) fun σ H Q ⟨B, F, G, w, sl, r, k⟩ => ?_, fun sl w C C' hC z => h.mono _ _ _ _ (fun ds w1 ⟨z0, z1⟩ => ⟨z0, hC _ _ _ z1⟩) z⟩
  refine ⟨B, F, G, w, sl, r, h.mono _ _ _ _ (fun ds w1 ⟨k0, k1⟩ vs F1 G1 H1 r1 e1 f1 => ⟨by rw [f1.len]; exact k0, fun p hp => ?_⟩) k⟩
  have e2 : Same F1 (upd F1 p (.tup vs)) := sameUpd (r1.hr.f.free hp)
  exact k1 (.ref p) _ G1 _ (r1.new hp) (e1.trans e2) (.tup upd_same (f1.mono e2))
theorem dl_lst (h : PDA X W es q) : PDL X W (.List es pos) (wLst q) := by
  refine ⟨pe_imp (pe_lst h.run) fun σ H Q ⟨B, F, G, w, sl, r, k⟩ => ?_, fun sl w C C' hC z => h.mono _ _ _ _ (fun ds w1 ⟨z0, z1⟩ => ⟨z0, hC _ _ z1⟩) z⟩
  refine ⟨B, F, G, w, sl, r, h.mono _ _ _ _ (fun ds w1 ⟨k0, k1⟩ vs F1 G1 H1 r1 e1 f1 => ⟨by rw [f1.len]; exact k0, fun p hp => ?_⟩) k⟩
  exact k1 p vs F1 G1 _ (r1.newOwn hp) e1 (r1.fresh hp).1 (r1.fresh hp).2 upd_same (r1.hr.f.free hp) (r1.hr.g.free hp) f1

/-! ### built-ins called with one or two arguments -/
theorem imp_f {r : List V → Hp → VK → Prop} {f : Dt → (Dt → Prop) → Prop} (hf : FnD X.K r f) (ha : PD X W a pa) : ∀ σ H Q, lft X.K W (wF f pa) σ H Q → tCB r (tCons (lft X.K W pa) tNil) σ H Q := by
  intro σ H Q ⟨B, F, G, w, sl, r1, k⟩
  refine ⟨B, F, G, w, sl, r1, ha.mono _ _ _ _ (fun x fl w1 k1 v F1 G1 H1 r2 e1 f1 => ?_) k⟩
  refine hf.run F1 H1 v x Q _ r2.hr.f (f1.da r2) k1 fun d z F' H' c x => ?_
  obtain ⟨s, e, k⟩ := x.use r2
  exact c z F' G1 H' s (e1.trans e) k
theorem d_b1 {id : String} {r : List V → Hp → VK → Prop} {f : Dt → (Dt → Prop) → Prop} {x : Str} {p : Pos} (hc : CallR X (.builtin id) r) (hf : FnD X.K r f) (hg : Gl X x) (hm : X.mg x = none) (hv : bootBuiltins x = some (.builtin id)) (ha : PD X W a pa)
    (hs : starEach (a :: []) X.env = (false, eval a X.env) :: starEach [] X.env := by rfl) (hn : x ≠ "__name__" := by decide) (hdb : (x == ("__debug__" : Str)) = false := by decide) : PD X W (.Call (.Name x p) [a] [] pos) (wF f pa) :=
  ⟨pe_imp (pe_callB hc hg hm hv (pa_cons ha.run pa_nil hs) hn hdb hs rfl) (imp_f hf ha), fun sl w C C' hC z => ha.mono _ _ _ _ (fun x fl w1 z1 => hf.mono _ _ _ (fun d => hC _ _ _) z1) z⟩
theorem d_t1 {id : String} {r : List V → Hp → VK → Prop} {f : Dt → (Dt → Prop) → Prop} {x : Str} {p : Pos} (hc : CallR X (.type id) r) (hf : FnD X.K r f) (hg : Gl X x) (hm : X.mg x = none) (hv : bootBuiltins x = some (.type id)) (ha : PD X W a pa)
    (hs : starEach (a :: []) X.env = (false, eval a X.env) :: starEach [] X.env := by rfl) (hn : x ≠ "__name__" := by decide) (hdb : (x == ("__debug__" : Str)) = false := by decide) : PD X W (.Call (.Name x p) [a] [] pos) (wF f pa) :=
  ⟨pe_imp (pe_callTy hc hg hm hv (pa_cons ha.run pa_nil hs) hn hdb hs rfl) (imp_f hf ha), fun sl w C C' hC z => ha.mono _ _ _ _ (fun x fl w1 z1 => hf.mono _ _ _ (fun d => hC _ _ _) z1) z⟩
theorem imp_fl {r : List V → Hp → VK → Prop} {f : Dt → (List Dt → Prop) → Prop} (hf : FnL X.K r f) (ha : PD X W a pa) : ∀ σ H Q, lftL X.K W (wFL f pa) σ H Q → tCB r (tCons (lft X.K W pa) tNil) σ H Q := by
  intro σ H Q ⟨B, F, G, w, sl, r1, k⟩
  refine ⟨B, F, G, w, sl, r1, ha.mono _ _ _ _ (fun x fl w1 k1 v F1 G1 H1 r2 e1 f1 => ?_) k⟩
  refine hf.run F1 H1 v x Q _ r2.hr.f (f1.da r2) k1 fun l p vs c hp hD => ?_
  exact c p vs F1 G1 _ (r2.newOwn hp) e1 (r2.fresh hp).1 (r2.fresh hp).2 upd_same (r2.hr.f.free hp) (r2.hr.g.free hp) hD
theorem dl_b1 {id : String} {r : List V → Hp → VK → Prop} {f : Dt → (List Dt → Prop) → Prop} {x : Str} {p : Pos} (hc : CallR X (.builtin id) r) (hf : FnL X.K r f) (hg : Gl X x) (hm : X.mg x = none) (hv : bootBuiltins x = some (.builtin id)) (ha : PD X W a pa)
    (hs : starEach (a :: []) X.env = (false, eval a X.env) :: starEach [] X.env := by rfl) (hn : x ≠ "__name__" := by decide) (hdb : (x == ("__debug__" : Str)) = false := by decide) : PDL X W (.Call (.Name x p) [a] [] pos) (wFL f pa) :=
  ⟨pe_imp (pe_callB hc hg hm hv (pa_cons ha.run pa_nil hs) hn hdb hs rfl) (imp_fl hf ha), fun sl w C C' hC z => ha.mono _ _ _ _ (fun x fl w1 z1 => hf.mono _ _ _ (fun d => hC _ _) z1) z⟩
theorem d_b2 {id : String} {r : List V → Hp → VK → Prop} {x : Str} {p : Pos} (hc : CallR X (.builtin id) r) (hf : FnD2 X.K r f) (hg : Gl X x) (hm : X.mg x = none) (hv : bootBuiltins x = some (.builtin id)) (ha : PD X W a pa) (hb : PD X W b pb)
    (hs : starEach (a :: [b]) X.env = (false, eval a X.env) :: starEach [b] X.env := by rfl) (hs2 : starEach (b :: []) X.env = (false, eval b X.env) :: starEach [] X.env := by rfl) (hpl : (backTo pos (starEach [b] X.env)).any (·.1) = false := by rfl)
    (hn : x ≠ "__name__" := by decide) (hdb : (x == ("__debug__" : Str)) = false := by decide) : PD X W (.Call (.Name x p) [a, b] [] pos) (wOp f pa pb) := by
  refine ⟨pe_imp (pe_callB hc hg hm hv (pa_cons ha.run (pa_cons hb.run pa_nil hs2) hs) hn hdb hs hpl) fun σ H Q ⟨B, F, G, w, sl, r1, k⟩ => ?_, fun sl w C C' hC z => ha.mono _ _ _ _ (fun x fl w1 z1 => hb.mono _ _ _ _ (fun y fl2 w2 z2 => hf.mono _ _ _ _ (fun d => hC _ _ _) z2) z1) z⟩
  refine ⟨B, F, G, w, sl, r1, ha.mono _ _ _ _ (fun x fl w1 k1 v F1 G1 H1 r2 e1 f1 => ?_) k⟩
  refine ⟨B, F1, G1, w1, sl, r2, hb.mono _ _ _ _ (fun y fl2 w2 k2 u F2 G2 H2 r3 e2 f2 => ?_) k1⟩
  refine hf.run F2 H2 v u x y Q _ r3.hr.f ((f1.mono e2).da r3) (f2.da r3) k2 fun d z F' H' c x => ?_
  obtain ⟨s, e, k⟩ := x.use r3
  exact c z F' G2 H' s ((e1.trans e2).trans e) k

/-! ### tests -/
theorem dt_val (h : PD X W e p) (he : ∀ whole, isTrue e X.env whole = (do let v ← whole; standAt e.pos; holding [v] (truthy v)) := by intro _; rfl) : PDT X W e (wTV p) := by
  refine ⟨pt_imp (pt_val h.run he) fun σ H Q ⟨B, F, G, w, sl, r, k⟩ => ?_, fun sl w C C' hC z => h.mono _ _ _ _ (fun d fl w1 ⟨b, z0, z1⟩ => ⟨b, z0, hC _ _ z1⟩) z⟩
  refine ⟨B, F, G, w, sl, r, h.mono _ _ _ _ (fun d fl w1 ⟨b, k0, k1⟩ v F1 G1 H1 r1 e1 f1 => ?_) k⟩
  subst k0
  exact ⟨b, (f1.da r1).bl, k1 F1 G1 H1 r1 e1⟩
theorem PDW.pt (h : PDW X W e t) : PDT X W e t := ⟨h.run.pt, h.mono⟩
theorem imp_and (ha : PDT X W a t) {b : Expr} (hb : ∀ sl w (C C' : Bool → Ω → Prop), (∀ d w', C d w' → C' d w') → u sl w C → u sl w C') : ∀ σ H Q, lftT X.K W (wTAnd t u) σ H Q → tAnd (lftT X.K W t) (lftT X.K W u) σ H Q := by
  intro σ H Q ⟨B, F, G, w, sl, r, k⟩
  refine ⟨B, F, G, w, sl, r, ha.mono _ _ _ _ (fun c w1 k1 F1 G1 H1 r1 e1 => ?_) k⟩
  cases c with
  | true => exact ⟨B, F1, G1, w1, sl, r1, hb _ _ _ _ (fun c w2 k2 F2 G2 H2 r2 e2 => k2 F2 G2 H2 r2 (e1.trans e2)) k1⟩
  | false => exact k1 F1 G1 H1 r1 e1
theorem imp_or (ha : PDT X W a t) {b : Expr} (hb : ∀ sl w (C C' : Bool → Ω → Prop), (∀ d w', C d w' → C' d w') → u sl w C → u sl w C') : ∀ σ H Q, lftT X.K W (wTOr t u) σ H Q → tOr (lftT X.K W t) (lftT X.K W u) σ H Q := by
  intro σ H Q ⟨B, F, G, w, sl, r, k⟩
  refine ⟨B, F, G, w, sl, r, ha.mono _ _ _ _ (fun c w1 k1 F1 G1 H1 r1 e1 => ?_) k⟩
  cases c with
  | false => exact ⟨B, F1, G1, w1, sl, r1, hb _ _ _ _ (fun c w2 k2 F2 G2 H2 r2 e2 => k2 F2 G2 H2 r2 (e1.trans e2)) k1⟩
  | true => exact k1 F1 G1 H1 r1 e1
theorem mono_tand (ha : PDT X W a t) (hb : ∀ sl w (C C' : Bool → Ω → Prop), (∀ d w', C d w' → C' d w') → u sl w C → u sl w C') : ∀ sl w (C C' : Bool → Ω → Prop), (∀ d w', C d w' → C' d w') → wTAnd t u sl w C → wTAnd t u sl w C' := fun sl w C C' hC z =>
  ha.mono _ _ _ _ (fun c w1 z1 => by
    cases c with
    | true => exact hb _ _ _ _ hC z1
    | false => exact hC _ _ z1) z
theorem mono_tor (ha : PDT X W a t) (hb : ∀ sl w (C C' : Bool → Ω → Prop), (∀ d w', C d w' → C' d w') → u sl w C → u sl w C') : ∀ sl w (C C' : Bool → Ω → Prop), (∀ d w', C d w' → C' d w') → wTOr t u sl w C → wTOr t u sl w C' := fun sl w C C' hC z =>
  ha.mono _ _ _ _ (fun c w1 z1 => by
    cases c with
    | false => exact hb _ _ _ _ hC z1
    | true => exact hC _ _ z1) z
theorem dt_and {rest : List Expr} (ha : PDT X W a t) (hb : PDW X W (.BoolOp .And (b :: rest) pos) u) : PDW X W (.BoolOp .And (a :: b :: rest) pos) (wTAnd t u) := ⟨pw_imp (pw_and ha.run hb.run) (imp_and (b := b) ha hb.mono), mono_tand ha hb.mono⟩
theorem dt_and1 (ha : PDT X W a t) : PDW X W (.BoolOp .And [a] pos) t := ⟨pw_and1 ha.run, ha.mono⟩
theorem dt_or {rest : List Expr} (ha : PDT X W a t) (hb : PDW X W (.BoolOp .Or (b :: rest) pos) u) : PDW X W (.BoolOp .Or (a :: b :: rest) pos) (wTOr t u) := ⟨pw_imp (pw_or ha.run hb.run) (imp_or (b := b) ha hb.mono), mono_tor ha hb.mono⟩
theorem dt_or1 (ha : PDT X W a t) : PDW X W (.BoolOp .Or [a] pos) t := ⟨pw_or1 ha.run, ha.mono⟩
/-! ### and, or, not as values; a if t else b; is None -/
theorem d_ifx (hc : PDT X W c t) (ha : PD X W a pa) (hb : PD X W b pb) : PD X W (.IfExp c a b pos) (wIfx t pa pb) := by
  refine ⟨pe_imp (pe_ifExp hc.run ha.run hb.run) fun σ H Q ⟨B, F, G, w, sl, r, k⟩ => ?_, fun sl w C C' hC z => hc.mono _ _ _ _ (fun c w1 z1 => ?_) z⟩
  · refine ⟨B, F, G, w, sl, r, hc.mono _ _ _ _ (fun c w1 k1 F1 G1 H1 r1 e1 => ?_) k⟩
    cases c with
    | true => exact ⟨B, F1, G1, w1, sl, r1, ha.mono _ _ _ _ (fun d fl w2 k2 v F2 G2 H2 r2 e2 f2 => k2 v F2 G2 H2 r2 (e1.trans e2) f2) k1⟩
    | false => exact ⟨B, F1, G1, w1, sl, r1, hb.mono _ _ _ _ (fun d fl w2 k2 v F2 G2 H2 r2 e2 f2 => k2 v F2 G2 H2 r2 (e1.trans e2) f2) k1⟩
  · cases c with
    | true => exact ha.mono _ _ _ _ hC z1
    | false => exact hb.mono _ _ _ _ hC z1
theorem Da.isNon {K : PySem.W.Frag} {F H : Hp} {v : V} {d : Dt} {b : Bool} (h : Da K F H v d) (e : isNon d = some b) : decide (v = .non) = b := by
  cases d with
  | non => cases e; cases h.non; rfl
  | bl x => cases e; cases h.bl; rfl
  | int x => cases e; cases h.int; rfl
  | str x => cases e; cases h.str; rfl
  | tup l => cases e; obtain ⟨_, _, rfl, _⟩ := h.tup; rfl
  | lst l =>
    cases e
    rcases h with h | ⟨_, _, _, rfl, _⟩
    · cases h; rfl
    · rfl
  | emp => cases e; obtain ⟨_, rfl, _⟩ := h.emp; rfl
  | dic ks l => cases e; obtain ⟨_, _, _, rfl, _⟩ := h.dicR; rfl
  | ins c ns l => cases e; obtain ⟨_, _, _, rfl, _⟩ := h.insR; rfl
  | opq u => cases e
  | tpx l =>
    cases e
    rcases h with h | ⟨_, _, _, rfl, _⟩
    · cases h; rfl
    · rfl
theorem imp_isN (ha : PD X W a pa) : ∀ σ H Q, lft X.K W (wIsN pa) σ H Q → tIsN (lft X.K W pa) σ H Q := by
  intro σ H Q ⟨B, F, G, w, sl, r, k⟩
  refine ⟨B, F, G, w, sl, r, ha.mono _ _ _ _ (fun d fl w1 ⟨c, k0, k1⟩ v F1 G1 H1 r1 e1 f1 => ?_) k⟩
  show Q (.bl (decide (v = .non))) H1
  rw [(f1.da r1).isNon k0]
  exact k1 _ F1 G1 H1 r1 e1 (.bl _)
theorem imp_notN (ha : PD X W a pa) : ∀ σ H Q, lft X.K W (wNotN pa) σ H Q → tNotN (lft X.K W pa) σ H Q := by
  intro σ H Q ⟨B, F, G, w, sl, r, k⟩
  refine ⟨B, F, G, w, sl, r, ha.mono _ _ _ _ (fun d fl w1 ⟨c, k0, k1⟩ v F1 G1 H1 r1 e1 f1 => ?_) k⟩
  show Q (.bl (!decide (v = .non))) H1
  rw [(f1.da r1).isNon k0]
  exact k1 _ F1 G1 H1 r1 e1 (.bl _)
theorem mono_isN (ha : PD X W a pa) : ∀ sl w (C C' : Dt → Fl → Ω → Prop), (∀ d fl w', C d fl w' → C' d fl w') → wIsN pa sl w C → wIsN pa sl w C' := fun sl w C C' hC z => ha.mono _ _ _ _ (fun d fl w1 ⟨c, z0, z1⟩ => ⟨c, z0, hC _ _ _ z1⟩) z
theorem mono_notN (ha : PD X W a pa) : ∀ sl w (C C' : Dt → Fl → Ω → Prop), (∀ d fl w', C d fl w' → C' d fl w') → wNotN pa sl w C → wNotN pa sl w C' := fun sl w C C' hC z => ha.mono _ _ _ _ (fun d fl w1 ⟨c, z0, z1⟩ => ⟨c, z0, hC _ _ _ z1⟩) z
/-! ### comparisons as tests -/
theorem lft_TV {p : DE Ω} (hp : ∀ sl w (C C' : Dt → Fl → Ω → Prop), (∀ d fl w', C d fl w' → C' d fl w') → p sl w C → p sl w C') : ∀ σ H (Q : Bool → Hp → Prop), lftT X.K W (wTV p) σ H Q → lft X.K W p σ H fun x H1 => ∃ c, x = .bl c ∧ Q c H1 := by
  intro σ H Q ⟨B, F, G, w, sl, r, k⟩
  refine ⟨B, F, G, w, sl, r, hp _ _ _ _ (fun d fl w1 ⟨b, k0, k1⟩ v F1 G1 H1 r1 e1 f1 => ?_) k⟩
  subst k0
  exact ⟨b, (f1.da r1).bl, k1 F1 G1 H1 r1 e1⟩
theorem mono_TV {p : DE Ω} (hp : ∀ sl w (C C' : Dt → Fl → Ω → Prop), (∀ d fl w', C d fl w' → C' d fl w') → p sl w C → p sl w C') : ∀ sl w (C C' : Bool → Ω → Prop), (∀ d w', C d w' → C' d w') → wTV p sl w C → wTV p sl w C' := fun sl w C C' hC z => hp _ _ _ _ (fun d fl w1 ⟨b, z0, z1⟩ => ⟨b, z0, hC _ _ z1⟩) z
theorem dt_cmp {op : CmpOp} {r : R2} (ho : OpR X (compareOp op) r) (hf : OpD X.K r f) (ha : PD X W a pa) (hb : PD X W b pb) (hm : behindInMarks op b = false) : PDT X W (.Compare a [op] [b] pos) (wTV (wOp f pa pb)) := ⟨pt_imp (pt_cmpR ho ha.run hb.run hm) fun σ H Q z => imp_op hf ha hb _ _ _ (lft_TV (mono_op hf ha hb) σ H Q z), mono_TV (mono_op hf ha hb)⟩
theorem dt_isN {j : Nat} {pos' : Pos} (ha : PD X W a pa) : PDT X W (.Compare a [.Is] [.Constant .none j pos'] pos) (wTV (wIsN pa)) := ⟨pt_imp (pt_cmp (pc_isN ha.run) rfl) fun σ H Q z => imp_isN ha _ _ _ (lft_TV (mono_isN ha) σ H Q z), mono_TV (mono_isN ha)⟩
theorem dt_notN {j : Nat} {pos' : Pos} (ha : PD X W a pa) : PDT X W (.Compare a [.IsNot] [.Constant .none j pos'] pos) (wTV (wNotN pa)) := ⟨pt_imp (pt_cmp (pc_notN ha.run) rfl) fun σ H Q z => imp_notN ha _ _ _ (lft_TV (mono_notN ha) σ H Q z), mono_TV (mono_notN ha)⟩
/-! ### slices -/
theorem do_none : PDO X W none wO0 := ⟨⟨fun pins s σ H Q I h => po_none.run pins s σ H Q I (by
  obtain ⟨B, F, G, w, sl, r, k⟩ := h
  exact k F G H r (Same.refl F))⟩, fun sl w C C' hC z => hC _ _ z⟩
theorem do_some (h : PD X W e p) : PDO X W (some e) (wO1 p) := by
  refine ⟨⟨fun pins s σ H Q I k => (po_some h.run).run pins s σ H Q I ?_⟩, fun sl w C C' hC z => h.mono _ _ _ _ (fun d fl w1 ⟨i, z0, z1⟩ => ⟨i, z0, hC _ _ z1⟩) z⟩
  obtain ⟨B, F, G, w, sl, r, k⟩ := k
  refine ⟨B, F, G, w, sl, r, h.mono _ _ _ _ (fun d fl w1 ⟨i, k0, k1⟩ v F1 G1 H1 r1 e1 f1 => ?_) k⟩
  subst k0
  exact ⟨i, (f1.da r1).int, k1 F1 G1 H1 r1 e1⟩
structure SlD (K : PySem.W.Frag) (r : V → Option Int → Option Int → Hp → VK → Prop) (f : Dt → Option Int → Option Int → (Dt → Prop) → Prop) : Prop where
  run : ∀ (F H : Hp) (xv : V) (x : Dt) (l h : Option Int) (Q : VK) (C : Dt → Prop), Same F H → Da K F H xv x → f x l h C → (∀ d v F' H', C d → Ext K F H F' H' v d → Q v H') → r xv l h H Q
  mono : ∀ x l h (C C' : Dt → Prop), (∀ d, C d → C' d) → f x l h C → f x l h C'
theorem d_sl {r : V → Option Int → Option Int → Hp → VK → Prop} {f : Dt → Option Int → Option Int → (Dt → Prop) → Prop} {lo hi : Option Expr} {p2 : Pos} {pl ph : DO Ω} (hr : SlR X r) (hf : SlD X.K r f) (ha : PD X W a pa) (hl : PDO X W lo pl) (hh : PDO X W hi ph) : PD X W (.Subscript a (.Slice lo hi none p2) pos) (wSl f pa pl ph) := by
  refine ⟨pe_imp (pe_slice hr ha.run hl.run hh.run) fun σ H Q ⟨B, F, G, w, sl, r, k⟩ => ?_, fun sl w C C' hC z => ha.mono _ _ _ _ (fun d fl w1 z1 => hl.mono _ _ _ _ (fun o w2 z2 => hh.mono _ _ _ _ (fun o w3 z3 => hf.mono _ _ _ _ _ (fun d => hC _ _ _) z3) z2) z1) z⟩
  refine ⟨B, F, G, w, sl, r, ha.mono _ _ _ _ (fun x fl w1 k1 v F1 G1 H1 r1 e1 f1 => ?_) k⟩
  refine ⟨B, F1, G1, w1, sl, r1, hl.mono _ _ _ _ (fun lo w2 k2 F2 G2 H2 r2 e2 => ?_) k1⟩
  refine ⟨B, F2, G2, w2, sl, r2, hh.mono _ _ _ _ (fun hi w3 k3 F3 G3 H3 r3 e3 => ?_) k2⟩
  refine hf.run F3 H3 v x lo hi Q _ r3.hr.f ((f1.mono (e2.trans e3)).da r3) k3 fun d z F' H' c x => ?_
  obtain ⟨s, e, k⟩ := x.use r3
  exact c z F' G3 H' s (((e1.trans e2).trans e3).trans e) k
end
end Ck
namespace Ck
open PySem PySem.Spec PyProof.Rows L2

/-! ### data as PyData -/
mutual
def Dt.py : Dt → Option PyData
  | .non => some .none
  | .bl b => some (.bool b)
  | .int i => some (.int i)
  | .str x => some (.str x)
  | .tup l => (pyL l).map .tuple
  | .lst l => (pyL l).map .list
  | .emp => none
  | .opq _ => none
  | .dic _ _ => none
  | .ins _ _ _ => none
  | .tpx _ => none
def pyL : List Dt → Option (List PyData)
  | [] => some []
  | d :: l => (d.py).bind fun p => (pyL l).map fun r => p :: r
end
section
variable {K : PySem.W.Frag} {H : Hp}
mutual
theorem Dr.dp : ∀ {d : Dt} {v : V} {p : PyData}, Dr K H v d → d.py = some p → Dp K H v p
  | .non, _, _, h, e => by
    simp only [Dt.py, Option.some.injEq] at e
    subst e
    cases h
    exact .non
  | .bl b, _, _, h, e => by
    simp only [Dt.py, Option.some.injEq] at e
    subst e
    cases h
    exact .bl b
  | .int b, _, _, h, e => by
    simp only [Dt.py, Option.some.injEq] at e
    subst e
    cases h
    exact .int b
  | .str b, _, _, h, e => by
    simp only [Dt.py, Option.some.injEq] at e
    subst e
    cases h
    exact .str b
  | .tup l, _, _, h, e => by
    simp only [Dt.py, Option.map_eq_some_iff] at e
    obtain ⟨ps, e1, rfl⟩ := e
    cases h with
    | tup q r => exact .tup (SqT.of q) (DrL.dp r e1)
    | tupK q r _ => exact .tup q.t (DrL.dp r e1)
  | .lst l, _, _, h, e => by
    simp only [Dt.py, Option.map_eq_some_iff] at e
    obtain ⟨ps, e1, rfl⟩ := e
    cases h with | lst q r => exact .lst (.of q) (DrL.dp r e1)
  | .emp, _, _, _, e => by simp only [Dt.py] at e; cases e
  | .dic _ _, _, _, _, e => by simp only [Dt.py] at e; cases e
  | .ins _ _ _, _, _, _, e => by simp only [Dt.py] at e; cases e
  | .opq _, _, _, _, e => by simp only [Dt.py] at e; cases e
  | .tpx _, _, _, _, e => by simp only [Dt.py] at e; cases e
theorem DrL.dp : ∀ {l : List Dt} {vs : List V} {ps : List PyData}, DrL K H vs l → pyL l = some ps → DpAll K H vs ps
  | [], _, _, h, e => by
    simp only [pyL, Option.some.injEq] at e
    subst e
    cases h
    exact .nil
  | d :: l, _, _, h, e => by
    simp only [pyL, Option.bind_eq_some_iff, Option.map_eq_some_iff] at e
    obtain ⟨p, e1, ps, e2, rfl⟩ := e
    cases h with | cons q r => exact .cons (Dr.dp q e1) (DrL.dp r e2)
end
end

/-! ### flat data -/
def fv : Dt → V
  | .non => .non
  | .bl b => .bl b
  | .int i => .int i
  | .str x => .str x
  | _ => .ref 0
def flatD : Dt → Bool
  | .non => true
  | .bl _ => true
  | .int _ => true
  | .str _ => true
  | _ => false
theorem Dr.fv {K : PySem.W.Frag} {F : Hp} {v : V} {d : Dt} (h : Dr K F v d) (f : flatD d = true) : v = fv d ∧ flatV v = true := by
  cases h <;> first | exact ⟨rfl, rfl⟩ | exact absurd f (by simp [flatD])
theorem DrL.fv {K : PySem.W.Frag} {F : Hp} : ∀ {vs : List V} {l : List Dt}, DrL K F vs l → l.all flatD = true → vs = l.map Ck.fv ∧ vs.all flatV = true
  | _, _, .nil, _ => ⟨rfl, rfl⟩
  | _, _, .cons h q, f => by
    rw [List.all_cons, Bool.and_eq_true] at f
    obtain ⟨e1, e2⟩ := h.fv f.1
    obtain ⟨e3, e4⟩ := DrL.fv q f.2
    rw [List.map_cons, List.all_cons, ← e1, ← e3, e2, e4]
    exact ⟨rfl, rfl⟩
def inD (x : Dt) (l : List Dt) : Bool := inV (fv x) (l.map fv)
theorem Dr.flat {K : PySem.W.Frag} {F : Hp} {d : Dt} (f : flatD d = true) : Dr K F (Ck.fv d) d := by
  cases d <;> first | exact .non | exact .bl _ | exact .int _ | exact .str _ | exact absurd f (by simp [flatD])

theorem opr_or {X : Cx} {f : Value → Value → Sem Value} {r r' : R2} (h : OpR X f r) (h' : OpR X f r') : OpR X f (fun x y H Q => r x y H Q ∨ r' x y H Q) := by
  intro pins s σ H x y v u Q I rx ry q
  rcases q with q | q
  · exact h pins s σ H x y v u Q I rx ry q
  · exact h' pins s σ H x y v u Q I rx ry q
theorem callr_or {X : Cx} {f : Value} {r r' : List V → Hp → VK → Prop} (h : CallR X f r) (h' : CallR X f r') : CallR X f (fun xs H Q => r xs H Q ∨ r' xs H Q) := by
  intro pins s σ H xs us Q I rx q
  rcases q with q | q
  · exact h pins s σ H xs us Q I rx q
  · exact h' pins s σ H xs us Q I rx q

section
variable {X : Cx} {K : PySem.W.Frag}
/-! ### + - * // % ** -/
def fAdd : Dt → Dt → (Dt → Prop) → Prop
  | .int i, .int j, C => C (.int (i + j))
  | .str x, .str y, C => x.length + y.length ≤ sizeLine ∧ C (.str (x ++ y))
  | .lst l, .lst r, C => l.length + r.length ≤ sizeLine ∧ C (.lst (l ++ r))
  | .tup l, .tup r, C => l.length + r.length ≤ sizeLine ∧ C (.tup (l ++ r))
  | _, _, _ => False
def rAddA (K : PySem.W.Frag) : R2 := fun x y H Q => (rI0 (fun i j => .int (i + j)) x y H Q ∨ ∃ i j, x = .str i ∧ y = .str j ∧ i.length + j.length ≤ sizeLine ∧ Q (.str (i ++ j)) H) ∨ (rCat x y H Q ∨ rCatA K x y H Q)
theorem op_addA : OpR X (binaryOp .Add) (rAddA X.K) := opr_or (opr_or op_add op_add_str) (opr_or op_cat op_catA)
theorem Ext.lst {F H : Hp} {p : Addr} {vs : List V} {l : List Dt} (hp : H p = none) (e : Same F H) (h : DrL K F vs l) : Ext K F H (upd F p (.lst vs)) (upd H p (.lst vs)) (.ref p) (.lst l) :=
  .inr (.inl ⟨p, .lst vs, hp, rfl, rfl, .lst upd_same (h.mono (sameUpd (e.free hp)))⟩)
theorem Ext.tup {F H : Hp} {p : Addr} {vs : List V} {l : List Dt} (hp : H p = none) (e : Same F H) (h : DrL K F vs l) : Ext K F H (upd F p (.tup vs)) (upd H p (.tup vs)) (.ref p) (.tup l) :=
  .inr (.inl ⟨p, .tup vs, hp, rfl, rfl, .tup upd_same (h.mono (sameUpd (e.free hp)))⟩)
theorem Ext.refl {F H : Hp} {v : V} {d : Dt} (h : Dr K F v d) : Ext K F H F H v d := .inl ⟨rfl, rfl, h⟩
theorem od_add : OpD K (rAddA K) fAdd := by
  refine ⟨fun F H xv yv x y Q C e hx hy h q => ?_, fun x y C C' hC h => ?_⟩
  · unfold fAdd at h
    split at h
    · have h1 := hx.int; have h2 := hy.int; subst h1 h2
      exact .inl (.inl ⟨_, _, rfl, rfl, q _ _ F H h (.refl (.int _))⟩)
    · have h1 := hx.str; have h2 := hy.str; subst h1 h2
      exact .inl (.inr ⟨_, _, rfl, rfl, h.1, q _ _ F H h.2 (.refl (.str _))⟩)
    · obtain ⟨a, vs, rfl, ha, da⟩ := hx.lst e
      obtain ⟨b, us, rfl, hb, db⟩ := hy.lst e
      exact .inr (.inl ⟨a, b, vs, us, rfl, rfl, ha, hb, by rw [da.len, db.len]; exact h.1, fun p hp => q _ _ _ _ h.2 (.lst hp e (da.app db))⟩)
    · obtain ⟨a, vs, rfl, ha, da, dx⟩ := hx.tupS
      obtain ⟨b, us, rfl, hb, db, dy⟩ := hy.tupS
      refine .inr (.inr ⟨a, b, vs, us, rfl, rfl, sameSeqT e ha, sameSeqT e hb, by rw [da.len, db.len]; exact h.1, fun z => ?_, fun _ z => ?_, fun _ _ p hp => q _ _ _ _ h.2 (.tup hp e (da.app db))⟩)
      · subst z
        cases da
        exact q _ _ F H h.2 (.refl dy)
      · subst z
        cases db
        refine q _ _ F H h.2 (.refl ?_)
        rw [List.append_nil]
        exact dx
    · exact h.elim
  · unfold fAdd at h ⊢
    split at h <;> first | exact hC _ h | exact ⟨h.1, hC _ h.2⟩ | exact h.elim
/-- + of lists, a new one -/
def fAddL : Dt → Dt → (List Dt → Prop) → Prop
  | .lst l, .lst r, C => l.length + r.length ≤ sizeLine ∧ C (l ++ r)
  | _, _, _ => False
theorem ol_add : OpL K rCat fAddL := by
  refine ⟨fun F H xv yv x y Q C e hx hy h q => ?_, fun x y C C' hC h => ?_⟩
  · unfold fAddL at h
    split at h
    · obtain ⟨a, vs, rfl, ha, da⟩ := hx.lst e
      obtain ⟨b, us, rfl, hb, db⟩ := hy.lst e
      exact ⟨a, b, vs, us, rfl, rfl, ha, hb, by rw [da.len, db.len]; exact h.1, fun p hp => q _ _ _ h.2 hp (da.app db)⟩
    · exact h.elim
  · unfold fAddL at h ⊢
    split at h <;> first | exact ⟨h.1, hC _ h.2⟩ | exact h.elim
def fSub : Dt → Dt → (Dt → Prop) → Prop
  | .int i, .int j, C => C (.int (i - j))
  | _, _, _ => False
theorem od_sub : OpD K (rI0 fun i j => .int (i - j)) fSub := by
  refine ⟨fun F H xv yv x y Q C e hx hy h q => ?_, fun x y C C' hC h => ?_⟩
  · unfold fSub at h
    split at h
    · have h1 := hx.int; have h2 := hy.int; subst h1 h2
      exact ⟨_, _, rfl, rfl, q _ _ F H h (.refl (.int _))⟩
    · exact h.elim
  · unfold fSub at h ⊢
    split at h <;> first | exact hC _ h | exact h.elim
/-- the product of two ints; n times a list -/
def fMul : Dt → Dt → (Dt → Prop) → Prop
  | .int i, .int j, C => CMulX i j ∧ C (.int (i * j))
  | .lst l, .int k, C => -(2 ^ 63) ≤ k ∧ k < 2 ^ 63 ∧ l.length * k.toNat ≤ sizeLine ∧ C (.lst (List.replicate k.toNat l).flatten)
  | _, _, _ => False
def rMulA : R2 := fun x y H Q => rI CMulX (fun i j => .int (i * j)) x y H Q ∨ rRep x y H Q
theorem op_mulA : OpR X (binaryOp .Mult) rMulA := opr_or op_mulX op_rep
theorem od_mul : OpD K rMulA fMul := by
  refine ⟨fun F H xv yv x y Q C e hx hy h q => ?_, fun x y C C' hC h => ?_⟩
  · unfold fMul at h
    split at h
    · have h1 := hx.int; have h2 := hy.int; subst h1 h2
      exact .inl ⟨_, _, rfl, rfl, h.1, q _ _ F H h.2 (.refl (.int _))⟩
    · obtain ⟨a, vs, rfl, ha, da⟩ := hx.lst e
      have h2 := hy.int; subst h2
      exact .inr ⟨a, _, vs, rfl, rfl, ha, h.1, h.2.1, by rw [da.len]; exact h.2.2.1, fun p hp => q _ _ _ _ h.2.2.2 (.lst hp e (da.rep _))⟩
    · exact h.elim
  · unfold fMul at h ⊢
    split at h <;> first | exact ⟨h.1, hC _ h.2⟩ | exact ⟨h.1, h.2.1, h.2.2.1, hC _ h.2.2.2⟩ | exact h.elim
def fMulL : Dt → Dt → (List Dt → Prop) → Prop
  | .lst l, .int k, C => -(2 ^ 63) ≤ k ∧ k < 2 ^ 63 ∧ l.length * k.toNat ≤ sizeLine ∧ C (List.replicate k.toNat l).flatten
  | _, _, _ => False
def fDiv : Dt → Dt → (Dt → Prop) → Prop
  | .int i, .int j, C => CDivW i j ∧ C (.int (i / j))
  | _, _, _ => False
theorem od_div : OpD K (rI CDivW fun i j => .int (i / j)) fDiv := by
  refine ⟨fun F H xv yv x y Q C e hx hy h q => ?_, fun x y C C' hC h => ?_⟩
  · unfold fDiv at h
    split at h
    · have h1 := hx.int; have h2 := hy.int; subst h1 h2
      exact ⟨_, _, rfl, rfl, h.1, q _ _ F H h.2 (.refl (.int _))⟩
    · exact h.elim
  · unfold fDiv at h ⊢
    split at h <;> first | exact ⟨h.1, hC _ h.2⟩ | exact h.elim
def fMod : Dt → Dt → (Dt → Prop) → Prop
  | .int i, .int j, C => 0 < j ∧ C (.int (i % j))
  | _, _, _ => False
theorem od_mod : OpD K (rI (fun _ j => 0 < j) fun i j => .int (i % j)) fMod := by
  refine ⟨fun F H xv yv x y Q C e hx hy h q => ?_, fun x y C C' hC h => ?_⟩
  · unfold fMod at h
    split at h
    · have h1 := hx.int; have h2 := hy.int; subst h1 h2
      exact ⟨_, _, rfl, rfl, h.1, q _ _ F H h.2 (.refl (.int _))⟩
    · exact h.elim
  · unfold fMod at h ⊢
    split at h <;> first | exact ⟨h.1, hC _ h.2⟩ | exact h.elim
def fPow : Dt → Dt → (Dt → Prop) → Prop
  | .int i, .int j, C => CPow i j ∧ C (.int (i ^ j.toNat))
  | _, _, _ => False
theorem od_pow : OpD K (rI CPow fun i j => .int (i ^ j.toNat)) fPow := by
  refine ⟨fun F H xv yv x y Q C e hx hy h q => ?_, fun x y C C' hC h => ?_⟩
  · unfold fPow at h
    split at h
    · have h1 := hx.int; have h2 := hy.int; subst h1 h2
      exact ⟨_, _, rfl, rfl, h.1, q _ _ F H h.2 (.refl (.int _))⟩
    · exact h.elim
  · unfold fPow at h ⊢
    split at h <;> first | exact ⟨h.1, hC _ h.2⟩ | exact h.elim

/-! ### < <= > >= == != in -/
def fCmp (p : Int → Int → Bool) : Dt → Dt → (Dt → Prop) → Prop
  | .int i, .int j, C => C (.bl (p i j))
  | _, _, _ => False
theorem od_cmp {p : Int → Int → Bool} : OpD K (rI0 fun i j => .bl (p i j)) (fCmp p) := by
  refine ⟨fun F H xv yv x y Q C e hx hy h q => ?_, fun x y C C' hC h => ?_⟩
  · unfold fCmp at h
    split at h
    · have h1 := hx.int; have h2 := hy.int; subst h1 h2
      exact ⟨_, _, rfl, rfl, q _ _ F H h (.refl (.bl _))⟩
    · exact h.elim
  · unfold fCmp at h ⊢
    split at h <;> first | exact hC _ h | exact h.elim
/-- two lists of unlike lengths -/
def rEqLen (K : PySem.W.Frag) : R2 := fun x y H Q => ∃ a b xs ys, x = .ref a ∧ y = .ref b ∧ SqL K H a xs ∧ SqL K H b ys ∧ xs.length ≠ ys.length ∧ Q (.bl false) H
theorem op_eqLen (hu : X.A.units < cLine) : OpR X (compareOp .Eq) (rEqLen X.K) := by
  intro pins s σ H x y v u Q I rx ry h
  obtain ⟨a, b, xs, ys, rfl, rfl, ha, hb, hne, q⟩ := h
  cases rx
  cases ry
  obtain ⟨its, rv, p, _⟩ := I.list ha
  obtain ⟨its2, rv2, p2, _⟩ := I.list hb
  refine SeqAt.eq_list_lengthsAt p.isList p2.isList ?_ hu ⟨.bl false, H, I, rfl, q⟩
  rw [bne_iff_ne]
  have e1 := rv.length
  have e2 := rv2.length
  simp only [List.size_toArray]
  omega
def rNeLen (K : PySem.W.Frag) : R2 := fun x y H Q => ∃ a b xs ys, x = .ref a ∧ y = .ref b ∧ SqL K H a xs ∧ SqL K H b ys ∧ xs.length ≠ ys.length ∧ Q (.bl true) H
end
end Ck
namespace Ck
abbrev fLt := fCmp fun i j => decide (i < j)
abbrev fGt := fCmp fun i j => decide (j < i)
end Ck
namespace Ck
open PySem PySem.Spec PyProof.Rows L2
section
variable {X : Cx} {K : PySem.W.Frag}
theorem op_neLen (hu : X.A.units < cLine) : OpR X (compareOp .NotEq) (rNeLen X.K) := by
  intro pins s σ H x y v u Q I rx ry h
  obtain ⟨a, b, xs, ys, rfl, rfl, ha, hb, hne, q⟩ := h
  cases rx
  cases ry
  obtain ⟨its, rv, p, _⟩ := I.list ha
  obtain ⟨its2, rv2, p2, _⟩ := I.list hb
  refine SeqAt.RcNeAt.lists_lengths p.isList p2.isList ?_ hu X.prog X.w X.xe _ ⟨.bl true, H, I, rfl, q⟩
  rw [bne_iff_ne]
  have e1 := rv.length
  have e2 := rv2.length
  simp only [List.size_toArray]
  omega
/-- == of data: what it is -/
def eqAns : Dt → Dt → (Bool → Prop) → Prop
  | .int i, .int j, C => C (decide (i = j))
  | .str i, .str j, C => C (decide (i = j))
  | .bl i, .bl j, C => C (decide (i = j))
  | .lst l, .lst [], C => C l.isEmpty
  | x, y, C => ∃ a b, x.py = some a ∧ y.py = some b ∧ SeqAt.shaped a = true ∧ SeqAt.shaped b = true ∧ C (PyData.eqv a b)
def fEq : Dt → Dt → (Dt → Prop) → Prop := fun x y C => eqAns x y fun b => C (.bl b)
def fNe : Dt → Dt → (Dt → Prop) → Prop := fun x y C => eqAns x y fun b => C (.bl (!b))
theorem eqAns_mono {x y : Dt} {C C' : Bool → Prop} (hC : ∀ b, C b → C' b) (h : eqAns x y C) : eqAns x y C' := by
  unfold eqAns at h ⊢
  split at h
  · exact hC _ h
  · exact hC _ h
  · exact hC _ h
  · exact hC _ h
  · obtain ⟨a, b, h1, h2, h3, h4, h5⟩ := h
    exact ⟨a, b, h1, h2, h3, h4, hC _ h5⟩
def rEqA (K : PySem.W.Frag) : R2 := fun x y H Q => (rEq x y H Q ∨ rEqLen K x y H Q) ∨ rEqD K x y H Q
def rNeA (K : PySem.W.Frag) : R2 := fun x y H Q => (rNe x y H Q ∨ rNeLen K x y H Q) ∨ rNeD K x y H Q
theorem op_eqA (hu : X.A.units + 64 < cLine) : OpR X (compareOp .Eq) (rEqA X.K) := opr_or (opr_or op_eq (op_eqLen (by omega))) (op_eqD hu)
theorem op_neA (hu : X.A.units + 64 < cLine) : OpR X (compareOp .NotEq) (rNeA X.K) := opr_or (opr_or op_ne (op_neLen (by omega))) (op_neD hu)
theorem eqAns_run {F H : Hp} {xv yv : V} {x y : Dt} {C : Bool → Prop} (e : Same F H) (hx : Da K F H xv x) (hy : Da K F H yv y) (h : eqAns x y C) : ∃ b, C b ∧ (∀ Q : VK, Q (.bl b) H → rEqA K xv yv H Q) ∧ ∀ Q : VK, Q (.bl (!b)) H → rNeA K xv yv H Q := by
  unfold eqAns at h
  split at h
  · have h1 := hx.int; have h2 := hy.int; subst h1 h2
    refine ⟨_, h, fun Q q => .inl (.inl ⟨rfl, ?_⟩), fun Q q => .inl (.inl ⟨rfl, ?_⟩)⟩ <;> simpa using q
  · have h1 := hx.str; have h2 := hy.str; subst h1 h2
    refine ⟨_, h, fun Q q => .inl (.inl ⟨rfl, ?_⟩), fun Q q => .inl (.inl ⟨rfl, ?_⟩)⟩ <;> simpa using q
  · have h1 := hx.bl; have h2 := hy.bl; subst h1 h2
    refine ⟨_, h, fun Q q => .inl (.inl ⟨rfl, ?_⟩), fun Q q => .inl (.inl ⟨rfl, ?_⟩)⟩ <;> simpa using q
  · rename_i l
    obtain ⟨a, vs, rfl, ha, da⟩ := hx.lst e
    obtain ⟨b, us, rfl, hb, db⟩ := hy.lst e
    cases db
    refine ⟨_, h, ?_⟩
    cases l with
    | nil =>
      cases da
      have d1 : Dp K H (.ref a) (.list []) := .lst (.of ha) .nil
      have d2 : Dp K H (.ref b) (.list []) := .lst (.of hb) .nil
      exact ⟨fun Q q => .inr ⟨_, _, d1, d2, by decide, by decide, q⟩, fun Q q => .inr ⟨_, _, d1, d2, by decide, by decide, q⟩⟩
    | cons d l =>
      have hl : vs.length ≠ ([] : List V).length := by
        rw [da.len]
        simp
      exact ⟨fun Q q => .inl (.inr ⟨a, b, vs, [], rfl, rfl, .of ha, .of hb, hl, q⟩), fun Q q => .inl (.inr ⟨a, b, vs, [], rfl, rfl, .of ha, .of hb, hl, q⟩)⟩
  · obtain ⟨p, q, h1, h2, h3, h4, h5⟩ := h
    have d1 := (hx.now e).dp h1
    have d2 := (hy.now e).dp h2
    exact ⟨_, h5, fun Q k => .inr ⟨p, q, d1, d2, h3, h4, k⟩, fun Q k => .inr ⟨p, q, d1, d2, h3, h4, k⟩⟩
theorem od_eq : OpD K (rEqA K) fEq := by
  refine ⟨fun F H xv yv x y Q C e hx hy h q => ?_, fun x y C C' hC h => eqAns_mono (fun b => hC _) h⟩
  obtain ⟨b, c, h1, _⟩ := eqAns_run e hx hy h
  exact h1 Q (q _ _ F H c (.refl (.bl b)))
theorem od_ne : OpD K (rNeA K) fNe := by
  refine ⟨fun F H xv yv x y Q C e hx hy h q => ?_, fun x y C C' hC h => eqAns_mono (fun b => hC _) h⟩
  obtain ⟨b, c, _, h1⟩ := eqAns_run e hx hy h
  exact h1 Q (q _ _ F H c (.refl (.bl (!b))))
/-- in, not in, over flat items -/
def fIn (neg : Bool) : Dt → Dt → (Dt → Prop) → Prop
  | x, .lst l, C => flatD x = true ∧ l.all flatD = true ∧ C (.bl (if neg then !inD x l else inD x l))
  | x, .tup l, C => flatD x = true ∧ l.all flatD = true ∧ C (.bl (if neg then !inD x l else inD x l))
  | _, _, _ => False
theorem Da.fvD {F H : Hp} {v : V} {d : Dt} (h : Da K F H v d) (f : flatD d = true) : v = fv d ∧ flatV v = true := by
  rcases h with h | ⟨_, _, _, _, rfl, _⟩
  · exact h.fv f
  · cases f
theorem od_in {neg : Bool} : OpD K (rIn K neg) (fIn neg) := by
  refine ⟨fun F H xv yv x y Q C e hx hy h q => ?_, fun x y C C' hC h => ?_⟩
  · unfold fIn at h
    split at h
    · obtain ⟨f1, f2, h⟩ := h
      obtain ⟨a, vs, rfl, ha, da⟩ := hy.lst e
      obtain ⟨rfl, g1⟩ := hx.fvD f1
      obtain ⟨rfl, g2⟩ := da.fv f2
      exact ⟨a, _, rfl, .inl (.of ha), g1, g2, q _ _ F H h (.refl (.bl _))⟩
    · obtain ⟨f1, f2, h⟩ := h
      obtain ⟨a, vs, rfl, ha, da⟩ := hy.tup
      obtain ⟨rfl, g1⟩ := hx.fvD f1
      obtain ⟨rfl, g2⟩ := da.fv f2
      exact ⟨a, _, rfl, .inr (sameSeqT e ha), g1, g2, q _ _ F H h (.refl (.bl _))⟩
    · exact h.elim
  · unfold fIn at h ⊢
    split at h <;> first | exact ⟨h.1, h.2.1, hC _ h.2.2⟩ | exact h.elim

/-! ### x[i] -/
def fIx : Dt → Dt → (Dt → Prop) → Prop
  | .lst l, .int i, C => ∃ d, atI l i = some d ∧ C d
  | .tup l, .int i, C => ∃ d, atI l i = some d ∧ C d
  | .str z, .int i, C => ∃ c, z.length ≤ sizeLine ∧ atI z.cps.toList i = some c ∧ C (.str ⟨#[c]⟩)
  | _, _, _ => False
theorem DrL.atI {F : Hp} {vs : List V} {l : List Dt} {i : Int} {d : Dt} (h : DrL K F vs l) (e : L2.atI l i = some d) : ∃ v, L2.atI vs i = some v ∧ Dr K F v d := by
  unfold L2.atI at e ⊢
  rw [h.len]
  cases hi : ixN l.length i with
  | none => rw [hi] at e; cases e
  | some j =>
    rw [hi] at e
    exact h.at e
theorem od_ix : OpD K (rIx K) fIx := by
  refine ⟨fun F H xv yv x y Q C e hx hy h q => ?_, fun x y C C' hC h => ?_⟩
  · unfold fIx at h
    split at h
    · obtain ⟨d, h1, h2⟩ := h
      obtain ⟨a, vs, rfl, ha, da⟩ := hx.lst e
      have := hy.int; subst this
      obtain ⟨v, g1, g2⟩ := da.atI h1
      exact .inl ⟨a, vs, _, v, rfl, rfl, .of ha, g1, q _ _ F H h2 (.refl g2)⟩
    · obtain ⟨d, h1, h2⟩ := h
      obtain ⟨a, vs, rfl, ha, da⟩ := hx.tup
      have := hy.int; subst this
      obtain ⟨v, g1, g2⟩ := da.atI h1
      exact .inr (.inl ⟨a, vs, _, v, rfl, rfl, sameSeqT e ha, g1, q _ _ F H h2 (.refl g2)⟩)
    · obtain ⟨c, h1, h2, h3⟩ := h
      have := hx.str; subst this
      have := hy.int; subst this
      exact .inr (.inr ⟨_, _, c, rfl, rfl, h1, h2, q _ _ F H h3 (.refl (.str _))⟩)
    · exact h.elim
  · unfold fIx at h ⊢
    split at h
    · obtain ⟨d, h1, h2⟩ := h; exact ⟨d, h1, hC _ h2⟩
    · obtain ⟨d, h1, h2⟩ := h; exact ⟨d, h1, hC _ h2⟩
    · obtain ⟨d, h0, h1, h2⟩ := h; exact ⟨d, h0, h1, hC _ h2⟩
    · exact h.elim

/-! ### slices -/
def cutD (l : List Dt) (lo hi : Option Int) : List Dt := (l.drop (HT.sIx l.length 0 lo)).take (HT.sIx l.length l.length hi - HT.sIx l.length 0 lo)
def fSl : Dt → Option Int → Option Int → (Dt → Prop) → Prop
  | .lst l, lo, hi, C => C (.lst (cutD l lo hi))
  | .tup l, lo, hi, C => C (.tup (cutD l lo hi))
  | _, _, _, _ => False
def rSlB (K : PySem.W.Frag) : V → Option Int → Option Int → Hp → VK → Prop := fun x lo hi H Q => rSlL K x lo hi H Q ∨ rSlA K x lo hi H Q
theorem sl_B : SlR X (rSlB X.K) := sl_list.or sl_tupA
theorem sd_sl : SlD K (rSlB K) fSl := by
  refine ⟨fun F H xv x lo hi Q C e hx h q => ?_, fun x lo hi C C' hC h => ?_⟩
  · unfold fSl at h
    split at h
    · obtain ⟨a, vs, rfl, ha, da⟩ := hx.lst e
      exact .inl ⟨a, vs, rfl, .of ha, fun p hp => q _ _ _ _ h (.lst hp e (da.cut lo hi))⟩
    · rename_i l
      obtain ⟨a, vs, rfl, ha, da, dx⟩ := hx.tupS
      refine .inr ⟨a, vs, rfl, sameSeqT e ha, fun ⟨z1, z2⟩ => ?_, fun _ p hp => q _ _ _ _ h (.tup hp e (da.cut lo hi))⟩
      have el := da.len
      rw [el] at z1 z2
      have e1 : cutD l lo hi = l := by
        unfold cutD
        rw [z1, z2]
        simp
      rw [e1] at h
      exact q _ _ F H h (.refl dx)
    · exact h.elim
  · unfold fSl at h ⊢
    split at h <;> first | exact hC _ h | exact h.elim
/-! ### built-ins -/
def fLen : Dt → (Dt → Prop) → Prop
  | .lst l, C => C (.int l.length)
  | .tup l, C => C (.int l.length)
  | .str z, C => z.length ≤ sizeLine ∧ C (.int z.length)
  | _, _ => False
def rLenA (K : PySem.W.Frag) : List V → Hp → VK → Prop := fun xs H Q => (∃ p ys, xs = [.ref p] ∧ (SqL K H p ys ∨ SqT K H p ys) ∧ Q (.int ys.length) H) ∨ ∃ z, xs = [.str z] ∧ z.length ≤ sizeLine ∧ Q (.int z.length) H
theorem call_lenA : CallR X (.builtin "len") (rLenA X.K) := callr_or call_len_seq call_len_str
theorem fd_len : FnD K (rLenA K) fLen := by
  refine ⟨fun F H xv x Q C e hx h q => ?_, fun x C C' hC h => ?_⟩
  · unfold fLen at h
    split at h
    · obtain ⟨a, vs, rfl, ha, da⟩ := hx.lst e
      rw [← da.len] at h
      exact .inl ⟨a, vs, rfl, .inl (.of ha), q _ _ F H h (.refl (.int _))⟩
    · obtain ⟨a, vs, rfl, ha, da⟩ := hx.tup
      rw [← da.len] at h
      exact .inl ⟨a, vs, rfl, .inr (sameSeqT e ha), q _ _ F H h (.refl (.int _))⟩
    · have := hx.str; subst this
      exact .inr ⟨_, rfl, h.1, q _ _ F H h.2 (.refl (.int _))⟩
    · exact h.elim
  · unfold fLen at h ⊢
    split at h <;> first | exact hC _ h | exact ⟨h.1, hC _ h.2⟩ | exact h.elim
def fInt : Dt → (Dt → Prop) → Prop
  | .int i, C => C (.int i)
  | .bl k, C => C (.int (if k then 1 else 0))
  | _, _ => False
theorem fd_int : FnD K (fun xs H Q => (∃ i, xs = [.int i] ∧ Q (.int i) H) ∨ ∃ k, xs = [.bl k] ∧ Q (.int (if k then 1 else 0)) H) fInt := by
  refine ⟨fun F H xv x Q C e hx h q => ?_, fun x C C' hC h => ?_⟩
  · unfold fInt at h
    split at h
    · have := hx.int; subst this
      exact .inl ⟨_, rfl, q _ _ F H h (.refl (.int _))⟩
    · have := hx.bl; subst this
      exact .inr ⟨_, rfl, q _ _ F H h (.refl (.int _))⟩
    · exact h.elim
  · unfold fInt at h ⊢
    split at h <;> first | exact hC _ h | exact h.elim
def fAbs : Dt → (Dt → Prop) → Prop
  | .int i, C => C (.int (if i < 0 then -i else i))
  | _, _ => False
theorem fd_abs : FnD K (fun xs H Q => ∃ i, xs = [.int i] ∧ Q (.int (if i < 0 then -i else i)) H) fAbs := by
  refine ⟨fun F H xv x Q C e hx h q => ?_, fun x C C' hC h => ?_⟩
  · unfold fAbs at h
    split at h
    · have := hx.int; subst this
      exact ⟨_, rfl, q _ _ F H h (.refl (.int _))⟩
    · exact h.elim
  · unfold fAbs at h ⊢
    split at h <;> first | exact hC _ h | exact h.elim
def fTuple : Dt → (Dt → Prop) → Prop
  | .lst l, C => C (.tup l)
  | .tup l, C => C (.tup l)
  | _, _ => False
theorem fd_tuple : FnD K (fun xs H Q => ∃ p ys, xs = [.ref p] ∧ ((SqL K H p ys ∧ ∀ l, H l = none → Q (.ref l) (upd H l (.tup ys))) ∨ (SqT K H p ys ∧ Q (.ref p) H))) fTuple := by
  refine ⟨fun F H xv x Q C e hx h q => ?_, fun x C C' hC h => ?_⟩
  · unfold fTuple at h
    split at h
    · obtain ⟨a, vs, rfl, ha, da⟩ := hx.lst e
      exact ⟨a, vs, rfl, .inl ⟨.of ha, fun p hp => q _ _ _ _ h (.tup hp e da)⟩⟩
    · obtain ⟨a, vs, rfl, ha, da, dx⟩ := hx.tupS
      exact ⟨a, vs, rfl, .inr ⟨sameSeqT e ha, q _ _ F H h (.refl dx)⟩⟩
    · exact h.elim
  · unfold fTuple at h ⊢
    split at h <;> first | exact hC _ h | exact h.elim
def fList : Dt → (List Dt → Prop) → Prop
  | .lst l, C => C l
  | .tup l, C => C l
  | _, _ => False
def fMin2 : Dt → Dt → (Dt → Prop) → Prop
  | .int i, .int j, C => C (.int (if j < i then j else i))
  | _, _, _ => False
def fMax2 : Dt → Dt → (Dt → Prop) → Prop
  | .int i, .int j, C => C (.int (if j > i then j else i))
  | _, _, _ => False
theorem fd_min2 : FnD2 K (fun xs H Q => ∃ i j, xs = [.int i, .int j] ∧ Q (.int (if j < i then j else i)) H) fMin2 := by
  refine ⟨fun F H xv yv x y Q C e hx hy h q => ?_, fun x y C C' hC h => ?_⟩
  · unfold fMin2 at h
    split at h
    · have h1 := hx.int; have h2 := hy.int; subst h1 h2
      exact ⟨_, _, rfl, q _ _ F H h (.refl (.int _))⟩
    · exact h.elim
  · unfold fMin2 at h ⊢
    split at h <;> first | exact hC _ h | exact h.elim
theorem fd_max2 : FnD2 K (fun xs H Q => ∃ i j, xs = [.int i, .int j] ∧ Q (.int (if j > i then j else i)) H) fMax2 := by
  refine ⟨fun F H xv yv x y Q C e hx hy h q => ?_, fun x y C C' hC h => ?_⟩
  · unfold fMax2 at h
    split at h
    · have h1 := hx.int; have h2 := hy.int; subst h1 h2
      exact ⟨_, _, rfl, q _ _ F H h (.refl (.int _))⟩
    · exact h.elim
  · unfold fMax2 at h ⊢
    split at h <;> first | exact hC _ h | exact h.elim
theorem DrL.ints {F : Hp} : ∀ {ns : List Int} {vs : List V}, DrL K F vs (ns.map .int) → vs = ns.map V.int
  | [], _, h => by cases h; rfl
  | n :: ns, _, h => by
    cases h with
    | cons h q =>
      cases h
      rw [List.map_cons, ← DrL.ints q]
theorem DrL.ofInts {F : Hp} : ∀ ns : List Int, DrL K F (ns.map V.int) (ns.map .int)
  | [] => .nil
  | n :: ns => .cons (.int n) (DrL.ofInts ns)
def fSum : Dt → (Dt → Prop) → Prop := fun d C => ∃ ns : List Int, d = .lst (ns.map .int) ∧ C (.int ns.sum)
theorem fd_sum : FnD K (rSum K) fSum := by
  refine ⟨fun F H xv x Q C e hx h q => ?_, fun x C C' hC ⟨ns, h1, h2⟩ => ⟨ns, h1, hC _ h2⟩⟩
  obtain ⟨ns, rfl, h⟩ := h
  obtain ⟨a, vs, rfl, ha, da⟩ := hx.lst e
  have := da.ints; subst this
  exact ⟨a, ns, rfl, .of ha, q _ _ F H h (.refl (.int _))⟩
def fMax1 : Dt → (Dt → Prop) → Prop := fun d C => ∃ ns : List Int, d = .lst (ns.map .int) ∧ 0 < ns.length ∧ ∀ m, m ∈ ns → (∀ y ∈ ns, y ≤ m) → C (.int m)
theorem fd_max1 : FnD K (rMax K) fMax1 := by
  refine ⟨fun F H xv x Q C e hx h q => ?_, fun x C C' hC ⟨ns, h1, h0, h2⟩ => ⟨ns, h1, h0, fun m a b => hC _ (h2 m a b)⟩⟩
  obtain ⟨ns, rfl, h0, h⟩ := h
  obtain ⟨a, vs, rfl, ha, da⟩ := hx.lst e
  have := da.ints; subst this
  exact ⟨a, ns, rfl, .of ha, h0, fun m h1 h2 => q _ _ F H (h m h1 h2) (.refl (.int _))⟩
def fSorted : Dt → (List Dt → Prop) → Prop := fun d C => ∃ ns : List Int, d = .lst (ns.map .int) ∧ ∀ ns' : List Int, ns'.Perm ns → ns'.Pairwise (· ≤ ·) → C (ns'.map .int)
theorem fl_sorted : FnL K (rSortedI K) fSorted := by
  refine ⟨fun F H xv x Q C e hx h q => ?_, fun x C C' hC ⟨ns, h1, h2⟩ => ⟨ns, h1, fun m a b => hC _ (h2 m a b)⟩⟩
  obtain ⟨ns, rfl, h⟩ := h
  obtain ⟨a, vs, rfl, ha, da⟩ := hx.lst e
  have := da.ints; subst this
  exact ⟨a, ns, rfl, .of ha, fun ns' p h1 h2 hp => q _ _ _ (h ns' h1 h2) hp (DrL.ofInts _)⟩

/-! ### isinstance -/
def isTy : String → Dt → Option Bool
  | _, .opq _ => none
  | _, .ins _ _ _ => none
  | _, .dic _ _ => none
  | _, .tpx _ => none
  | "int", .int _ => some true
  | "int", .bl _ => some true
  | "int", _ => some false
  | "bool", .bl _ => some true
  | "bool", _ => some false
  | "tuple", .tup _ => some true
  | "tuple", _ => some false
  | "str", .str _ => some true
  | "str", _ => some false
  | "list", .lst _ => some true
  | "list", _ => some false
  | _, _ => none
/-- the type's name of data -/
def tyN : Dt → String
  | .non => "NoneType"
  | .bl _ => "bool"
  | .int _ => "int"
  | .str _ => "str"
  | .tup _ => "tuple"
  | .lst _ => "list"
  | .emp => "dict"
  | .opq _ => ""
  | .dic _ _ => "dict"
  | .ins _ _ _ => ""
  | .tpx _ => "tuple"
theorem Da.ty {F H : Hp} {v : V} {d : Dt} (e : Same F H) (h : Da K F H v d) (hd : ∀ u, d ≠ .opq u) (hd2 : ∀ c ns l, d ≠ .ins c ns l) (hd3 : ∀ ks l, d ≠ .dic ks l) : TyX K H v (.type (tyN d)) := by
  cases d with
  | non => rw [h.non]; exact .base .non
  | bl b => rw [h.bl]; exact .base (.bl b)
  | int b => rw [h.int]; exact .base (.int b)
  | str b => rw [h.str]; exact .base (.str b)
  | lst l => obtain ⟨a, vs, rfl, ha, da⟩ := h.lst e; exact .base (.lst ha)
  | emp => obtain ⟨a, rfl, ha⟩ := h.emp; exact .base (.dK (e _ _ ha))
  | opq u => exact absurd rfl (hd u)
  | ins c ns l => exact absurd rfl (hd2 c ns l)
  | dic ks l => exact absurd rfl (hd3 ks l)
  | tpx l =>
    rcases h with h | ⟨_, _, _, _, z, _⟩
    · cases h with | tpx q _ _ => exact .fTuple (e _ _ q)
    · cases z
  | tup l =>
    obtain ⟨a, vs, rfl, ha, da⟩ := h.tup
    rcases ha with (ha | ⟨o, ha⟩) | ⟨o, its, n, ha, hc, _⟩
    · exact .base (.tup (e _ _ ha))
    · exact .fTuple (e _ _ ha)
    · exact .kTuple ha hc
end
end Ck
namespace Ck
open PySem PySem.Spec PyProof.Rows L2

/-! ### defs, where nothing is being shown (no guards) -/
structure FnG (P : Program) (w : World) (K : PySem.W.Frag) (mg : Str → Option Value) (base : Heap) (CX : CXT) (k : Nat) (f : Addr) (fd : FuncData) (ps : List Str) (sp : Sp) : Prop where
  len : ∀ vs H Q E, sp vs H Q E → vs.length = ps.length
  run : ∀ (A : Around) (outer : List Env) (s : Shared) (H : Hp) (args : Args) (us : List Value) (vs : List V) (Q : VK) (E : XK),
    A.guards = some [] → Room k A → Env0 P w K mg base A outer s H → BindsTo s fd args (ps.zip us) → Vals vs us → sp vs H Q E → codeAny (model P w) A (.call (.ref f) args) (CR CX outer P w H s Q E) s
section
variable {P : Program} {w : World} {K : PySem.W.Frag} {mg : Str → Option Value} {base : Heap} {CX : CXT} {k j : Nat} {f : Addr} {fd : FuncData} {ps : List Str} {sp sp' : Sp}
theorem FnG.mono (g : FnG P w K mg base CX j f fd ps sp) (h : j ≤ k) : FnG P w K mg base CX k f fd ps sp :=
  ⟨g.len, fun A outer s H args us vs Q E hg hr => g.run A outer s H args us vs Q E hg (hr.mono h)⟩
theorem FnG.imp (g : FnG P w K mg base CX k f fd ps sp) (h : ∀ vs H Q E, sp' vs H Q E → sp vs H Q E) : FnG P w K mg base CX k f fd ps sp' :=
  ⟨fun vs H Q E z => g.len vs H Q E (h _ _ _ _ z), fun A outer s H args us vs Q E hg hr he hb hv z =>
    g.run A outer s H args us vs Q E hg hr he hb hv (h _ _ _ _ z)⟩
theorem FnG.ofOk (g : FnOk P w K mg base CX k f fd ps sp) : FnG P w K mg base CX k f fd ps sp :=
  ⟨g.len, fun A outer s H args us vs Q E _ hr => g.run A outer s H args us vs Q E hr⟩
/-- a def by its body -/
theorem FnG.of {x qual : Str} {st : Stmt} {N : List Str} (F : L2.Fun K x qual st f fd) (S : FnScope N ps (defScope st)) (len : ∀ vs H Q E, sp vs H Q E → vs.length = ps.length)
    (hbody : ∀ (cdv : Value) (A : Around) (outer : List Env) (s : Shared) (H : Hp) (vs : List V) (Q : VK) (E : XK), A.guards = some [] → Room k (A.deeper (envOfC qual (defScope st) s.heap.objs.size f cdv)) → sp vs H Q E →
      ∃ t, PSs (cxOf CX P w K mg base N qual (defScope st) f cdv A outer s H E) (defBody st) t ∧ t { nx := fun _ H' => Q .non H', rt := Q } (start N vs) H) : FnG P w K mg base CX (k + 1) f fd ps sp := by
  obtain ⟨oc, od, kV, doc, pm, an, cdv, ct, osl, rfl, lk, hcd⟩ := F.ex
  constructor
  · exact len
  intro A outer s H args us vs Q E hgu hroom env0 binds vals hsp
  have hlen := len _ _ _ _ hsp
  have keepB : ∀ b o, base.get? b = some o → s.heap.get? b = some o := fun b o e => (env0.bs b o e).1
  have KX : K.In s.heap := env0.mod.kin.keeps keepB
  have lim : s.heap.NoLimit := env0.mod.nolimit.keeps keepB
  have kinds : ∀ y ∈ ps.zip us, (defScope st).names.lookup y.1 = some .local ∨
      ((defScope st).names.lookup y.1 = some .cell ∧ ((cellsFrom (s.heap.objs.size + 1) (defScope st).names []).lookup y.1).isSome = true) := by
    rintro ⟨n, v⟩ hy
    rcases S.par n (List.of_mem_zip hy).1 with c | c
    · exact Or.inl c
    · exact Or.inr ⟨c, PySem.W.cellsFrom_some _ _ _ (Or.inl c)⟩
  apply codeAny_call_function hroom.depth (KX _ _ lk) rfl S.co S.gen rfl (PySem.W.codeRec_of KX hcd)
  apply binds
  apply wpAny_newFunctionEnv_cells S.kind kinds
  intro env he s1 inC
  subst he
  refine ⟨lim.keeps inC.toInCall.keep, ?_⟩
  apply codeAny_func
  obtain ⟨t, ht, hq⟩ := hbody cdv A outer s H vs Q E hgu (hroom.deeper _) hsp
  have I0 := inv_start (CX := CX) (cd := cdv) (f := f) (E := E) (qual := qual) S hroom.hd env0 hlen vals inC
  refine wpAny_mono (ht.run [] s1 (start N vs) H _ I0 hq) ?_ (fun e s' z => z)
  intro fl s' z
  cases fl with
  | brk =>
    obtain ⟨_, _, _, bad⟩ := z
    exact bad.elim
  | cont =>
    obtain ⟨_, _, _, bad⟩ := z
    exact bad.elim
  | next =>
    obtain ⟨σ', H', J, z⟩ := z
    exact ⟨V.non, H', J.os, J.bare, J.base, J.hok, rfl, z⟩
  | ret u =>
    obtain ⟨v, σ', H', J, rv, z⟩ := z
    exact ⟨v, H', J.os, J.bare, J.base, J.hok, rv, z⟩
end
section
variable {X : Cx} {CX : CXT} {k : Nat} {f : Addr} {fd : FuncData} {ps : List Str} {sp : Sp} {E : XK} {x : Str} {p pos : Pos} {e : Expr} {es : List Expr} {t : TA}
theorem run_g {pins : List (Addr × Obj)} {σ : L2.St} {H : Hp} {s : Shared} {Q : VK} {us : List Value} {vs : List V} (g : FnG X.prog X.w X.K X.mg X.base CX k f fd ps sp) (hgu : X.A.guards = some []) (hr : Room k X.A) (hb : Binds X.K fd ps [])
    (hx : Passes CX X E) (I : Inv X pins σ H s) (r : Vals vs us) (h : sp vs H Q E) : wpAny (model X.prog X.w) X.A (call (.ref f) us) (EP X pins σ Q) X.xe s := by
  have hl : (us ++ []).length = ps.length := by
    rw [List.append_nil, ← r.length]
    exact g.len _ _ _ _ h
  have hbd := hb s us I.kIn hl
  rw [List.append_nil] at hbd
  apply wpAny_call
  refine codeAny_mono (g.run X.A X.stack s H ⟨us, []⟩ us vs Q E hgu hr I.env0 hbd r h) ?_
  intro res s' z
  match res, z with
  | .error e, z => exact hx pins σ H s e s' I z
  | .ok (.ret u), z => exact I.after z
  | .ok .next, z => exact z.elim
  | .ok .brk, z => exact z.elim
  | .ok .cont, z => exact z.elim
/-- f(e, ..) -/
theorem pe_callG (g : FnG X.prog X.w X.K X.mg X.base CX k f fd ps sp) (hgu : X.A.guards = some []) (hr : Room k X.A) (hg : Gl X x) (hm : X.mg x = some (.ref f)) (hk : PySem.W.keepIn X.K (.ref f) = true) (hb : Binds X.K fd ps []) (hx : Passes CX X E)
    (ha : PA X (e :: es) t) (hdb : (x == ("__debug__" : Str)) = false := by decide) (he : starEach (e :: es) X.env = (false, eval e X.env) :: starEach es X.env := by rfl) (hpl : (backTo pos (starEach es X.env)).any (·.1) = false := by rfl) :
    PE X (.Call (.Name x p) (e :: es) [] pos) (fun σ H Q => t σ H fun vs H1 => sp vs H1 Q E) := by
  constructor
  intro pins s σ H Q I h
  apply wpAny_Call_Name_kw
  apply ld_glob I hg hm _ hdb
  apply PySem.W.callWith_K (h₀ := X.base) I.ok.mod.kin hk _ he hpl
  exact thn (ha.run pos pins s σ H _ I h) fun us s1 ⟨vs, H1, I1, r, q⟩ =>
    ⟨I1.kIn, run_g g hgu hr hb hx I1 r q⟩
end

/-! ### what a def does over data -/
structure Spc (Ω : Type) where
  run : List Dt → Ω → (Dt → Ω → Prop) → Prop
  mono : ∀ ds w (C C' : Dt → Ω → Prop), (∀ d w', C d w' → C' d w') → run ds w C → run ds w C'
def spOf {Ω : Type} (K : PySem.W.Frag) (W : Wd Ω) (S : Spc Ω) : Sp := fun vs H Q _ => ∃ B F G w ds, HR W B F G H w ∧ DrL K F vs ds ∧
  S.run ds w fun d w' => ∀ v F' G' H', HR W B F' G' H' w' → Same F F' → Dr K F' v d → Q v H'
def wCall {Ω : Type} (S : Spc Ω) (pa : DL Ω) : DE Ω := fun sl w C => pa sl w fun ds w1 => S.run ds w1 fun d w2 => C d .cl w2
/-- all that is neither known for good nor the world's; and all tuples -/
def rest (F G H : Hp) : Hp := fun a => match H a with
  | some o => if ((F a).isNone && (G a).isNone) || isTp o then some o else none
  | none => none
theorem rest_eq {F G H : Hp} {a : Addr} {o : HO} : rest F G H a = some o ↔ H a = some o ∧ ((F a = none ∧ G a = none) ∨ IsTp o) := by
  unfold rest IsTp
  cases hH : H a with
  | none => simp
  | some u =>
    simp only [Option.some.injEq]
    constructor
    · intro h
      split at h
      · rename_i hc
        cases h
        refine ⟨rfl, ?_⟩
        simpa using hc
      · cases h
    · rintro ⟨rfl, h⟩
      rw [if_pos (by simpa using h)]
theorem HR.toRest {Ω : Type} {W : Wd Ω} {B F G H : Hp} {w : Ω} (r : HR W B F G H w) : Same B (rest F G H) ∧ HR W (rest F G H) F G H w := by
  have e : Same B (rest F G H) := fun a o h => by
    obtain ⟨h1, h2, h3⟩ := r.b a o h
    refine rest_eq.mpr ⟨h1, ?_⟩
    rcases h2 with h2 | h2
    · rcases h3 with h3 | h3
      · exact .inl ⟨h2, h3⟩
      · exact .inr h3
    · exact .inr h2
  refine ⟨e, fun a o h => ?_, r.f, r.g, r.d, r.w, W.monoB _ _ e r.k⟩
  obtain ⟨h1, h2⟩ := rest_eq.mp h
  rcases h2 with ⟨h2, h3⟩ | h2
  · exact ⟨h1, .inl h2, .inl h3⟩
  · exact ⟨h1, .inr h2, .inr h2⟩
theorem SR.back {Ω : Type} {K : PySem.W.Frag} {W : Wd Ω} {B F G H F' G' H' : Hp} {w w' : Ω} {σ : L2.St} {sl : Sl} (r : SR K W B F G H w σ sl) (r' : HR W (rest F G H) F' G' H' w') (e' : Same F F') : SR K W B F' G' H' w' σ sl := by
  refine r.to ⟨fun a o z => r'.b a o (r.hr.toRest.1 _ _ z), r'.f, r'.g, r'.d, r'.w, r.hr.k⟩ e' fun i l a us h1 h2 h3 h4 h5 h6 h7 => ?_
  obtain ⟨q1, q2, q3⟩ := r'.b a _ (rest_eq.mpr ⟨h3, .inl ⟨h5, h6⟩⟩)
  exact ⟨q1, q2.resolve_right h7, q3.resolve_right h7⟩
section
variable {Ω : Type} {X : Cx} {W : Wd Ω} {CX : CXT} {k : Nat} {f : Addr} {fd : FuncData} {ps : List Str} {E : XK} {x : Str} {p pos : Pos} {e : Expr} {es : List Expr} {S : Spc Ω} {pa : DL Ω}
theorem use_call {B F G H : Hp} {w : Ω} {σ : L2.St} {sl : Sl} {vs : List V} {ds : List Dt} {Q : VK} {K : PySem.W.Frag} (r : SR K W B F G H w σ sl) (hd : DrL K F vs ds) {C : Dt → Ω → Prop} (h : S.run ds w C)
    (hC : ∀ d w' v F' G' H', C d w' → SR K W B F' G' H' w' σ sl → Same F F' → Dr K F' v d → Q v H') : spOf K W S vs H Q E := by
  refine ⟨rest F G H, F, G, w, ds, r.hr.toRest.2, hd, S.mono _ _ _ _ (fun d w' c v F' G' H' r' e' k' => ?_) h⟩
  exact hC d w' v F' G' H' c (r.back r' e') e' k'
theorem d_call (g : FnG X.prog X.w X.K X.mg X.base CX k f fd ps (spOf X.K W S)) (hgu : X.A.guards = some []) (hr : Room k X.A) (hg : Gl X x) (hm : X.mg x = some (.ref f)) (hk : PySem.W.keepIn X.K (.ref f) = true) (hb : Binds X.K fd ps []) (hx : Passes CX X E)
    (ha : PDA X W (e :: es) pa) (hdb : (x == ("__debug__" : Str)) = false := by decide) (he : starEach (e :: es) X.env = (false, eval e X.env) :: starEach es X.env := by rfl) (hpl : (backTo pos (starEach es X.env)).any (·.1) = false := by rfl) :
    PD X W (.Call (.Name x p) (e :: es) [] pos) (wCall S pa) := by
  refine ⟨pe_imp (pe_callG g hgu hr hg hm hk hb hx ha.run hdb he hpl) fun σ H Q ⟨B, F, G, w, sl, r, z⟩ => ?_, fun sl w C C' hC z => ha.mono _ _ _ _ (fun ds w1 z1 => S.mono _ _ _ _ (fun d w2 => hC _ _ _) z1) z⟩
  refine ⟨B, F, G, w, sl, r, ha.mono _ _ _ _ (fun ds w1 z1 vs F1 G1 H1 r1 e1 d1 => ?_) z⟩
  exact use_call r1 d1 z1 fun d w' v F' G' H' c r' e' k' => c v F' G' H' r' (e1.trans e') k'
end
end Ck
namespace Ck
open PySem PySem.Spec PyProof.Rows L2

/-! ### statements over data -/
structure DD (Ω : Type) where
  nx : Sl → Ω → Prop
  rt : Dt → Ω → Prop
  bk : Sl → Ω → Prop
  ct : Sl → Ω → Prop
abbrev DS (Ω : Type) := DD Ω → Sl → Ω → Prop
structure DD.Le {Ω : Type} (D D' : DD Ω) : Prop where
  nx : ∀ sl w, D.nx sl w → D'.nx sl w
  rt : ∀ d w, D.rt d w → D'.rt d w
  bk : ∀ sl w, D.bk sl w → D'.bk sl w
  ct : ∀ sl w, D.ct sl w → D'.ct sl w
section
variable {Ω : Type} (K : PySem.W.Frag) (W : Wd Ω) (B : Hp)
/-- a wish about slots and heap, said over data -/
def upSl (F : Hp) (N : L2.St → Hp → Prop) : Sl → Ω → Prop := fun sl' w' => ∀ σ' F' G' H', SR K W B F' G' H' w' σ' sl' → Same F F' → N σ' H'
def upV (F : Hp) (N : VK) : Dt → Ω → Prop := fun d w' => ∀ v F' G' H', HR W B F' G' H' w' → Same F F' → Dr K F' v d → N v H'
def up (F : Hp) (D : Ends) : DD Ω := ⟨upSl K W B F D.nx, upV K W B F D.rt, upSl K W B F D.bk, upSl K W B F D.ct⟩
def lftS (p : DS Ω) : TS := fun D σ H => ∃ B F G w sl, SR K W B F G H w σ sl ∧ p (up K W B F D) sl w
end
structure PDS {Ω : Type} (X : Cx) (W : Wd Ω) (st : Stmt) (p : DS Ω) : Prop where
  run : PS X st (lftS X.K W p)
  mono : ∀ (D D' : DD Ω), D.Le D' → ∀ sl w, p D sl w → p D' sl w
structure PDB {Ω : Type} (X : Cx) (W : Wd Ω) (st : List Stmt) (p : DS Ω) : Prop where
  run : PSs X st (lftS X.K W p)
  mono : ∀ (D D' : DD Ω), D.Le D' → ∀ sl w, p D sl w → p D' sl w
theorem ps_imp {X : Cx} {st : Stmt} {t t' : TS} (h : PS X st t) (i : ∀ D σ H, t' D σ H → t D σ H) : PS X st t' := ⟨fun pins s σ H D I q => h.run pins s σ H D I (i D σ H q)⟩
theorem pss_imp {X : Cx} {st : List Stmt} {t t' : TS} (h : PSs X st t) (i : ∀ D σ H, t' D σ H → t D σ H) : PSs X st t' := ⟨fun pins s σ H D I q => h.run pins s σ H D I (i D σ H q)⟩
section
variable {Ω : Type} {K : PySem.W.Frag} {W : Wd Ω} {B F F' : Hp}
theorem upSl_mono {N N' : L2.St → Hp → Prop} (e : Same F F') (h : ∀ σ H, N σ H → N' σ H) : ∀ sl w, upSl K W B F N sl w → upSl K W B F' N' sl w := fun sl w z σ' F1 G1 H1 r1 e1 => h _ _ (z σ' F1 G1 H1 r1 (e.trans e1))
theorem upV_mono {N N' : VK} (e : Same F F') (h : ∀ σ H, N σ H → N' σ H) : ∀ (d : Dt) (w : Ω), upV K W B F N d w → upV K W B F' N' d w := fun sl w z σ' F1 G1 H1 r1 e1 d1 => h _ _ (z σ' F1 G1 H1 r1 (e.trans e1) d1)
theorem up_le {D : Ends} (e : Same F F') : (up K W B F D).Le (up K W B F' D) := ⟨upSl_mono e fun _ _ z => z, upV_mono e fun _ _ z => z, upSl_mono e fun _ _ z => z, upSl_mono e fun _ _ z => z⟩
theorem DD.Le.refl (D : DD Ω) : D.Le D := ⟨fun _ _ z => z, fun _ _ z => z, fun _ _ z => z, fun _ _ z => z⟩
end

section
variable {Ω : Type}
def wNext : DS Ω := fun D sl w => D.nx sl w
def wBrk : DS Ω := fun D sl w => D.bk sl w
def wCnt : DS Ω := fun D sl w => D.ct sl w
def wSeq (p q : DS Ω) : DS Ω := fun D sl w => p { D with nx := q D } sl w
def wRet (p : DE Ω) : DS Ω := fun D sl w => p sl w fun d fl w' => fl = .cl ∧ D.rt d w'
def wRetN : DS Ω := fun D _ w => D.rt .non w
def wSet (i : Nat) (p : DE Ω) : DS Ω := fun D sl w => p sl w fun d fl w' => fl = .cl ∧ D.nx (sl.set i (some (.dat d))) w'
def wOwn (i : Nat) (p : DL Ω) : DS Ω := fun D sl w => p sl w fun l w' => D.nx (sl.set i (some (.own l))) w'
def wDrop (p : DE Ω) : DS Ω := fun D sl w => p sl w fun _ _ w' => D.nx sl w'
def setAll : List Nat → List Dt → Sl → Option Sl
  | [], [], sl => some sl
  | i :: is, d :: ds, sl => setAll is ds (sl.set i (some (.dat d)))
  | _, _, _ => none
/-- a target: names, or a tuple of names -/
inductive Tg where
  | one (i : Nat) | many (is : List Nat) | two (i : Nat) (is : List Nat)
def bindTg : Tg → Dt → Sl → Option Sl
  | .one i, d, sl => some (sl.set i (some (.dat d)))
  | .many is, .tup ds, sl => setAll is ds sl
  | .many _, _, _ => none
  | .two i is, .tup [d, .tup ds], sl => setAll is ds (sl.set i (some (.dat d)))
  | .two _ _, _, _ => none
def wUnp (is : List Nat) (p : DE Ω) : DS Ω := fun D sl w => p sl w fun d fl w' => fl = .cl ∧ ∃ sl', bindTg (.many is) d sl = some sl' ∧ D.nx sl' w'
def wPar (i j : Nat) (p : DL Ω) : DS Ω := fun D sl w => p sl w fun ds w' => ∃ d e, ds = [d, e] ∧ D.nx ((sl.set i (some (.dat d))).set j (some (.dat e))) w'
def wIfS (t : DT Ω) (p q : DS Ω) : DS Ω := fun D sl w => t sl w fun b w' => if b = true then p D sl w' else q D sl w'
def wApp (i : Nat) (p : DE Ω) : DS Ω := fun D sl w => ∃ l, sl[i]? = some (some (.own l)) ∧ l.length < sizeLine ∧ p sl w fun d fl w' => fl = .cl ∧ D.nx (sl.set i (some (.own (l ++ [d])))) w'
def wExt (i : Nat) (p : DL Ω) : DS Ω := fun D sl w => ∃ l, sl[i]? = some (some (.own l)) ∧ p sl w fun r w' => l.length + r.length ≤ sizeLine ∧ D.nx (sl.set i (some (.own (l ++ r)))) w'
def wSetIx (i : Nat) (p pi : DE Ω) : DS Ω := fun D sl w => ∃ l, sl[i]? = some (some (.own l)) ∧ p sl w fun d fl w1 => fl = .cl ∧ pi sl w1 fun k _ w2 => ∃ n j, k = .int n ∧ ixN l.length n = some j ∧ D.nx (sl.set i (some (.own (l.set j d)))) w2
/-- x += n, x -= n, ints -/
def wAug (f : Int → Int → Int) (i : Nat) (p : DE Ω) : DS Ω := fun D sl w => ∃ a, sl[i]? = some (some (.dat (.int a))) ∧ p sl w fun d _ w' => ∃ b, d = .int b ∧ D.nx (sl.set i (some (.dat (.int (f a b))))) w'
/-- the list of the slot i is changed no more -/
def wFrz (i : Nat) (q : DS Ω) : DS Ω := fun D sl w => match sl[i]? with
  | some (some (.mine (.lst l))) => q D (sl.set i (some (.dat (.lst l)))) w
  | _ => q D sl w
/-- one turn after another -/
def wLoop (tg : Tg) (body : DS Ω) (D : DD Ω) : List Dt → Sl → Ω → Prop
  | [], sl, w => D.nx sl w
  | x :: xs, sl, w => ∃ sl', bindTg tg x sl = some sl' ∧ body { nx := wLoop tg body D xs, ct := wLoop tg body D xs, bk := D.nx, rt := D.rt } sl' w
abbrev DI (Ω : Type) := Sl → Ω → (List Dt → Ω → Prop) → Prop
def wFor (tg : Tg) (pi : DI Ω) (body : DS Ω) : DS Ω := fun D sl w => pi sl w fun xs w' => wLoop tg body D xs sl w'
def wWhile (t : DT Ω) (body : DS Ω) : DS Ω := fun D sl w => ∃ I : Nat → Sl → Ω → Prop, (∃ n, I n sl w) ∧ ∀ n sl w, I n sl w → t sl w fun b w' =>
  if b = true then body { D with nx := fun sl' w' => ∃ m, m < n ∧ I m sl' w', ct := fun sl' w' => ∃ m, m < n ∧ I m sl' w', bk := D.nx } sl w' else D.nx sl w'
end

section
variable {Ω : Type} {X : Cx} {W : Wd Ω} {e : Expr} {es : List Expr} {st : Stmt} {rest : List Stmt} {p q : DS Ω} {pe pi : DE Ω} {pl : DL Ω} {pos : Pos} {t : DT Ω}
theorem db_nil : PDB X W [] (wNext : DS Ω) := ⟨pss_imp pss_nil fun D σ H ⟨B, F, G, w, sl, r, z⟩ => z σ F G H r (Same.refl F), fun D D' l sl w z => l.nx _ _ z⟩
theorem db_one (h : PDS X W st p) : PDB X W [st] p := ⟨pss_one h.run, h.mono⟩
theorem db_cons (h : PDS X W st p) (h2 : PDB X W rest q) : PDB X W (st :: rest) (wSeq p q) := by
  refine ⟨pss_imp (pss_cons h.run h2.run) fun D σ H ⟨B, F, G, w, sl, r, z⟩ => ?_, fun D D' l sl w z => h.mono { D with nx := q D } { D' with nx := q D' } ⟨fun sl w => h2.mono _ _ l sl w, l.rt, l.bk, l.ct⟩ _ _ z⟩
  refine ⟨B, F, G, w, sl, r, ?_⟩
  refine h.mono _ _ ?_ _ _ z
  exact ⟨fun sl' w' z' σ' F' G' H' r' e' => ⟨B, F', G', w', sl', r', h2.mono _ _ (up_le e') _ _ z'⟩, fun _ _ z => z, fun _ _ z => z, fun _ _ z => z⟩
theorem ds_ret (h : PD X W e pe) : PDS X W (.Return (some e) pos) (wRet pe) := by
  refine ⟨ps_imp (ps_ret h.run) fun D σ H ⟨B, F, G, w, sl, r, z⟩ => ?_, fun D D' l sl w z => h.mono _ _ _ _ (fun d fl w1 z => ⟨z.1, l.rt _ _ z.2⟩) z⟩
  refine ⟨B, F, G, w, sl, r, h.mono _ _ _ _ (fun d fl w1 z v F1 G1 H1 r1 e1 f1 => ?_) z⟩
  obtain ⟨rfl, z⟩ := z
  exact z v F1 G1 H1 r1.hr e1 f1
theorem imp_set {i : Nat} {te : TE} (h : ∀ σ H Q, lft X.K W pe σ H Q → te σ H Q) (hm : ∀ sl w (C C' : Dt → Fl → Ω → Prop), (∀ d fl w', C d fl w' → C' d fl w') → pe sl w C → pe sl w C') : ∀ D σ H, lftS X.K W (wSet i pe) D σ H → tAsg te (gName i) D σ H := by
  intro D σ H ⟨B, F, G, w, sl, r, z⟩
  refine h σ H _ ⟨B, F, G, w, sl, r, hm _ _ _ _ (fun d fl w1 z v F1 G1 H1 r1 e1 f1 => ?_) z⟩
  obtain ⟨rfl, z⟩ := z
  exact z _ F1 G1 H1 (r1.dat i f1) e1
theorem mono_set {i : Nat} (hm : ∀ sl w (C C' : Dt → Fl → Ω → Prop), (∀ d fl w', C d fl w' → C' d fl w') → pe sl w C → pe sl w C') : ∀ (D D' : DD Ω), D.Le D' → ∀ sl w, wSet i pe D sl w → wSet i pe D' sl w := fun D D' l sl w z => hm _ _ _ _ (fun d fl w1 z => ⟨z.1, l.nx _ _ z.2⟩) z
theorem ds_set {i : Nat} {x : Str} {pos' : Pos} (hN : X.N.Nodup) (hi : X.N[i]? = some x) (hx : Loc X.env.scope x) (h : PD X W e pe) (hs : swapsWith e (some (.Name x pos')) pos.line X.env = pure false := by rfl)
    (hf : X.fn x = true ∨ X.env.scope.names.lookup x = some .local := by first | exact .inl rfl | exact .inr rfl | assumption) : PDS X W (.Assign [.Name x pos'] e pos) (wSet i pe) :=
  ⟨ps_imp (ps_set hN hi hx h.run hs hf) (imp_set (fun _ _ _ z => z) h.mono), mono_set h.mono⟩
theorem imp_own {i : Nat} {te : TE} (h : ∀ σ H Q, lftL X.K W pl σ H Q → te σ H Q) (hm : ∀ sl w (C C' : List Dt → Ω → Prop), (∀ d w', C d w' → C' d w') → pl sl w C → pl sl w C') : ∀ D σ H, lftS X.K W (wOwn i pl) D σ H → tAsg te (gName i) D σ H := by
  intro D σ H ⟨B, F, G, w, sl, r, z⟩
  refine h σ H _ ⟨B, F, G, w, sl, r, hm _ _ _ _ (fun l w1 z a vs F1 G1 H1 r1 e1 hB hn hH hF hG hD => ?_) z⟩
  exact z _ F1 G1 H1 (r1.ownSet i hB hF hG hH hD fun j m h1 _ => hn j m h1) e1
theorem mono_own {i : Nat} (hm : ∀ sl w (C C' : List Dt → Ω → Prop), (∀ d w', C d w' → C' d w') → pl sl w C → pl sl w C') : ∀ (D D' : DD Ω), D.Le D' → ∀ sl w, wOwn i pl D sl w → wOwn i pl D' sl w := fun D D' l sl w z => hm _ _ _ _ (fun d w1 z => l.nx _ _ z) z
theorem ds_own {i : Nat} {x : Str} {pos' : Pos} (hN : X.N.Nodup) (hi : X.N[i]? = some x) (hx : Loc X.env.scope x) (h : PDL X W e pl) (hs : swapsWith e (some (.Name x pos')) pos.line X.env = pure false := by rfl)
    (hf : X.fn x = true ∨ X.env.scope.names.lookup x = some .local := by first | exact .inl rfl | exact .inr rfl | assumption) : PDS X W (.Assign [.Name x pos'] e pos) (wOwn i pl) :=
  ⟨ps_imp (ps_set hN hi hx h.run hs hf) (imp_own (fun _ _ _ z => z) h.mono), mono_own h.mono⟩
/-! ### targets -/
/-- a target's store, said over data -/
structure PGD (X : Cx) (tg : Expr) (g : TG) (t : Tg) : Prop where
  pg : PG X tg g
  run : ∀ {Ω : Type} {W : Wd Ω} {B F G H : Hp} {w : Ω} {σ : L2.St} {sl sl' : Sl} {v : V} {d : Dt} {Q : L2.St → Hp → Prop}, SR X.K W B F G H w σ sl → Dr X.K F v d → bindTg t d sl = some sl' →
    (∀ σ', SR X.K W B F G H w σ' sl' → (∀ vs : List Nat, (∀ i ∈ (match t with | .one i => [i] | .many is => is | .two i is => i :: is), i ∈ vs) → wipe σ' vs = wipe σ vs) → Q σ' H) → g v σ H Q
theorem wipe_set {σ : L2.St} {i : Nat} {x : Option V} : ∀ {vs : List Nat}, i ∈ vs → wipe (σ.set i x) vs = wipe σ vs
  | v :: vs, h => by
    unfold wipe
    by_cases e : i ∈ vs
    · rw [wipe_set e]
    · have ev : i = v := by
        rcases List.mem_cons.mp h with z | z
        · exact z
        · exact absurd z e
      subst ev
      have : ∀ us : List Nat, i ∉ us → wipe (σ.set i x) us = (wipe σ us).set i x := by
        intro us
        induction us with
        | nil => intro _; rfl
        | cons u us ih =>
          intro hu
          unfold wipe
          rw [ih fun z => hu (List.mem_cons_of_mem _ z), List.set_comm _ _ fun z => hu (by rw [z]; exact List.mem_cons_self)]
      rw [this vs e, List.set_set]
theorem tg_one {x : Str} {i : Nat} {p : Pos} (hN : X.N.Nodup) (hi : X.N[i]? = some x) (hx : Loc X.env.scope x) (hf : X.fn x = true ∨ X.env.scope.names.lookup x = some .local := by first | exact .inl rfl | exact .inr rfl | assumption) : PGD X (.Name x p) (gName i) (.one i) :=
  ⟨pg_name hN hi hx hf, fun r k e h => by
    simp only [bindTg, Option.some.injEq] at e
    subst e
    exact h _ (r.dat i k) fun vs hv => wipe_set (hv i (by simp))⟩
structure PGsD (X : Cx) (ts : List Expr) (g : TGs) (is : List Nat) : Prop where
  pg : PGs X ts g
  run : ∀ {Ω : Type} {W : Wd Ω} {B F G H : Hp} {w : Ω} {σ : L2.St} {sl sl' : Sl} {us : List V} {ds : List Dt} {Q : L2.St → Hp → Prop}, SR X.K W B F G H w σ sl → DrL X.K F us ds → setAll is ds sl = some sl' →
    (∀ σ', SR X.K W B F G H w σ' sl' → (∀ vs : List Nat, (∀ i ∈ is, i ∈ vs) → wipe σ' vs = wipe σ vs) → Q σ' H) → g us σ H Q
theorem tgs_nil : PGsD X [] gNil [] := ⟨pgs_nil, fun {Ω W B F G H w σ sl sl' us ds Q} r k e h => by
  cases k with
  | nil =>
    simp only [setAll, Option.some.injEq] at e
    subst e
    exact ⟨rfl, h σ r fun _ _ => rfl⟩
  | cons _ _ => simp [setAll] at e⟩
theorem tgs_cons {x : Str} {i : Nat} {p : Pos} {es : List Expr} {u : TGs} {is : List Nat} (hN : X.N.Nodup) (hi : X.N[i]? = some x) (hx : Loc X.env.scope x) (h2 : PGsD X es u is)
    (hf : X.fn x = true ∨ X.env.scope.names.lookup x = some .local := by first | exact .inl rfl | exact .inr rfl | assumption)
    (hs : (assignEach (Expr.Name x p :: es) X.env).map (·.2) = assign (Expr.Name x p) X.env :: (assignEach es X.env).map (·.2) := by rfl) : PGsD X (.Name x p :: es) (gCons (gName i) u) (i :: is) :=
  ⟨pgs_cons (pg_name hN hi hx hf) h2.pg hs, fun {Ω W B F G H w σ sl sl' us ds Q} r k e h => by
    cases k with
    | nil => simp [setAll] at e
    | cons k1 k2 =>
      simp only [setAll] at e
      exact ⟨_, _, rfl, h2.run (r.dat i k1) k2 e fun σ' r' hw => h σ' r' fun vs hv => (hw vs fun j hj => hv j (List.mem_cons_of_mem _ hj)).trans (wipe_set (hv i List.mem_cons_self))⟩⟩
theorem tg_many {es : List Expr} {k n : Nat} {t : TGs} {is : List Nat} {p : Pos} (hc : X.calm = true) (h : PGsD X es t is) (hl : is.length = n) (hn : (assignEach es X.env).length = n := by rfl)
    (hst : (assignEach es X.env).findIdx? (·.1) = none := by rfl) : PGD X (.Tuple es k p) (gTup X.K n t) (.many is) :=
  ⟨pg_tup hc h.pg hn hst, fun {Ω W B F G H w σ sl sl' v d Q} r kd e q => by
    cases d with
    | tup ds =>
      cases kd with
      | tup hs hd =>
        have e2 : setAll is ds sl = some sl' := e
        have hlen : ∀ (is : List Nat) (ds : List Dt) (sl sl' : Sl), setAll is ds sl = some sl' → is.length = ds.length := by
          intro is
          induction is with
          | nil => intro ds sl sl' z; cases ds with
            | nil => rfl
            | cons _ _ => simp [setAll] at z
          | cons i is ih => intro ds sl sl' z; cases ds with
            | nil => simp [setAll] at z
            | cons d ds => simp only [setAll] at z; simp [ih _ _ _ z]
        exact ⟨_, _, rfl, sameSeqT r.hr.f (SqT.of hs), by rw [hd.len, ← hlen _ _ _ _ e2, hl], h.run r hd e2 q⟩
      | tupK hs hd _ =>
        have e2 : setAll is ds sl = some sl' := e
        have hlen : ∀ (is : List Nat) (ds : List Dt) (sl sl' : Sl), setAll is ds sl = some sl' → is.length = ds.length := by
          intro is
          induction is with
          | nil => intro ds sl sl' z; cases ds with
            | nil => rfl
            | cons _ _ => simp [setAll] at z
          | cons i is ih => intro ds sl sl' z; cases ds with
            | nil => simp [setAll] at z
            | cons d ds => simp only [setAll] at z; simp [ih _ _ _ z]
        exact ⟨_, _, rfl, sameSeqT r.hr.f hs.t, by rw [hd.len, ← hlen _ _ _ _ e2, hl], h.run r hd e2 q⟩
    | _ => simp [bindTg] at e⟩
theorem bindTg_two {i : Nat} {is : List Nat} {d : Dt} {sl sl' : Sl} (h : bindTg (.two i is) d sl = some sl') : ∃ d1 ds, d = .tup [d1, .tup ds] ∧ setAll is ds (sl.set i (some (.dat d1))) = some sl' := by
  cases d with
  | tup l =>
    rcases l with _ | ⟨a, _ | ⟨b, _ | ⟨c, l⟩⟩⟩
    · cases h
    · cases h
    · cases b <;> first | exact ⟨_, _, rfl, h⟩ | cases h
    · cases b <;> cases h
  | _ => cases h
theorem tg_two {x : Str} {i : Nat} {p p2 : Pos} {t2 : Expr} {g2 : TG} {is : List Nat} {k2 : Nat} (hc : X.calm = true) (hN : X.N.Nodup) (hi : X.N[i]? = some x) (hx : Loc X.env.scope x) (h : PGD X t2 g2 (.many is))
    (hf : X.fn x = true ∨ X.env.scope.names.lookup x = some .local := by first | exact .inl rfl | exact .inr rfl | assumption)
    (hs : (assignEach [Expr.Name x p, t2] X.env).map (·.2) = assign (Expr.Name x p) X.env :: (assignEach [t2] X.env).map (·.2) := by rfl)
    (hs2 : (assignEach [t2] X.env).map (·.2) = assign t2 X.env :: (assignEach [] X.env).map (·.2) := by rfl) (hn : (assignEach [Expr.Name x p, t2] X.env).length = 2 := by rfl)
    (hst : (assignEach [Expr.Name x p, t2] X.env).findIdx? (·.1) = none := by rfl) : PGD X (.Tuple [.Name x p, t2] k2 p2) (gTup X.K 2 (gCons (gName i) (gCons g2 gNil))) (.two i is) :=
  ⟨pg_tup hc (pgs_cons (pg_name hN hi hx hf) (pgs_cons h.pg pgs_nil hs2) hs) hn hst, fun {Ω W B F G H w σ sl sl' v d Q} r kd e q => by
    have fin : ∀ {a : Addr} {vs : List V} {d1 : Dt} {ds : List Dt}, SqT X.K F a vs → DrL X.K F vs [d1, .tup ds] → setAll is ds (sl.set i (some (.dat d1))) = some sl' → gTup X.K 2 (gCons (gName i) (gCons g2 gNil)) (.ref a) σ H Q := fun {a vs d1 ds} hs hd e2 => by
      cases hd with
      | cons k1 k2 =>
        cases k2 with
        | cons k3 k4 =>
          cases k4
          refine ⟨_, _, rfl, sameSeqT r.hr.f hs, rfl, _, _, rfl, _, _, rfl, h.run (r.dat i k1) k3 e2 fun σ' r' hw => ⟨rfl, q σ' r' fun vs hv => ?_⟩⟩
          exact (hw vs fun j hj => hv j (List.mem_cons_of_mem _ hj)).trans (wipe_set (hv i List.mem_cons_self))
    obtain ⟨d1, ds, rfl, e2⟩ := bindTg_two e
    cases kd with
    | tup hs hd => exact fin (SqT.of hs) hd e2
    | tupK hs hd _ => exact fin hs.t hd e2⟩
theorem ds_unp {es : List Expr} {k n : Nat} {t : TGs} {is : List Nat} {p : Pos} (hc : X.calm = true) (h : PD X W e pe) (hg : PGsD X es t is) (hl : is.length = n) (hn : (assignEach es X.env).length = n := by rfl)
    (hst : (assignEach es X.env).findIdx? (·.1) = none := by rfl) (hs : swapsWithSole [.Tuple es k p] e pos.line X.env = pure false := by rfl) (hw : swappedStores [.Tuple es k p] e X.env = pure none := by rfl)
    (h1 : (assignEach [.Tuple es k p] X.env).map (·.2) = [assign (.Tuple es k p) X.env] := by rfl) : PDS X W (.Assign [.Tuple es k p] e pos) (wUnp is pe) := by
  have T := tg_many (k := k) (p := p) hc hg hl hn hst
  refine ⟨ps_imp (ps_asg h.run T.pg hs hw h1) fun D σ H ⟨B, F, G, w, sl, r, z⟩ => ?_, fun D D' l sl w z => h.mono _ _ _ _ (fun d fl w1 ⟨z0, sl', z1, z2⟩ => ⟨z0, sl', z1, l.nx _ _ z2⟩) z⟩
  refine ⟨B, F, G, w, sl, r, h.mono _ _ _ _ (fun d fl w1 ⟨z0, sl', z1, z2⟩ v F1 G1 H1 r1 e1 f1 => ?_) z⟩
  subst z0
  exact T.run r1 f1 z1 fun σ' r' _ => z2 σ' F1 G1 H1 r' e1
theorem ds_par {i j : Nat} {x y : Str} {a b : Expr} {px py pt : Pos} {kt k2 pt2} (hc : X.calm = true) (hN : X.N.Nodup) (hi : X.N[i]? = some x) (hj : X.N[j]? = some y) (hij : i ≠ j) (hx : X.env.scope.names.lookup x = some .local) (hy : X.env.scope.names.lookup y = some .local)
    (ha : PDA X W [a, b] pl) (hw : swappedStores [.Tuple [.Name x px, .Name y py] kt pt] (.Tuple [a, b] k2 pt2) X.env = pure (some [x, y]))
    (hs : ∀ {t : TA}, PA X [a, b] t → PS X (.Assign [.Tuple [.Name x px, .Name y py] kt pt] (.Tuple [a, b] k2 pt2) pos) (tPar i j t)) : PDS X W (.Assign [.Tuple [.Name x px, .Name y py] kt pt] (.Tuple [a, b] k2 pt2) pos) (wPar i j pl) := by
  refine ⟨ps_imp (hs ha.run) fun D σ H ⟨B, F, G, w, sl, r, z⟩ => ?_, fun D D' l sl w z => ha.mono _ _ _ _ (fun ds w1 ⟨d, e, z1, z2⟩ => ⟨d, e, z1, l.nx _ _ z2⟩) z⟩
  refine ⟨B, F, G, w, sl, r, ha.mono _ _ _ _ (fun ds w1 ⟨d, e, z1, z2⟩ vs F1 G1 H1 r1 e1 f1 => ?_) z⟩
  subst z1
  cases f1 with
  | cons f1 f2 =>
    cases f2 with
    | cons f2 f3 =>
      cases f3
      exact ⟨_, _, rfl, z2 _ F1 G1 H1 ((r1.dat i f1).dat j f2) e1⟩

/-! ### if, changes of own lists -/
theorem ds_if {c : Expr} {a b : List Stmt} (hc : PDT X W c t) (ha : PDB X W a p) (hb : PDB X W b q) : PDS X W (.If c a b pos) (wIfS t p q) := by
  refine ⟨ps_imp (ps_if hc.run ha.run hb.run) fun D σ H ⟨B, F, G, w, sl, r, z⟩ => ?_, fun D D' l sl w z => hc.mono _ _ _ _ (fun b w1 z => ?_) z⟩
  · refine ⟨B, F, G, w, sl, r, hc.mono _ _ _ _ (fun c w1 z F1 G1 H1 r1 e1 => ?_) z⟩
    cases c with
    | true => exact ⟨B, F1, G1, w1, sl, r1, ha.mono _ _ (up_le e1) _ _ z⟩
    | false => exact ⟨B, F1, G1, w1, sl, r1, hb.mono _ _ (up_le e1) _ _ z⟩
  · cases b with
    | true => exact ha.mono _ _ l _ _ z
    | false => exact hb.mono _ _ l _ _ z
theorem SR.getOwn {K : PySem.W.Frag} {B F G H : Hp} {w : Ω} {σ : L2.St} {sl : Sl} {i : Nat} {l : List Dt} (r : SR K W B F G H w σ sl) (h : sl[i]? = some (some (.own l))) : ∃ a vs, σ[i]? = some (some (.ref a)) ∧ B a = none ∧ F a = none ∧ G a = none ∧ H a = some (.lst vs) ∧ DrL K F vs l := by
  obtain ⟨v, h1, a, ob, rfl, h2, h3, h4, h5, h6⟩ := r.s i _ h
  obtain ⟨vs, rfl, h7⟩ := h6.asLst
  exact ⟨a, vs, h1, h2, h3, h4, h5, h7⟩
/-- the own list at slot i becomes another one -/
theorem SR.ownChg {K : PySem.W.Frag} {B F G H : Hp} {w : Ω} {σ : L2.St} {sl : Sl} {i : Nat} {l m : List Dt} {a : Addr} {us : List V} (r : SR K W B F G H w σ sl) (h : sl[i]? = some (some (.own l))) (hs : σ[i]? = some (some (.ref a))) (hm : DrL K F us m) :
    SR K W B F G (upd H a (.lst us)) w σ (sl.set i (some (.own m))) := by
  obtain ⟨a', vs, h1, hB, hF, hG, hH, hD⟩ := r.getOwn h
  rw [hs] at h1
  cases h1
  have hil : i < sl.length := (List.getElem?_eq_some_iff.mp h).1
  have get : ∀ (j : Nat) (x : Sv), (sl.set i (some (.own m)))[j]? = some (some x) → (j = i ∧ x = .own m) ∨ (j ≠ i ∧ sl[j]? = some (some x)) := fun j x z => by
    rw [List.getElem?_set] at z
    by_cases e : i = j
    · rw [if_pos e, if_pos hil] at z
      cases z
      exact .inl ⟨e.symm, rfl⟩
    · rw [if_neg e] at z
      exact .inr ⟨fun q => e q.symm, z⟩
  refine ⟨r.hr.chg hB hF hG, by rw [List.length_set]; exact r.len, fun j x z => ?_, fun j k v l1 l2 z1 z2 z3 z4 => ?_⟩
  · rcases get j x z with ⟨rfl, rfl⟩ | ⟨hne, z⟩
    · exact ⟨_, hs, a, _, rfl, hB, hF, hG, upd_same, .lst hm⟩
    · obtain ⟨v, k1, k2⟩ := r.s j x z
      refine ⟨v, k1, ?_⟩
      cases x with
      | dat d => exact k2
      | mine l' =>
        obtain ⟨c, ws, rfl, q1, q2, q3, q4, q5⟩ := k2
        refine ⟨c, ws, rfl, q1, q2, q3, ?_, q5⟩
        have hca : c ≠ a := fun z' => by
          subst z'
          exact hne (r.o j i _ l' _ z h k1 hs)
        rw [upd_ne hca]
        exact q4
  · have own_of : ∀ (j : Nat) (l1 : Ow), (sl.set i (some (.own m)))[j]? = some (some (.mine l1)) → ∃ l2, sl[j]? = some (some (.mine l2)) := fun j l1 z => by
      rcases get j _ z with ⟨rfl, _⟩ | ⟨_, z⟩
      · exact ⟨_, h⟩
      · exact ⟨l1, z⟩
    obtain ⟨m1, y1⟩ := own_of j l1 z1
    obtain ⟨m2, y2⟩ := own_of k l2 z2
    exact r.o j k v m1 m2 y1 y2 z3 z4
theorem ds_app {x name : Str} {i : Nat} {p apos cpos : Pos} (ho : PE X (.Name x p) (tVar i)) (h : PD X W e pe) (hb : ∀ {t : TA}, PA X [e] t → PE X (.Call (.Attribute (.Name x p) name apos) [e] [] cpos) (tBM X.K "list" rAppend (tVar i) t))
    (hs1 : starEach (e :: []) X.env = (false, eval e X.env) :: starEach [] X.env := by rfl) (hs : swapsWith (.Call (.Attribute (.Name x p) name apos) [e] [] cpos) none pos.line X.env = pure false := by rfl) :
    PDS X W (.Expr (.Call (.Attribute (.Name x p) name apos) [e] [] cpos) pos) (wApp i pe) := by
  refine ⟨ps_imp (ps_expr (hb (pa_cons h.run pa_nil hs1)) hs) fun D σ H ⟨B, F, G, w, sl, r, l, hl, hz, z⟩ => ?_, fun D D' l sl w ⟨m, z1, z2, z⟩ => ⟨m, z1, z2, h.mono _ _ _ _ (fun d fl w1 ⟨z0, z3⟩ => ⟨z0, l.nx _ _ z3⟩) z⟩⟩
  obtain ⟨a, vs, q1, q2, q3, q4, q5, q6⟩ := r.getOwn hl
  refine ⟨.ref a, q1, .inl ⟨rfl, vs, .of q5⟩, B, F, G, w, sl, r, h.mono _ _ _ _ (fun d fl w1 ⟨z0, z3⟩ v F1 G1 H1 r1 e1 f1 => ?_) z⟩
  subst z0
  obtain ⟨a', vs', p1, p2, p3, p4, p5, p6⟩ := r1.getOwn hl
  rw [q1] at p1
  cases p1
  refine ⟨a, vs', v, rfl, rfl, p5, by rw [p6.len]; exact hz, ?_⟩
  exact z3 σ F1 G1 _ (r1.ownChg hl q1 (p6.app (.cons f1 .nil))) e1
theorem ds_ext {x name : Str} {i : Nat} {p apos cpos : Pos} (ho : PE X (.Name x p) (tVar i)) (h : PDL X W e pl) (hb : ∀ {t : TA}, PA X [e] t → PE X (.Call (.Attribute (.Name x p) name apos) [e] [] cpos) (tBM X.K "list" rExtend (tVar i) t))
    (hs1 : starEach (e :: []) X.env = (false, eval e X.env) :: starEach [] X.env := by rfl) (hs : swapsWith (.Call (.Attribute (.Name x p) name apos) [e] [] cpos) none pos.line X.env = pure false := by rfl) :
    PDS X W (.Expr (.Call (.Attribute (.Name x p) name apos) [e] [] cpos) pos) (wExt i pl) := by
  refine ⟨ps_imp (ps_expr (hb (pa_cons h.run pa_nil hs1)) hs) fun D σ H ⟨B, F, G, w, sl, r, l, hl, z⟩ => ?_, fun D D' l sl w ⟨m, z1, z⟩ => ⟨m, z1, h.mono _ _ _ _ (fun d w1 ⟨z0, z3⟩ => ⟨z0, l.nx _ _ z3⟩) z⟩⟩
  obtain ⟨a, vs, q1, q2, q3, q4, q5, q6⟩ := r.getOwn hl
  refine ⟨.ref a, q1, .inl ⟨rfl, vs, .of q5⟩, B, F, G, w, sl, r, h.mono _ _ _ _ (fun m w1 ⟨z0, z3⟩ b us F1 G1 H1 r1 e1 hB hn hH hF hG hD => ?_) z⟩
  obtain ⟨a', vs', p1, p2, p3, p4, p5, p6⟩ := r1.getOwn hl
  rw [q1] at p1
  cases p1
  refine ⟨a, b, vs', us, rfl, rfl, p5, hH, by rw [p6.len, hD.len]; exact z0, ?_⟩
  exact z3 σ F1 G1 _ (r1.ownChg hl q1 (p6.app hD)) e1
/-- xs[n] = e, xs one's own list at the slot i -/
theorem ds_setIx {x : Str} {i : Nat} {p spos : Pos} {o ie : Expr} (ho : PE X (.Name x p) (tVar i)) (h : PD X W e pe) (hi : PD X W ie pi)
    (ha : ∀ v, assign (.Subscript (.Name x p) ie spos) X.env v = (do
      let ov ← holding [v] (eval (.Name x p) X.env)
      let iv ← holding [v, ov] (eval ie X.env)
      standAt spos
      holding [v, ov, iv] (setItem ov iv v)
      release [v, ov, iv] []) := by intro _; rfl)
    (hs : swapsWithSole [.Subscript (.Name x p) ie spos] e pos.line X.env = pure false := by rfl) (hw : swappedStores [.Subscript (.Name x p) ie spos] e X.env = pure none := by rfl)
    (h1 : (assignEach [.Subscript (.Name x p) ie spos] X.env).map (·.2) = [assign (.Subscript (.Name x p) ie spos) X.env] := by rfl) : PDS X W (.Assign [.Subscript (.Name x p) ie spos] e pos) (wSetIx i pe pi) := by
  refine ⟨ps_imp (ps_asg h.run (pg_sub ho hi.run set_list ha) hs hw h1) fun D σ H ⟨B, F, G, w, sl, r, m, hl, z⟩ => ?_, fun D D' l sl w ⟨m, z1, z⟩ => ⟨m, z1, h.mono _ _ _ _ (fun d fl w1 ⟨z0, z⟩ => ⟨z0, hi.mono _ _ _ _ (fun k _ w2 ⟨n, j, a2, a3, a4⟩ => ⟨n, j, a2, a3, l.nx _ _ a4⟩) z⟩) z⟩⟩
  obtain ⟨a, vs, q1, q2, q3, q4, q5, q6⟩ := r.getOwn hl
  refine ⟨B, F, G, w, sl, r, h.mono _ _ _ _ (fun d fl w1 ⟨z0, z⟩ v F1 G1 H1 r1 e1 f1 => ?_) z⟩
  subst z0
  refine ⟨.ref a, q1, B, F1, G1, w1, sl, r1, hi.mono _ _ _ _ (fun k fl w2 ⟨n, j, a2, a3, a4⟩ kv F2 G2 H2 r2 e2 f2 => ?_) z⟩
  subst a2
  obtain ⟨a', vs', p1, p2, p3, p4, p5, p6⟩ := r2.getOwn hl
  rw [q1] at p1
  cases p1
  have := (f2.da r2).int
  subst this
  refine ⟨a, vs', n, j, rfl, rfl, p5, by rw [p6.len]; exact a3, ?_⟩
  exact a4 σ F2 G2 _ (r2.ownChg hl q1 (p6.set j (Dr.mono e2 f1))) (e1.trans e2)
theorem SR.frzOwn {K : PySem.W.Frag} {B F G H : Hp} {w : Ω} {σ : L2.St} {sl : Sl} {i : Nat} {l : List Dt} (r : SR K W B F G H w σ sl) (h : sl[i]? = some (some (.own l))) : ∃ F', SR K W B F' G H w σ (sl.set i (some (.dat (.lst l)))) ∧ Same F F' := by
  obtain ⟨a, vs, q1, q2, q3, q4, q5, q6⟩ := r.getOwn h
  have e : Same F (upd F a (.lst vs)) := sameUpd q3
  have hil : i < sl.length := (List.getElem?_eq_some_iff.mp h).1
  have get : ∀ (j : Nat) (x : Sv), (sl.set i (some (.dat (.lst l))))[j]? = some (some x) → (j = i ∧ x = .dat (.lst l)) ∨ (j ≠ i ∧ sl[j]? = some (some x)) := fun j x z => by
    rw [List.getElem?_set] at z
    by_cases e : i = j
    · rw [if_pos e, if_pos hil] at z
      cases z
      exact .inl ⟨e.symm, rfl⟩
    · rw [if_neg e] at z
      exact .inr ⟨fun q => e q.symm, z⟩
  refine ⟨upd F a (.lst vs), ⟨r.hr.frz q2 q3 q4 q5, by rw [List.length_set]; exact r.len, fun j x z => ?_, fun j k v l1 l2 z1 z2 z3 z4 => ?_⟩, e⟩
  · rcases get j x z with ⟨rfl, rfl⟩ | ⟨hne, z⟩
    · exact ⟨_, q1, .lst upd_same (q6.mono e)⟩
    · obtain ⟨v, k1, k2⟩ := r.s j x z
      refine ⟨v, k1, ?_⟩
      cases x with
      | dat d => exact Dr.mono e k2
      | mine l' =>
        obtain ⟨c, ws, rfl, p1, p2, p3, p4, p5⟩ := k2
        have hca : c ≠ a := fun z' => by
          subst z'
          exact hne (r.o j i _ l' _ z h k1 q1)
        exact ⟨c, ws, rfl, p1, by rw [upd_ne hca]; exact p2, p3, p4, p5.mono e⟩
  · rcases get j _ z1 with ⟨rfl, y⟩ | ⟨_, y1⟩
    · cases y
    · rcases get k _ z2 with ⟨rfl, y⟩ | ⟨_, y2⟩
      · cases y
      · exact r.o j k v l1 l2 y1 y2 z3 z4
theorem db_frz {i : Nat} {sts : List Stmt} (h : PDB X W sts q) : PDB X W sts (wFrz i q) := by
  refine ⟨pss_imp h.run fun D σ H ⟨B, F, G, w, sl, r, z⟩ => ?_, fun D D' l sl w z => ?_⟩
  · unfold wFrz at z
    split at z
    · rename_i m hm
      obtain ⟨F', r', e⟩ := r.frzOwn hm
      exact ⟨B, F', G, w, _, r', h.mono _ _ (up_le e) _ _ z⟩
    · exact ⟨B, F, G, w, sl, r, z⟩
  · unfold wFrz at z ⊢
    split at z
    · exact h.mono _ _ l _ _ z
    · exact h.mono _ _ l _ _ z

/-! ### for -/
/-- what a for walks gives the items ds, one after the other, whatever is made meanwhile -/
structure YlOk (K : PySem.W.Frag) (F : Hp) (J : It) (ds : List Dt) : Prop where
  go : ∀ (F1 H1 : Hp), Same F F1 → Same F1 H1 → ∀ (i : Nat) (d : Dt), ds[i]? = some d → J.go i H1 ∧ ∀ x H', J.yld i H1 x H' → ∃ F', Ext K F1 H1 F' H' x d
  stop : ∀ (F1 H1 : Hp), Same F F1 → Same F1 H1 → J.stop ds.length H1
def lftI {Ω : Type} (K : PySem.W.Frag) (W : Wd Ω) (p : DI Ω) : TI := fun σ H R => ∃ B F G w sl, SR K W B F G H w σ sl ∧ p sl w fun ds w' => ∀ J F' G' H', SR K W B F' G' H' w' σ sl → Same F F' → YlOk K F' J ds → R J H'
structure PDI {Ω : Type} (X : Cx) (W : Wd Ω) (tg it : Expr) (p : DI Ω) : Prop where
  run : PI X tg it (lftI X.K W p)
  mono : ∀ sl w (C C' : List Dt → Ω → Prop), (∀ d w', C d w' → C' d w') → p sl w C → p sl w C'
theorem pi_imp {X : Cx} {tg it : Expr} {t t' : TI} (h : PI X tg it t) (i : ∀ σ H R, t' σ H R → t σ H R) : PI X tg it t' := ⟨fun pins s σ H R I q => h.run pins s σ H R I (i σ H R q)⟩
theorem wLoop_mono {tg : Tg} {body : DS Ω} (hb : ∀ (D D' : DD Ω), D.Le D' → ∀ sl w, body D sl w → body D' sl w) {D D' : DD Ω} (l : D.Le D') : ∀ (xs : List Dt) (sl : Sl) (w : Ω), wLoop tg body D xs sl w → wLoop tg body D' xs sl w
  | [], sl, w, z => l.nx _ _ z
  | x :: xs, sl, w, ⟨sl', h1, z⟩ => by
    refine ⟨sl', h1, ?_⟩
    refine hb _ _ ?_ _ _ z
    exact ⟨fun _ _ => wLoop_mono hb l xs _ _, l.rt, l.nx, fun _ _ => wLoop_mono hb l xs _ _⟩
theorem ds_for {tg : Tg} {tgE it : Expr} {g : TG} {body : List Stmt} {pit : DI Ω} (hp : PassesOwn (model X.prog X.w) X.A X.env X.xe) (hc : X.calm = true) (hi : PDI X W tgE it pit) (hg : PGD X tgE g tg) (hb : PDB X W body p)
    (hs : ∀ x, foldedSetIterable it X.env x = pure x := by intro _; rfl) : PDS X W (.For tgE it body [] pos) (wFor tg pit p) := by
  refine ⟨ps_imp (ps_for hp hc hi.run hg.pg hb.run hs) fun D σ H ⟨B, F, G, w, sl, r, z⟩ => ?_, fun D D' l sl w z => hi.mono _ _ _ _ (fun ds w1 => wLoop_mono hb.mono l _ _ _) z⟩
  refine ⟨B, F, G, w, sl, r, hi.mono _ _ _ _ (fun ds w1 z J F1 G1 H1 r1 e1 hy => ?_) z⟩
  refine ⟨fun i m σ' H' => m = ds.length - i ∧ i ≤ ds.length ∧ ∃ F' G' w' sl', SR X.K W B F' G' H' w' σ' sl' ∧ Same F1 F' ∧ wLoop tg p (up X.K W B F D) (ds.drop i) sl' w', ⟨ds.length, by simp, Nat.zero_le _, F1, G1, w1, sl, r1, Same.refl _, z⟩, ?_⟩
  rintro i m σ' H' ⟨rfl, hi', F', G', w', sl', r', e', z'⟩
  by_cases hlt : i < ds.length
  · right
    have hd : ds[i]? = some ds[i] := List.getElem?_eq_getElem hlt
    obtain ⟨g1, g2⟩ := hy.go F' H' e' r'.hr.f i _ hd
    have hdr : ds.drop i = ds[i] :: ds.drop (i + 1) := List.drop_eq_getElem_cons hlt
    rw [hdr] at z'
    obtain ⟨sl2, b1, b2⟩ := z'
    refine ⟨g1, fun σ2 H2 => ∃ F2 G2 w2 sl2, SR X.K W B F2 G2 H2 w2 σ2 sl2 ∧ Same F1 F2 ∧ wLoop tg p (up X.K W B F D) (ds.drop (i + 1)) sl2 w2, fun σ2 H2 ⟨F2, G2, w2, sl2, r2, e2, z2⟩ => ⟨ds.length - (i + 1), by omega, rfl, hlt, F2, G2, w2, sl2, r2, e2, z2⟩, fun x H2 y => ?_⟩
    obtain ⟨F2, ext⟩ := g2 x H2 y
    obtain ⟨r2, e2, k2⟩ := ext.use r'
    refine hg.run r2 k2 b1 fun σ3 r3 _ => ⟨B, F2, G', w', sl2, r3, hb.mono _ _ ⟨fun sl4 w4 z4 σ4 F4 G4 H4 r4 e4 => ?_, ?_, ?_, fun sl4 w4 z4 σ4 F4 G4 H4 r4 e4 => ?_⟩ _ _ b2⟩
    · exact ⟨F4, G4, w4, sl4, r4, (e'.trans e2).trans e4, z4⟩
    · exact upV_mono ((e1.trans e').trans e2) fun _ _ z => z
    · exact upSl_mono ((e1.trans e').trans e2) fun _ _ z => z
    · exact ⟨F4, G4, w4, sl4, r4, (e'.trans e2).trans e4, z4⟩
  · left
    have e : i = ds.length := by omega
    subst e
    rw [List.drop_length] at z'
    exact ⟨hy.stop F' H' e' r'.hr.f, z' σ' F' G' H' r' (e1.trans e')⟩
theorem ds_while {c : Expr} {body : List Stmt} (hp : PassesOwn (model X.prog X.w) X.A X.env X.xe) (hc : PDT X W c t) (hb : PDB X W body p) : PDS X W (.While c body [] pos) (wWhile t p) := by
  refine ⟨ps_imp (ps_while hp hc.run hb.run) fun D σ H ⟨B, F, G, w, sl, r, I, ⟨n, hn⟩, hI⟩ => ?_, fun D D' l sl w ⟨I, hn, hI⟩ => ⟨I, hn, fun n sl w hw => hc.mono _ _ _ _ (fun b w1 z => ?_) (hI n sl w hw)⟩⟩
  · refine ⟨fun m σ' H' => ∃ F' G' w' sl', SR X.K W B F' G' H' w' σ' sl' ∧ Same F F' ∧ I m sl' w', ⟨n, F, G, w, sl, r, Same.refl _, hn⟩, ?_⟩
    rintro m σ' H' ⟨F', G', w', sl', r', e', hm⟩
    refine ⟨B, F', G', w', sl', r', hc.mono _ _ _ _ (fun b w1 z F1 G1 H1 r1 e1 => ?_) (hI m sl' w' hm)⟩
    cases b with
    | false => exact z σ' F1 G1 H1 r1 (e'.trans e1)
    | true =>
      refine ⟨fun σ2 H2 => ∃ k, k < m ∧ ∃ F2 G2 w2 sl2, SR X.K W B F2 G2 H2 w2 σ2 sl2 ∧ Same F F2 ∧ I k sl2 w2, fun σ2 H2 ⟨k, hk, z2⟩ => ⟨k, hk, z2⟩, ?_⟩
      refine ⟨B, F1, G1, w1, sl', r1, ?_⟩
      refine hb.mono _ _ ?_ _ _ z
      refine ⟨fun sl3 w3 ⟨k, hk, z3⟩ σ3 F3 G3 H3 r3 e3 => ⟨k, hk, F3, G3, w3, sl3, r3, (e'.trans e1).trans e3, z3⟩, ?_, ?_, fun sl3 w3 ⟨k, hk, z3⟩ σ3 F3 G3 H3 r3 e3 => ⟨k, hk, F3, G3, w3, sl3, r3, (e'.trans e1).trans e3, z3⟩⟩
      · exact upV_mono (e'.trans e1) fun _ _ z => z
      · exact upSl_mono (e'.trans e1) fun _ _ z => z
  · cases b with
    | true =>
      refine hb.mono _ _ ?_ _ _ z
      exact ⟨fun _ _ z => z, l.rt, l.nx, fun _ _ z => z⟩
    | false => exact l.nx _ _ z
end
end Ck
namespace PySem
open Sem (wp)
open AutoSeq1 (wpAny_loadPart')
/-- enumerate(v), v anything that begins -/
theorem ck_meets_enum {v : Value} {ob : Obj} {Hh : Heap → Prop} (beg : Begins v ob Hh) :
    Meets (Builtin.«enumerate.__new__» ⟨[.type "enumerate", v], []⟩) (fun _ R s => Hh s.heap ∧
      R (.ok (.ret (.ref (s.heap.push ob).objs.size)))
        { s with heap := (s.heap.push ob).push ⟨.type "enumerate", none, .fields #[.none, .bool false, .ref s.heap.objs.size, rawInt 0, .none, .none], #[]⟩ }) := by
  refine .of_wp fun prog w A R s pre => ?_
  obtain ⟨hp, gg, dd, tt, oo⟩ := s
  have hsub := sub_enumerate
  have go : ∀ {A' : Around} {E Q : Value → Shared → Prop}, Q (.ref hp.objs.size) ⟨hp.push ob, gg, dd, tt, oo⟩ →
      wpAny (model prog w) A' (pyIter v) Q E ⟨hp, gg, dd, tt, oo⟩ := fun q => beg.iter prog w _ _ _ _ pre.1 q
  have fin := pre.2
  wp_walk using go
  refine wpAny_stack_any fun st => wpAny_pure ?_
  split
  next c _ _ _ _ _ => cases (c == Value.type "enumerate") <;> (wp_walk using go; exact ⟨_, rfl, fin⟩)
  next => wp_walk using go; exact ⟨_, rfl, fin⟩
section
variable {prog : Program} {w : World} {A : Around} {E : Value → Shared → Prop} {s : Shared}
theorem ck_enum_begins {v : Value} {ob : Obj} {Hh : Heap → Prop} {Q : Value → Shared → Prop} (beg : Begins v ob Hh) (h1 : Hh s.heap)
    (fin : ∀ h', IsEnum h' (s.heap.objs.size + 1) s.heap.objs.size 0 .none → h'.get? s.heap.objs.size = some ob → h'.objs.size = s.heap.objs.size + 2 →
      (∀ b o, s.heap.get? b = some o → h'.get? b = some o) → Q (.ref (s.heap.objs.size + 1)) { s with heap := h' }) : wpAny (model prog w) A (call (.type "enumerate") [v]) Q E s := by
  refine callType_new F.called_enumerate (by decide) (F.typeCall_enumerate_1 v) (F.newCall_enumerate_1 v) (fun obj => F.args_object_init_2 obj v) F.entry_enumerate_new (ck_meets_enum beg) ⟨h1, ?_⟩
  have sz : (s.heap.push ob).objs.size = s.heap.objs.size + 1 := Heap.size_push ..
  have at1 := Heap.get?_push_size (s.heap.push ob) (o := ⟨.type "enumerate", none, .fields #[.none, .bool false, .ref s.heap.objs.size, rawInt 0, .none, .none], #[]⟩) rfl
  show _ ∧ _
  rw [sz] at at1 ⊢
  refine ⟨⟨_, at1, rfl⟩, fin _ at1 (Heap.get?_push_of_some _ (Heap.get?_push_size _ beg.free)) ?_ fun b o x => ?_⟩
  · rw [Heap.size_push, sz]
  · exact Heap.get?_push_of_some _ (Heap.get?_push_of_some _ x)
end
end PySem
namespace Ck
open PySem PySem.Spec PyProof.Rows L2

/-! ### enumerate of a tuple -/
def IteT (K : PySem.W.Frag) (a : Addr) : It where
  go i H := ∃ (xs : List V) (x : V), SqT K H a xs ∧ xs[i]? = some x
  yld i H v H' := ∃ T x, v = .ref T ∧ H T = none ∧ H' = upd H T (.tup [.int (i : Nat), x]) ∧ ∀ xs, SqT K H a xs → xs[i]? = some x
  stop i H := ∃ xs : List V, SqT K H a xs ∧ xs.length = i
theorem turn_enumT {P : Program} {w : World} {K : PySem.W.Frag} {elts : List Expr} {kk : Nat} {tpos : Pos} (a e it : Addr) (hai : a ≠ it) (hae : a ≠ e) :
    Turn P w K (.Tuple elts kk tpos) (IteT K a) [e, it] e (fun i h => (∃ old, IsEnum h e it ((i : Nat) : Int) old) ∧ h.IsTupleIter it a i ∧ e ≠ it) where
  mem := List.mem_cons_self
  obj := by
    rintro i h ⟨⟨old, he⟩, ⟨o, ho, hc, hd⟩, _⟩ b hb
    rcases List.mem_cons.mp hb with rfl | hb
    · exact ⟨_, he, fun v q => nomatch q⟩
    · obtain rfl := List.mem_singleton.mp hb
      exact ⟨o, ho, fun v q => by rw [hd] at q; cases q⟩
  keep := by
    rintro i h h' ⟨⟨old, he⟩, hi, hne⟩ k
    exact ⟨⟨old, k e (by simp) _ he⟩, hi.at fun o q => k it (by simp) o q, hne⟩
  item := by
    intro X hP hw hK hc i pins s σ H E I hf st hg
    subst hP hw hK
    obtain ⟨⟨old, he⟩, hit, hne⟩ := st
    obtain ⟨xs, x, hq, hx⟩ := hg
    obtain ⟨its, rv, p, hz⟩ := I.tuple hq
    have p' : s.heap.IsTuple a its.toArray := p
    have hel : e < s.heap.objs.size := Heap.lt_size he
    have hil : it < s.heap.objs.size := by
      obtain ⟨_, q, _⟩ := hit
      exact Heap.lt_size q
    have hlen : i < its.toArray.size := by
      have h1 := (List.getElem?_eq_some_iff.mp hx).1
      have h2 := rv.length
      simp only [List.size_toArray]
      omega
    refine wpAny_pyNext_enum_itemD (Draws.tuple (A := X.A.in1) (I.ok.hd hc) it a hai its.toArray) he ⟨hit, p'⟩ hlen hne ?_ fun u h' tk hu ho hst hT hsz hk => ?_
    · simp only [List.mem_cons, List.not_mem_nil, or_false, not_or]
      exact ⟨hne, Ne.symm hae⟩
    obtain ⟨u', hu', ru⟩ := rv.get hx
    have eu : u' = u := by
      have : its.toArray[i]? = some u' := by simpa using hu'
      rw [hu] at this
      exact (Option.some.inj this).symm
    subst eu
    refine ⟨_, rfl, wpAny_letOwnedTupleGo_enum (s := { s with heap := h', toks := tk + 1 }) ho fun h'' he' sb => ?_⟩
    have hT2 : h''.get? s.heap.objs.size = some ⟨.type "tuple", none, .seq #[.int i tk, u'] 0, #[]⟩ := (sb.2 _ (Nat.ne_of_gt hel)).trans hT
    have fresh : H s.heap.objs.size = none := I.hok.fresh (Nat.le_refl _)
    have new : ObjOk X.prog X.w (upd H s.heap.objs.size (.tup [.int (i : Nat), x])) h'' s.heap.objs.size (.tup [.int (i : Nat), x]) := by
      refine ⟨by show 2 ≤ sizeLine; decide, [.int i tk, u'], .cons ⟨_, rfl⟩ (.cons ru .nil), ?_⟩
      exact ⟨_, hT2, rfl, _, rfl⟩
    have I1 : Inv X pins σ (upd H s.heap.objs.size (.tup [.int (i : Nat), x])) { s with heap := h'', toks := tk + 1 } := by
      refine I.turnedNew (ch := [e, it]) (fun b ob hb q => ?_) hf (Nat.le_refl _) new
      have n1 : b ≠ e := fun z => hb (by simp [z])
      have n2 : b ≠ it := fun z => hb (by simp [z])
      exact (sb.2 b n1).trans (hk b ob n1 n2 q)
    refine ⟨.ref s.heap.objs.size, _, I1, rfl, ⟨_, x, rfl, fresh, rfl, fun ys hy => ?_⟩, ⟨⟨u', ?_⟩, ?_, hne⟩, fun b hb => ?_⟩
    · rw [I.tuple_inj hy hq]
      exact hx
    · have e1 : ((i + 1 : Nat) : Int) = (i : Int) + 1 := by omega
      rw [e1]
      exact he'
    · exact hst.1.at fun o q => (sb.2 it (Ne.symm hne)).trans q
    · have hb' : b < s.heap.objs.size := by
        rcases List.mem_cons.mp hb with rfl | hb
        · exact hel
        · obtain rfl := List.mem_singleton.mp hb
          exact hil
      rw [upd_ne (Nat.ne_of_lt hb')]
      exact (hf b hb).1
  done := by
    intro X hP hw hK hc i pins s σ H E I hf st hg
    subst hP hw hK
    obtain ⟨⟨old, he⟩, hit, hne⟩ := st
    obtain ⟨xs, hq, hx⟩ := hg
    obtain ⟨its, rv, p, hz⟩ := I.tuple hq
    obtain ⟨f0, f1, f2, f3, f4, f5⟩ := hf it (by simp)
    have hl := rv.length
    have p' : s.heap.IsTuple a its.toArray := p
    have hin : its.toArray.size = i := by
      simp only [List.size_toArray]
      omega
    refine wpAny_pyNext_enum_endD (Draws.tuple (A := X.A.in1) (I.ok.hd hc) it a hai its.toArray) he (by rw [hin]; exact ⟨hit, p'⟩) fun h' eb => ⟨rfl, ?_⟩
    exact I.turned (t' := s.toks) (fun b o hb q => eb b o hb q) f0 f1 f3 f4 f5
  self := by
    rintro A i s Q E ⟨⟨_, he⟩, _⟩ h
    exact wpAny_pyIter_enum he h
/-- a def's list or tuple that is walked with its places -/
def iEnumA (K : PySem.W.Frag) (ta : TA) : TI := fun σ H R => ta σ H fun vs H1 => ∃ a xs, vs = [.ref a] ∧ ((SqL K H1 a xs ∧ R (Ite K a) H1) ∨ (SqT K H1 a xs ∧ R (IteT K a) H1))
theorem pi_enumA {X : Cx} {e : Expr} {ta : TA} {p pos tpos : Pos} {elts : List Expr} {kk : Nat} (hg : Gl X "enumerate") (hm : X.mg "enumerate" = none) (ha : PA X [e] ta) (hs : starEach [e] X.env = [(false, eval e X.env)] := by rfl) :
    PI X (.Tuple elts kk tpos) (.Call (.Name "enumerate" p) [e] [] pos) (iEnumA X.K ta) := by
  constructor
  intro pins s σ H R I h
  refine Call_ (ld_blt I hg hm boot_enumerate (PyProof.Rows.callWith_type1 (thn (ha.run pos pins s σ H _ I h) ?_) hs rfl))
  rintro us s1 ⟨vs, H1, I1, r1, a, xs, rfl, q⟩
  cases r1 with
  | cons r rr =>
    cases rr
    cases r
    have fr : ∀ b, b ∈ [s1.heap.objs.size + 1, s1.heap.objs.size] → FpOk X pins H1 b := by
      intro b hb
      have le : s1.heap.objs.size ≤ b := by
        rcases List.mem_cons.mp hb with rfl | hb
        · omega
        · obtain rfl := List.mem_singleton.mp hb
          omega
      exact I1.fpOk le (I1.hok.fresh le)
    rcases q with ⟨hq, q⟩ | ⟨hq, q⟩
    · obtain ⟨its, rv, p', hz⟩ := I1.list hq
      refine call_enumerate_list p'.isList fun h' he hit hsz hk => wpAny_pyIter_enum he ?_
      have I2 : Inv X pins σ H1 { s1 with heap := h' } := I1.kept (t' := s1.toks) hk
      exact ⟨s1.heap.objs.size + 1, [s1.heap.objs.size + 1, s1.heap.objs.size], _, _, H1, rfl, I2, turn_enum a _ s1.heap.objs.size, ⟨⟨.none, he⟩, hit, Nat.succ_ne_self _⟩, fr, q⟩
    · obtain ⟨its, rv, p', hz⟩ := I1.tuple hq
      obtain ⟨o, ho, _⟩ := id p'
      have la : a < s1.heap.objs.size := Heap.lt_size ho
      refine ck_enum_begins (begins_tuple a its.toArray) (show s1.heap.IsTuple a its.toArray from p') fun h' he hit hsz hk => wpAny_pyIter_enum he ?_
      have I2 : Inv X pins σ H1 { s1 with heap := h' } := I1.kept (t' := s1.toks) hk
      exact ⟨s1.heap.objs.size + 1, [s1.heap.objs.size + 1, s1.heap.objs.size], _, _, H1, rfl, I2, turn_enumT a _ s1.heap.objs.size (Nat.ne_of_lt la) (Nat.ne_of_lt (Nat.lt_succ_of_lt la)), ⟨⟨.none, he⟩, ⟨_, hit, rfl, rfl⟩, Nat.succ_ne_self _⟩, fr, q⟩
/-- a list or a tuple that is walked -/
def iSeqA (K : PySem.W.Frag) (tl : TE) : TI := fun σ H R => tl σ H fun x H1 => ∃ a, x = .ref a ∧ (((∃ xs, SqL K H1 a xs) ∧ R (Itl K a) H1) ∨ ((∃ xs, SqT K H1 a xs) ∧ R (Itt K a) H1))
theorem pi_seqA {X : Cx} {tg l : Expr} {tl : TE} (hl : PE X l tl) : PI X tg l (iSeqA X.K tl) := by
  constructor
  intro pins s σ H R I h
  refine thn (hl.run pins s σ H _ I h) ?_
  rintro v s1 ⟨x, H1, I1, r1, a, rfl, q⟩
  cases r1
  have fr : ∀ b ∈ [s1.heap.objs.size], FpOk X pins H1 b := by
    intro b hb
    obtain rfl := List.mem_singleton.mp hb
    exact I1.fpOk (Nat.le_refl _) (I1.hok.fresh (Nat.le_refl _))
  rcases q with ⟨⟨xs, hq⟩, q⟩ | ⟨⟨xs, hq⟩, q⟩
  · obtain ⟨its, rv, p, hz⟩ := I1.list hq
    refine wpAny_pyIter_list p.isList ⟨s1.heap.objs.size, [s1.heap.objs.size], _, _, H1, rfl, ?_, turn_list a _, ⟨_, Heap.get?_push_size _ rfl, rfl, rfl⟩, fr, q⟩
    exact I1.kept (t' := s1.toks) fun b o e => Heap.get?_push_of_some _ e
  · obtain ⟨its, rv, p, hz⟩ := I1.tuple hq
    refine wpAny_pyIter_tuple (show s1.heap.IsTuple a its.toArray from p) ⟨s1.heap.objs.size, [s1.heap.objs.size], _, _, H1, rfl, ?_, turn_tuple a _, ⟨_, Heap.get?_push_size _ rfl, rfl, rfl⟩, fr, q⟩
    exact I1.kept (t' := s1.toks) fun b o e => Heap.get?_push_of_some _ e

/-! ### what is walked, over data -/
section
variable {Ω : Type}
def seqD : Dt → Option (List Dt)
  | .lst l => some l
  | .tup l => some l
  | _ => none
def rngD (lo : Int) (n : Nat) : List Dt := (List.range n).map fun (i : Nat) => Dt.int (lo + i)
def enumD (l : List Dt) : List Dt := l.mapIdx fun i d => Dt.tup [.int (i : Nat), d]
def zipD (l r : List Dt) : List Dt := List.zipWith (fun a b => Dt.tup [a, b]) l r
def wiSeq (p : DE Ω) : DI Ω := fun sl w C => p sl w fun d fl w' => fl = .cl ∧ ∃ l, seqD d = some l ∧ C l w'
def wiR1 (p : DE Ω) : DI Ω := fun sl w C => p sl w fun d _ w' => ∃ n, d = .int n ∧ -(2 ^ 62) ≤ n ∧ n < 2 ^ 62 ∧ C (rngD 0 n.toNat) w'
def wiR2 (p q : DE Ω) : DI Ω := fun sl w C => p sl w fun d _ w1 => q sl w1 fun e _ w2 => ∃ a b, d = .int a ∧ e = .int b ∧ (-(2 ^ 62) ≤ a ∧ a < 2 ^ 62 ∧ -(2 ^ 62) ≤ b ∧ b < 2 ^ 62) ∧ C (rngD a (b - a).toNat) w2
def wiEnum (p : DE Ω) : DI Ω := fun sl w C => p sl w fun d fl w' => fl = .cl ∧ ∃ l, seqD d = some l ∧ C (enumD l) w'
def wiZip (p q : DE Ω) : DI Ω := fun sl w C => p sl w fun d fl w1 => fl = .cl ∧ q sl w1 fun e fl2 w2 => fl2 = .cl ∧ ∃ l r, ((d = .lst l ∧ e = .lst r) ∨ (d = .tup l ∧ e = .tup r)) ∧ C (zipD l r) w2
end
section
variable {Ω : Type} {X : Cx} {W : Wd Ω} {e e2 tg : Expr} {p q : DE Ω} {K : PySem.W.Frag} {F : Hp} {a b : Addr} {vs us : List V} {l r : List Dt}
theorem yl_list (h : F a = some (.lst vs)) (d : DrL K F vs l) : YlOk K F (Itl K a) l := by
  refine ⟨fun F1 H1 e1 e2 i d hd => ?_, fun F1 H1 e1 e2 => ⟨vs, .of (e2 _ _ (e1 _ _ h)), Nat.le_of_eq d.len⟩⟩
  rename_i dl
  obtain ⟨v, hv, dv⟩ := dl.at hd
  refine ⟨⟨vs, v, .of (e2 _ _ (e1 _ _ h)), hv⟩, fun x H' ⟨z1, z2⟩ => ⟨F1, .inl ⟨rfl, z1, ?_⟩⟩⟩
  have z3 := z2 vs (.of (e2 _ _ (e1 _ _ h)))
  rw [hv] at z3
  cases z3
  exact dv.mono e1
theorem yl_tup (h : SqT K F a vs) (d : DrL K F vs l) : YlOk K F (Itt K a) l := by
  refine ⟨fun F1 H1 e1 e2 i d hd => ?_, fun F1 H1 e1 e2 => ⟨vs, sameSeqT e2 (sameSeqT e1 h), Nat.le_of_eq d.len⟩⟩
  rename_i dl
  obtain ⟨v, hv, dv⟩ := dl.at hd
  refine ⟨⟨vs, v, sameSeqT e2 (sameSeqT e1 h), hv⟩, fun x H' ⟨z1, z2⟩ => ⟨F1, .inl ⟨rfl, z1, ?_⟩⟩⟩
  have z3 := z2 vs (sameSeqT e2 (sameSeqT e1 h))
  rw [hv] at z3
  cases z3
  exact dv.mono e1
theorem rng_len (lo : Int) (n : Nat) : (rngD lo n).length = n := by simp [rngD]
theorem rng_at {lo : Int} {n i : Nat} {d : Dt} (h : (rngD lo n)[i]? = some d) : i < n ∧ d = .int (lo + i) := by
  unfold rngD at h
  rw [List.getElem?_map, Option.map_eq_some_iff] at h
  obtain ⟨j, h1, h2⟩ := h
  have := List.getElem?_eq_some_iff.mp h1
  obtain ⟨h3, h4⟩ := this
  simp only [List.length_range] at h3
  simp only [List.getElem_range] at h4
  subst h4
  exact ⟨h3, h2.symm⟩
theorem yl_rng {lo : Int} {n : Nat} : YlOk K F (Itr lo n) (rngD lo n) := by
  refine ⟨fun F1 H1 e1 e2 i d hd => ?_, fun F1 H1 e1 e2 => Nat.le_of_eq (rng_len lo n).symm⟩
  obtain ⟨h1, rfl⟩ := rng_at hd
  exact ⟨h1, fun x H' ⟨z1, z2⟩ => ⟨F1, .inl ⟨rfl, z1, by rw [z2]; exact .int _⟩⟩⟩
theorem enum_at {l : List Dt} {i : Nat} {d : Dt} (h : (enumD l)[i]? = some d) : ∃ e, l[i]? = some e ∧ d = .tup [.int (i : Nat), e] := by
  unfold enumD at h
  rw [List.getElem?_mapIdx, Option.map_eq_some_iff] at h
  obtain ⟨e, h1, h2⟩ := h
  exact ⟨e, h1, h2.symm⟩
theorem enum_len (l : List Dt) : (enumD l).length = l.length := by simp [enumD]
theorem pairNew {F1 H1 : Hp} {T : Addr} {x y : V} {d e : Dt} (hT : H1 T = none) (e2 : Same F1 H1) (hx : Dr K F1 x d) (hy : Dr K F1 y e) : Ext K F1 H1 (upd F1 T (.tup [x, y])) (upd H1 T (.tup [x, y])) (.ref T) (.tup [d, e]) :=
  .tup hT e2 (.cons hx (.cons hy .nil))
theorem yl_enumL (h : F a = some (.lst vs)) (d : DrL K F vs l) : YlOk K F (Ite K a) (enumD l) := by
  refine ⟨fun F1 H1 e1 e2 i d hd => ?_, fun F1 H1 e1 e2 => ⟨vs, .of (e2 _ _ (e1 _ _ h)), by rw [enum_len]; exact Nat.le_of_eq d.len⟩⟩
  rename_i dl
  obtain ⟨e, he, rfl⟩ := enum_at hd
  obtain ⟨v, hv, dv⟩ := dl.at he
  refine ⟨⟨vs, v, .of (e2 _ _ (e1 _ _ h)), hv⟩, fun x H' ⟨T, y, z1, z2, z3, z4⟩ => ⟨upd F1 T (.tup [.int (i : Nat), y]), ?_⟩⟩
  have z5 := z4 vs (.of (e2 _ _ (e1 _ _ h)))
  rw [hv] at z5
  cases z5
  subst z1 z3
  exact pairNew z2 e2 (.int _) (dv.mono e1)
theorem yl_enumT (h : SqT K F a vs) (d : DrL K F vs l) : YlOk K F (IteT K a) (enumD l) := by
  refine ⟨fun F1 H1 e1 e2 i d hd => ?_, fun F1 H1 e1 e2 => ⟨vs, sameSeqT e2 (sameSeqT e1 h), by rw [enum_len]; exact d.len⟩⟩
  rename_i dl
  obtain ⟨e, he, rfl⟩ := enum_at hd
  obtain ⟨v, hv, dv⟩ := dl.at he
  refine ⟨⟨vs, v, sameSeqT e2 (sameSeqT e1 h), hv⟩, fun x H' ⟨T, y, z1, z2, z3, z4⟩ => ⟨upd F1 T (.tup [.int (i : Nat), y]), ?_⟩⟩
  have z5 := z4 vs (sameSeqT e2 (sameSeqT e1 h))
  rw [hv] at z5
  cases z5
  subst z1 z3
  exact pairNew z2 e2 (.int _) (dv.mono e1)
theorem seq_cases {H : Hp} {d : Dt} {v : V} (h : Dr K F v d) (e : seqD d = some l) : (∃ a vs, v = .ref a ∧ F a = some (.lst vs) ∧ DrL K F vs l) ∨ ∃ a vs, v = .ref a ∧ SqT K F a vs ∧ DrL K F vs l := by
  cases d with
  | lst m =>
    cases e
    cases h with | lst q r => exact .inl ⟨_, _, rfl, q, r⟩
  | tup m =>
    cases e
    cases h with
    | tup q r => exact .inr ⟨_, _, rfl, SqT.of q, r⟩
    | tupK q r _ => exact .inr ⟨_, _, rfl, q.t, r⟩
  | _ => simp [seqD] at e
theorem di_seq (h : PD X W e p) : PDI X W tg e (wiSeq p) := by
  refine ⟨pi_imp (pi_seqA h.run) fun σ H R ⟨B, F, G, w, sl, r, z⟩ => ?_, fun sl w C C' hC z => h.mono _ _ _ _ (fun d fl w1 ⟨z0, l, z1, z2⟩ => ⟨z0, l, z1, hC _ _ z2⟩) z⟩
  refine ⟨B, F, G, w, sl, r, h.mono _ _ _ _ (fun d fl w1 ⟨z0, l, z1, z2⟩ v F1 G1 H1 r1 e1 f1 => ?_) z⟩
  subst z0
  rcases seq_cases (H := H1) f1 z1 with ⟨a, vs, rfl, q, dl⟩ | ⟨a, vs, rfl, q, dl⟩
  · exact ⟨a, rfl, .inl ⟨⟨vs, .of (r1.hr.f _ _ q)⟩, z2 _ F1 G1 H1 r1 e1 (yl_list q dl)⟩⟩
  · exact ⟨a, rfl, .inr ⟨⟨vs, sameSeqT r1.hr.f q⟩, z2 _ F1 G1 H1 r1 e1 (yl_tup q dl)⟩⟩
theorem di_r1 {pp pos : Pos} (hg : Gl X "range") (hm : X.mg "range" = none) (h : PD X W e p) (hs : starEach [e] X.env = [(false, eval e X.env)] := by rfl) : PDI X W tg (.Call (.Name "range" pp) [e] [] pos) (wiR1 p) := by
  refine ⟨pi_imp (pi_range1 hg hm (pa_cons h.run pa_nil hs) hs) fun σ H R ⟨B, F, G, w, sl, r, z⟩ => ?_, fun sl w C C' hC z => h.mono _ _ _ _ (fun d fl w1 ⟨n, z0, z1, z2, z3⟩ => ⟨n, z0, z1, z2, hC _ _ z3⟩) z⟩
  refine ⟨B, F, G, w, sl, r, h.mono _ _ _ _ (fun d fl w1 ⟨n, z0, z1, z2, z3⟩ v F1 G1 H1 r1 e1 f1 => ?_) z⟩
  subst z0
  have := (f1.da r1).int
  subst this
  exact ⟨n, rfl, z1, z2, z3 _ F1 G1 H1 r1 e1 yl_rng⟩
theorem di_enum {pp pos tpos : Pos} {elts : List Expr} {kk : Nat} (hg : Gl X "enumerate") (hm : X.mg "enumerate" = none) (h : PD X W e p) (hs : starEach [e] X.env = [(false, eval e X.env)] := by rfl) : PDI X W (.Tuple elts kk tpos) (.Call (.Name "enumerate" pp) [e] [] pos) (wiEnum p) := by
  refine ⟨pi_imp (pi_enumA hg hm (pa_cons h.run pa_nil hs) hs) fun σ H R ⟨B, F, G, w, sl, r, z⟩ => ?_, fun sl w C C' hC z => h.mono _ _ _ _ (fun d fl w1 ⟨z0, l, z1, z2⟩ => ⟨z0, l, z1, hC _ _ z2⟩) z⟩
  refine ⟨B, F, G, w, sl, r, h.mono _ _ _ _ (fun d fl w1 ⟨z0, l, z1, z2⟩ v F1 G1 H1 r1 e1 f1 => ?_) z⟩
  subst z0
  rcases seq_cases (H := H1) f1 z1 with ⟨a, vs, rfl, q, dl⟩ | ⟨a, vs, rfl, q, dl⟩
  · exact ⟨a, vs, rfl, .inl ⟨.of (r1.hr.f _ _ q), z2 _ F1 G1 H1 r1 e1 (yl_enumL q dl)⟩⟩
  · exact ⟨a, vs, rfl, .inr ⟨sameSeqT r1.hr.f q, z2 _ F1 G1 H1 r1 e1 (yl_enumT q dl)⟩⟩
end
end Ck
namespace Ck
open PySem PySem.Spec PyProof.Rows L2

/-! ### list comprehensions -/
def wipeD (sl : Sl) : List Nat → Sl
  | [] => sl
  | v :: vs => (wipeD sl vs).set v none
def noOwnB (sl : Sl) (vs : List Nat) : Bool := vs.all fun v => match sl[v]? with
  | some (some (.mine _)) => false
  | _ => true
def Tg.ix : Tg → List Nat
  | .one i => [i]
  | .many is => is
  | .two i is => i :: is
section
variable {Ω : Type}
def lcLoop (tg : Tg) (t : DT Ω) (pe : DE Ω) (sl0 : Sl) : List Dt → Ω → (List Dt → Ω → Prop) → Prop
  | [], w, C => C [] w
  | x :: xs, w, C => ∃ sl', bindTg tg x sl0 = some sl' ∧ t sl' w fun b w1 => if b = true then pe sl' w1 fun d fl w2 => fl = .cl ∧ lcLoop tg t pe sl0 xs w2 fun r w3 => C (d :: r) w3 else lcLoop tg t pe sl0 xs w1 C
def wLc (vs : List Nat) (tg : Tg) (pit : DI Ω) (t : DT Ω) (pe : DE Ω) : DL Ω := fun sl w C => pit sl w fun xs w' => xs.length ≤ sizeLine ∧ noOwnB sl vs = true ∧ lcLoop tg t pe (wipeD sl vs) xs w' C
def wYes : DT Ω := fun _ w C => C true w
end
theorem wipeD_out {sl : Sl} {i : Nat} : ∀ {vs : List Nat}, i ∉ vs → (wipeD sl vs)[i]? = sl[i]?
  | [], _ => rfl
  | v :: vs, h => by
    unfold wipeD
    rw [List.getElem?_set_ne fun e => h (by rw [e]; exact List.mem_cons_self)]
    exact wipeD_out fun z => h (List.mem_cons_of_mem _ z)
theorem wipeD_in {sl : Sl} {i : Nat} {x : Sv} : ∀ {vs : List Nat}, (wipeD sl vs)[i]? = some (some x) → i ∉ vs ∧ sl[i]? = some (some x)
  | [], h => ⟨by simp, h⟩
  | v :: vs, h => by
    unfold wipeD at h
    rw [List.getElem?_set] at h
    by_cases e : v = i
    · rw [if_pos e] at h
      split at h <;> cases h
    · rw [if_neg e] at h
      obtain ⟨h1, h2⟩ := wipeD_in h
      exact ⟨fun z => by
        rcases List.mem_cons.mp z with z | z
        · exact e z.symm
        · exact h1 z, h2⟩
theorem wipeD_len (sl : Sl) : ∀ vs : List Nat, (wipeD sl vs).length = sl.length
  | [] => rfl
  | v :: vs => by
    unfold wipeD
    rw [List.length_set, wipeD_len sl vs]
theorem wipe_idem (σ : L2.St) (vs : List Nat) : wipe (wipe σ vs) vs = wipe σ vs := by
  have key : ∀ (us : List Nat), (∀ u ∈ us, u ∈ vs) → wipe (wipe σ vs) us = wipe σ vs := by
    intro us
    induction us with
    | nil => intro _; rfl
    | cons u us ih =>
      intro h
      show (L2.wipe (L2.wipe σ vs) us).set u none = L2.wipe σ vs
      rw [ih fun x hx => h x (List.mem_cons_of_mem _ hx)]
      have hu := h u List.mem_cons_self
      apply List.ext_getElem?
      intro j
      rw [List.getElem?_set]
      by_cases e : u = j
      · subst e
        rw [if_pos rfl]
        by_cases hl : u < (wipe σ vs).length
        · rw [if_pos hl]
          cases q : (wipe σ vs)[u]? with
          | none =>
            rw [List.getElem?_eq_getElem hl] at q
            cases q
          | some o =>
            cases o with
            | none => rfl
            | some v => exact absurd hu (wipe_some q).2
        · rw [if_neg hl, List.getElem?_eq_none (by omega)]
      · rw [if_neg e]
  exact key vs fun _ h => h
theorem setAll_out {i : Nat} : ∀ {is : List Nat} {ds : List Dt} {sl sl' : Sl}, setAll is ds sl = some sl' → i ∉ is → sl'[i]? = sl[i]?
  | [], [], sl, sl', h, _ => by
    simp only [setAll, Option.some.injEq] at h
    rw [h]
  | [], _ :: _, _, _, h, _ => by simp [setAll] at h
  | _ :: _, [], _, _, h, _ => by simp [setAll] at h
  | j :: is, d :: ds, sl, sl', h, hi => by
    simp only [setAll] at h
    rw [setAll_out h fun z => hi (List.mem_cons_of_mem _ z), List.getElem?_set_ne fun e => hi (by rw [e]; exact List.mem_cons_self)]
theorem bindTg_out {tg : Tg} {d : Dt} {sl sl' : Sl} {i : Nat} (h : bindTg tg d sl = some sl') (hi : i ∉ tg.ix) : sl'[i]? = sl[i]? := by
  cases tg with
  | one j =>
    simp only [bindTg, Option.some.injEq] at h
    subst h
    exact List.getElem?_set_ne fun e => hi (by simp [Tg.ix, e])
  | many is =>
    cases d with
    | tup ds => exact setAll_out h hi
    | _ => simp [bindTg] at h
  | two j is =>
    obtain ⟨d1, ds, _, h⟩ := bindTg_two h
    rw [setAll_out h fun z => hi (List.mem_cons_of_mem _ z), List.getElem?_set_ne fun e => hi (by rw [← e]; exact List.mem_cons_self)]
section
variable {Ω : Type} {K : PySem.W.Frag} {W : Wd Ω} {B F F' G G' H H' : Hp} {w w' : Ω} {σ σ' : L2.St} {sl sl' : Sl} {D : Addr} {o o' : HO}
theorem SR.wipe (r : SR K W B F G H w σ sl) (vs : List Nat) : SR K W B F G H w (L2.wipe σ vs) (wipeD sl vs) := by
  refine ⟨r.hr, by rw [wipeD_len, wipe_length]; exact r.len, fun i x h => ?_, fun i j v l m h1 h2 h3 h4 => ?_⟩
  · obtain ⟨h1, h2⟩ := wipeD_in h
    rw [wipe_out h1]
    exact r.s i x h2
  · obtain ⟨a1, a2⟩ := wipeD_in h1
    obtain ⟨b1, b2⟩ := wipeD_in h2
    rw [wipe_out a1] at h3
    rw [wipe_out b1] at h4
    exact r.o i j v l m a2 b2 h3 h4
/-- a new object that others hold -/
theorem SR.addB (r : SR K W B F G H w σ sl) (hD : H D = none) : SR K W (upd B D o) F G (upd H D o) w σ sl := by
  have hF : F D = none := r.hr.f.free hD
  have hG : G D = none := r.hr.g.free hD
  refine ⟨⟨fun a x e => ?_, r.hr.f.trans (sameUpd hD), r.hr.g.trans (sameUpd hD), r.hr.d, r.hr.w, W.monoB _ _ (sameUpd (r.fresh hD).1) r.hr.k⟩, r.len, fun i x h => ?_, r.o⟩
  · by_cases ha : a = D
    · subst ha
      rw [upd_same] at e ⊢
      exact ⟨e, .inl hF, .inl hG⟩
    · rw [upd_ne ha] at e ⊢
      exact r.hr.b a x e
  · obtain ⟨v, h1, h2⟩ := r.s i x h
    refine ⟨v, h1, ?_⟩
    cases x with
    | dat d => exact h2
    | mine l =>
      obtain ⟨a, us, rfl, q1, q2, q3, q4, q5⟩ := h2
      have hn : a ≠ D := ne_of_none q4 hD
      exact ⟨a, us, rfl, by rw [upd_ne hn]; exact q1, q2, q3, by rw [upd_ne hn]; exact q4, q5⟩
theorem SR.bump (r : SR K W (upd B D o) F G H w σ sl) (ht : ¬ IsTp o) (hk : W.bk B) (hB : B D = none) : SR K W (upd B D o') F G (upd H D o') w σ sl := by
  obtain ⟨hH, hF, hG⟩ := r.hr.b D o upd_same
  have hF := hF.resolve_right ht
  have hG := hG.resolve_right ht
  refine ⟨⟨fun a x e => ?_, fun a x e => ?_, fun a x e => ?_, r.hr.d, r.hr.w, W.monoB _ _ (sameUpd hB) hk⟩, r.len, fun i x h => ?_, r.o⟩
  · by_cases ha : a = D
    · subst ha
      rw [upd_same] at e ⊢
      exact ⟨e, .inl hF, .inl hG⟩
    · rw [upd_ne ha] at e ⊢
      exact r.hr.b a x (by rw [upd_ne ha]; exact e)
  · rw [upd_ne (ne_of_none e hF)]
    exact r.hr.f _ _ e
  · rw [upd_ne (ne_of_none e hG)]
    exact r.hr.g _ _ e
  · obtain ⟨v, h1, h2⟩ := r.s i x h
    refine ⟨v, h1, ?_⟩
    cases x with
    | dat d => exact h2
    | mine l =>
      obtain ⟨a, us, rfl, q1, q2, q3, q4, q5⟩ := h2
      have hn : a ≠ D := fun z => by
        subst z
        rw [upd_same] at q1
        cases q1
      exact ⟨a, us, rfl, by rw [upd_ne hn] at q1 ⊢; exact q1, q2, q3, by rw [upd_ne hn]; exact q4, q5⟩
theorem SR.dropB (r : SR K W (upd B D o) F G H w σ sl) (hB : B D = none) (hk : W.bk B) : SR K W B F G H w σ sl := by
  refine ⟨⟨fun a x e => r.hr.b a x (by rw [upd_ne (ne_of_none e hB)]; exact e), r.hr.f, r.hr.g, r.hr.d, r.hr.w, hk⟩, r.len, fun i x h => ?_, r.o⟩
  obtain ⟨v, h1, h2⟩ := r.s i x h
  refine ⟨v, h1, ?_⟩
  cases x with
  | dat d => exact h2
  | mine l =>
    obtain ⟨a, us, rfl, q1, q2, q3, q4, q5⟩ := h2
    have hn : a ≠ D := fun z => by
      subst z
      rw [upd_same] at q1
      cases q1
    exact ⟨a, us, rfl, by rw [upd_ne hn] at q1; exact q1, q2, q3, q4, q5⟩
/-- back to other slots, that share the own lists -/
theorem SR.swap (r : SR K W B F G H w σ sl) (r' : SR K W B F' G' H' w' σ' sl') (e : Same F F') (ho : ∀ (i : Nat) (l : Ow), sl[i]? = some (some (.mine l)) → sl'[i]? = some (some (.mine l)) ∧ σ'[i]? = σ[i]?) : SR K W B F' G' H' w' σ sl := by
  refine ⟨r'.hr, r.len, fun i x h => ?_, r.o⟩
  obtain ⟨v, h1, h2⟩ := r.s i x h
  refine ⟨v, h1, ?_⟩
  cases x with
  | dat d => exact Dr.mono e h2
  | mine l =>
    obtain ⟨k1, k2⟩ := ho i l h
    obtain ⟨u, g1, g2⟩ := r'.s i _ k1
    rw [k2, h1] at g1
    cases g1
    exact g2
end
structure PDTs {Ω : Type} (X : Cx) (W : Wd Ω) (ifs : List Expr) (t : DT Ω) : Prop where
  run : PTs X ifs (lftT X.K W t)
  mono : ∀ sl w (C C' : Bool → Ω → Prop), (∀ d w', C d w' → C' d w') → t sl w C → t sl w C'
section
variable {Ω : Type} {X : Cx} {W : Wd Ω} {e c : Expr} {t : DT Ω} {pe : DE Ω} {pl : DL Ω}
theorem dts_nil : PDTs X W [] (wYes : DT Ω) := ⟨⟨fun pins s σ H Q I ⟨B, F, G, w, sl, r, z⟩ => pts_nil.run pins s σ H Q I (z F G H r (Same.refl F))⟩, fun sl w C C' hC z => hC _ _ z⟩
theorem dts_one (h : PDT X W c t) : PDTs X W [c] t := ⟨pts_one h.run, h.mono⟩
theorem imp_L (hm : ∀ sl w (C C' : List Dt → Ω → Prop), (∀ d w', C d w' → C' d w') → pl sl w C → pl sl w C') : ∀ σ H Q, lft X.K W (wL pl) σ H Q → lftL X.K W pl σ H Q := by
  intro σ H Q ⟨B, F, G, w, sl, r, k⟩
  refine ⟨B, F, G, w, sl, r, hm _ _ _ _ (fun l w' z a vs F' G' H' r' e' hB hn hH hF hG hD => ?_) k⟩
  have e2 : Same F' (upd F' a (.lst vs)) := sameUpd hF
  refine z (.ref a) (upd F' a (.lst vs)) G' H' (r'.to (r'.hr.frz hB hF hG hH) e2 fun i l' c us s1 s2 s3 s4 s5 s6 _ => ?_) (e'.trans e2) (.lst upd_same (hD.mono e2))
  have hne : c ≠ a := fun z => by
    subst z
    exact hn i l' s1 s2
  exact ⟨s3, by rw [upd_ne hne]; exact s5, s6⟩
theorem lc_mono {tg : Tg} {sl0 : Sl} (ht : ∀ sl w (C C' : Bool → Ω → Prop), (∀ d w', C d w' → C' d w') → t sl w C → t sl w C') (he : ∀ sl w (C C' : Dt → Fl → Ω → Prop), (∀ d fl w', C d fl w' → C' d fl w') → pe sl w C → pe sl w C') :
    ∀ (xs : List Dt) (w : Ω) (C C' : List Dt → Ω → Prop), (∀ d w', C d w' → C' d w') → lcLoop tg t pe sl0 xs w C → lcLoop tg t pe sl0 xs w C'
  | [], w, C, C', hC, z => hC _ _ z
  | x :: xs, w, C, C', hC, ⟨sl', z0, z⟩ => by
    refine ⟨sl', z0, ht _ _ _ _ (fun b w1 z => ?_) z⟩
    cases b with
    | true => exact he _ _ _ _ (fun d fl w2 ⟨z1, z2⟩ => ⟨z1, lc_mono ht he xs _ _ _ (fun r w3 => hC _ _) z2⟩) z
    | false => exact lc_mono ht he xs _ _ _ hC z
theorem imp_lc {it tgE elt : Expr} {ifs : List Expr} {scope : Scope} {own : List (Str × Nat)} {g : TG} {tg : Tg} {pit : DI Ω} (hi : PDI X W tgE it pit)
    (hg : ∀ (s : Shared) (H : Hp) (C : Addr) (cl : List (Str × Addr)) (fp : List Addr), PGD (X.blk s H scope (compEnvC scope cl C X.env) fp) tgE g tg)
    (ht : ∀ (s : Shared) (H : Hp) (C : Addr) (cl : List (Str × Addr)) (fp : List Addr), PDTs (X.blk s H scope (compEnvC scope cl C X.env) fp) W ifs t)
    (he : ∀ (s : Shared) (H : Hp) (C : Addr) (cl : List (Str × Addr)) (fp : List Addr), PD (X.blk s H scope (compEnvC scope cl C X.env) fp) W elt pe) (hx : ∀ i ∈ tg.ix, i ∈ own.map (·.2)) :
    ∀ σ H Q, lftL X.K W (wLc (own.map (·.2)) tg pit t pe) σ H Q → tLc (lftI X.K W pit) g (lftT X.K W t) (lft X.K W pe) (own.map (·.2)) σ H Q := by
  intro σ H Q ⟨B, F, G, w, sl, r, z⟩
  generalize hvs : own.map (·.2) = vs at z hx ⊢
  have hg0 := hg X.s_0 (fun _ => none) 0 [] []
  have ht0 := (ht X.s_0 (fun _ => none) 0 [] []).mono
  have he0 := (he X.s_0 (fun _ => none) 0 [] []).mono
  refine ⟨B, F, G, w, sl, r, hi.mono _ _ _ _ (fun xs w1 ⟨zn, zo, z⟩ J F1 G1 H1 r1 e1 hy D hD => ?_) z⟩
  have hB : B D = none := (r1.fresh hD).1
  refine ⟨fun i m H => m = xs.length - i ∧ i ≤ xs.length ∧ ∃ F' G' w' acc accd, SR X.K W (upd B D (.lst acc)) F' G' H w' σ sl ∧ Same F1 F' ∧ acc.length ≤ i ∧ DrL X.K F' acc accd ∧ lcLoop tg t pe (wipeD sl vs) (xs.drop i) w' fun l w' => ∀ a us F' G' H', SR X.K W B F' G' H' w' σ sl → Same F F' → B a = none → NoOwn σ sl a → H' a = some (.lst us) → F' a = none → G' a = none → DrL X.K F' us (accd ++ l) → Q (.ref a) H',
    ⟨xs.length, by simp, Nat.zero_le _, F1, G1, w1, [], [], r1.addB hD, Same.refl _, Nat.le_refl _, .nil, z⟩, ?_⟩
  rintro i m H' ⟨rfl, hi', F', G', w', acc, accd, r', e', hacc, hda, z'⟩
  by_cases hlt : i < xs.length
  · right
    have hd : xs[i]? = some xs[i] := List.getElem?_eq_getElem hlt
    obtain ⟨g1, g2⟩ := hy.go F' H' e' r'.hr.f i _ hd
    rw [List.drop_eq_getElem_cons hlt] at z'
    obtain ⟨sl2, b1, b2⟩ := z'
    refine ⟨g1, fun H2 => ∃ F' G' w' acc accd, SR X.K W (upd B D (.lst acc)) F' G' H2 w' σ sl ∧ Same F1 F' ∧ acc.length ≤ i + 1 ∧ DrL X.K F' acc accd ∧ lcLoop tg t pe (wipeD sl vs) (xs.drop (i + 1)) w' fun l w' => ∀ a us F' G' H', SR X.K W B F' G' H' w' σ sl → Same F F' → B a = none → NoOwn σ sl a → H' a = some (.lst us) → F' a = none → G' a = none → DrL X.K F' us (accd ++ l) → Q (.ref a) H',
      fun H2 k => ⟨xs.length - (i + 1), by omega, rfl, hlt, k⟩, fun x H2 y => ?_⟩
    obtain ⟨F2, ext⟩ := g2 x H2 y
    obtain ⟨r2, e2, k2⟩ := ext.use r'
    refine hg0.run (r2.wipe vs) k2 b1 fun σ3 r3 hw => ?_
    have hw3 : L2.wipe σ3 vs = L2.wipe σ vs := by
      rw [hw vs (by cases tg <;> exact hx)]
      exact wipe_idem σ vs
    refine ⟨hw3, ?_⟩
    have owns : ∀ (j : Nat) (l : Ow), sl[j]? = some (some (.mine l)) → sl2[j]? = some (some (.mine l)) ∧ σ3[j]? = σ[j]? := fun j l hj => by
      have hjv : j ∉ vs := fun hm => by
        have := List.all_eq_true.mp zo j hm
        rw [hj] at this
        cases this
      refine ⟨?_, ?_⟩
      · rw [bindTg_out b1 fun hm => hjv (hx j hm), wipeD_out hjv]
        exact hj
      · rw [← wipe_out (σ := σ3) hjv, hw3, wipe_out hjv]
    refine ⟨upd B D (.lst acc), F2, G', w', sl2, r3, ht0 _ _ _ _ (fun b w3 z3 F3 G3 H3 r4 e3 => ?_) b2⟩
    cases b with
    | false => exact ⟨F3, G3, w3, acc, accd, r2.swap r4 e3 owns, (e'.trans e2).trans e3, by omega, hda.mono (e2.trans e3), z3⟩
    | true =>
      refine ⟨upd B D (.lst acc), F3, G3, w3, sl2, r4, he0 _ _ _ _ (fun d fl w4 ⟨z4, z5⟩ v F4 G4 H4 r5 e4 f5 => ?_) z3⟩
      subst z4
      obtain ⟨q1, q2, q3⟩ := r5.hr.b D _ upd_same
      refine ⟨acc, q1, Nat.lt_of_le_of_lt hacc (Nat.lt_of_lt_of_le hlt zn), F4, G4, w4, acc ++ [v], accd ++ [d], (r2.swap r5 (e3.trans e4) owns).bump (fun z => nomatch z) r1.hr.k hB, ((e'.trans e2).trans e3).trans e4, ?_, ?_, ?_⟩
      · rw [List.length_append]
        exact Nat.add_le_add_right hacc 1
      · exact (hda.mono ((e2.trans e3).trans e4)).app (.cons f5 .nil)
      · refine lc_mono ht0 he0 _ _ _ _ (fun l w5 k a us F' G' H' k1 k2 k3 k4 k5 k6 k7 k8 => k a us F' G' H' k1 k2 k3 k4 k5 k6 k7 ?_) z5
        rw [List.append_assoc] at k8
        exact k8
  · left
    have e : i = xs.length := by omega
    subst e
    rw [List.drop_length] at z'
    obtain ⟨q1, q2, q3⟩ := r'.hr.b D _ upd_same
    have q2 := q2.resolve_right fun z => nomatch z
    have q3 := q3.resolve_right fun z => nomatch z
    refine ⟨hy.stop F' H' e' r'.hr.f, z' D acc F' G' H' (r'.dropB hB r1.hr.k) (e1.trans e') hB (r1.fresh hD).2 q1 q2 q3 ?_⟩
    rw [List.append_nil]
    exact hda
theorem mono_lc {it tgE : Expr} {vs : List Nat} {tg : Tg} {pit : DI Ω} (hi : PDI X W tgE it pit) (ht : ∀ sl w (C C' : Bool → Ω → Prop), (∀ d w', C d w' → C' d w') → t sl w C → t sl w C') (he : ∀ sl w (C C' : Dt → Fl → Ω → Prop), (∀ d fl w', C d fl w' → C' d fl w') → pe sl w C → pe sl w C') :
    ∀ sl w (C C' : List Dt → Ω → Prop), (∀ d w', C d w' → C' d w') → wLc vs tg pit t pe sl w C → wLc vs tg pit t pe sl w C' := fun sl w C C' hC z => hi.mono _ _ _ _ (fun xs w1 ⟨z0, z1, z2⟩ => ⟨z0, z1, lc_mono ht he _ _ _ _ hC z2⟩) z
theorem dl_lc {it tgE elt : Expr} {ifs : List Expr} {scope : Scope} (own : List (Str × Nat)) {g : TG} {tg : Tg} {pit : DI Ω} {pos : Pos} (hc : X.calm = true) (hN : X.N.Nodup) (ok : BlkOk X.N X.env.scope scope own) (hi : PDI X W tgE it pit)
    (hg : ∀ (s : Shared) (H : Hp) (C : Addr) (cl : List (Str × Addr)) (fp : List Addr), PGD (X.blk s H scope (compEnvC scope cl C X.env) fp) tgE g tg)
    (ht : ∀ (s : Shared) (H : Hp) (C : Addr) (cl : List (Str × Addr)) (fp : List Addr), PDTs (X.blk s H scope (compEnvC scope cl C X.env) fp) W ifs t)
    (he : ∀ (s : Shared) (H : Hp) (C : Addr) (cl : List (Str × Addr)) (fp : List Addr), PD (X.blk s H scope (compEnvC scope cl C X.env) fp) W elt pe) (hx : ∀ i ∈ tg.ix, i ∈ own.map (·.2)) (hs : ∀ x, foldedSetIterable it X.env x = pure x := by intro _; rfl) :
    PDL X W (.ListComp elt [⟨tgE, it, ifs, 0⟩] scope pos) (wLc (own.map (·.2)) tg pit t pe) :=
  ⟨pe_imp (pe_lc hc hN hi.run ok (fun s H C cl fp => (hg s H C cl fp).pg) (fun s H C cl fp => (ht s H C cl fp).run) (fun s H C cl fp => (he s H C cl fp).run) hs) (imp_lc hi hg ht he hx), mono_lc hi (ht X.s_0 (fun _ => none) 0 [] []).mono (he X.s_0 (fun _ => none) 0 [] []).mono⟩
section
variable {it tgE elt : Expr} {ifs : List Expr} {scope : Scope} {own : List (Str × Nat)} {g : TG} {tg : Tg} {pit : DI Ω} {pos spos py : Pos} {i : Nat} {y : Str}
theorem ps_lcE (hc : X.calm = true) (hN : X.N.Nodup) (hy : X.N[i]? = some y) (hyl : X.env.scope.names.lookup y = some .local)
    (hsw : swapsWith (.ListComp elt [⟨tgE, it, ifs, 0⟩] scope pos) (some (.Name y py)) spos.line X.env = pure true) (ok : BlkOk X.N X.env.scope scope own) (hi : PDI X W tgE it pit)
    (hg : ∀ (s : Shared) (H : Hp) (C : Addr) (cl : List (Str × Addr)) (fp : List Addr), PGD (X.blk s H scope (compEnvC scope cl C X.env) fp) tgE g tg)
    (ht : ∀ (s : Shared) (H : Hp) (C : Addr) (cl : List (Str × Addr)) (fp : List Addr), PDTs (X.blk s H scope (compEnvC scope cl C X.env) fp) W ifs t)
    (he : ∀ (s : Shared) (H : Hp) (C : Addr) (cl : List (Str × Addr)) (fp : List Addr), PD (X.blk s H scope (compEnvC scope cl C X.env) fp) W elt pe) (hs : ∀ x, foldedSetIterable it X.env x = pure x := by intro _; rfl) :
    PS X (.Assign [.Name y py] (.ListComp elt [⟨tgE, it, ifs, 0⟩] scope pos) spos) (tAsg (tLc (lftI X.K W pit) g (lftT X.K W t) (lft X.K W pe) (own.map (·.2))) (gName i)) :=
  ps_setLc hc hN hy hyl hsw hi.run ok (fun s H C cl fp => (hg s H C cl fp).pg) (fun s H C cl fp => (ht s H C cl fp).run) (fun s H C cl fp => (he s H C cl fp).run) hs
theorem ds_setLc (own : List (Str × Nat)) (hc : X.calm = true) (hN : X.N.Nodup) (hy : X.N[i]? = some y) (hyl : X.env.scope.names.lookup y = some .local)
    (hsw : swapsWith (.ListComp elt [⟨tgE, it, ifs, 0⟩] scope pos) (some (.Name y py)) spos.line X.env = pure true) (ok : BlkOk X.N X.env.scope scope own) (hi : PDI X W tgE it pit)
    (hg : ∀ (s : Shared) (H : Hp) (C : Addr) (cl : List (Str × Addr)) (fp : List Addr), PGD (X.blk s H scope (compEnvC scope cl C X.env) fp) tgE g tg)
    (ht : ∀ (s : Shared) (H : Hp) (C : Addr) (cl : List (Str × Addr)) (fp : List Addr), PDTs (X.blk s H scope (compEnvC scope cl C X.env) fp) W ifs t)
    (he : ∀ (s : Shared) (H : Hp) (C : Addr) (cl : List (Str × Addr)) (fp : List Addr), PD (X.blk s H scope (compEnvC scope cl C X.env) fp) W elt pe) (hx : ∀ i ∈ tg.ix, i ∈ own.map (·.2)) (hs : ∀ x, foldedSetIterable it X.env x = pure x := by intro _; rfl) :
    PDS X W (.Assign [.Name y py] (.ListComp elt [⟨tgE, it, ifs, 0⟩] scope pos) spos) (wSet i (wL (wLc (own.map (·.2)) tg pit t pe))) := by
  have hm := mono_lc (vs := own.map (·.2)) (tg := tg) hi (ht X.s_0 (fun _ => none) 0 [] []).mono (he X.s_0 (fun _ => none) 0 [] []).mono
  exact ⟨ps_imp (ps_lcE hc hN hy hyl hsw ok hi hg ht he hs) (imp_set (fun σ H Q z => imp_lc hi hg ht he hx σ H Q (imp_L hm σ H Q z)) fun sl w C C' hC z => hm _ _ _ _ (fun l w' => hC _ _ _) z), mono_set fun sl w C C' hC z => hm _ _ _ _ (fun l w' => hC _ _ _) z⟩
end
end
end Ck
namespace Ck
open PySem PySem.Spec PyProof.Rows L2

/-! ### isinstance, repr, list(range(..)) -/
section
variable {Ω : Type} {X : Cx} {W : Wd Ω} {e a b : Expr} {p pa pb : DE Ω} {pos : Pos}
def wIsi (T : String) (p : DE Ω) : DE Ω := fun sl w C => p sl w fun d _ w' => ∃ b, isTy T d = some b ∧ C (.bl b) .cl w'
end
/-! data as it is shown: an empty dict too -/
mutual
def Dt.pr : Dt → Option PyData
  | .non => some .none
  | .bl b => some (.bool b)
  | .int i => some (.int i)
  | .str x => some (.str x)
  | .tup l => (prL l).map .tuple
  | .lst l => (prL l).map .list
  | .emp => some (.dict [])
  | .opq _ => none
  | .dic _ _ => none
  | .ins _ _ _ => none
  | .tpx _ => none
def prL : List Dt → Option (List PyData)
  | [] => some []
  | d :: l => (d.pr).bind fun p => (prL l).map fun r => p :: r
end
section
variable {X : Cx} {pins : List (Addr × Obj)} {σ : L2.St} {H : Hp} {s : Shared}
/-- the modules' own dict stands there from the beginning -/
def HasMods (base : Heap) : Prop := ∃ o, base.get? sysModules = some o
theorem noMods (hm : HasMods X.base) (I : Inv X pins σ H s) : H sysModules = none := by
  obtain ⟨o, ho⟩ := hm
  exact (I.bs _ _ ho).2
theorem ref_mods (hm : HasMods X.base) (I : Inv X pins σ H s) {a : Addr} {o : HO} (h : H a = some o) : sysModules ≠ a := fun z => by
  rw [← z, noMods hm I] at h
  cases h
mutual
theorem Dr.reads (hm : HasMods X.base) (I : Inv X pins σ H s) : ∀ (d : Dt) (p : PyData) (v : V) (u : Value), Dr X.K H v d → d.pr = some p → RelV v u → ∃ as, Reads s.heap u p as ∧ sysModules ∉ as
  | .non, p, _, _, h, e, r => by
    simp only [Dt.pr, Option.some.injEq] at e
    subst e
    cases h
    cases r
    exact ⟨_, Reads.none, by simp⟩
  | .bl b, p, _, _, h, e, r => by
    simp only [Dt.pr, Option.some.injEq] at e
    subst e
    cases h
    cases r
    exact ⟨_, Reads.bool b, by simp⟩
  | .int i, p, _, _, h, e, r => by
    simp only [Dt.pr, Option.some.injEq] at e
    subst e
    cases h
    obtain ⟨t, rfl⟩ := r
    exact ⟨_, Reads.int i t, by simp⟩
  | .str x, p, _, _, h, e, r => by
    simp only [Dt.pr, Option.some.injEq] at e
    subst e
    cases h
    obtain ⟨t, rfl⟩ := r
    exact ⟨_, Reads.str x t, by simp⟩
  | .lst l, p, _, _, h, e, r => by
    simp only [Dt.pr, Option.map_eq_some_iff] at e
    obtain ⟨ps, e1, rfl⟩ := e
    cases h with
    | lst hs ha =>
      cases r
      obtain ⟨its, rv, ⟨o, n, ho, hc, _, hd⟩, _⟩ := I.list (SqL.of hs)
      obtain ⟨as, hr, hn⟩ := DrL.reads hm I l ps _ its ha e1 rv
      refine ⟨_, Reads.list ho hc hd hr, ?_⟩
      rw [List.mem_cons, not_or]
      exact ⟨ref_mods hm I hs, hn⟩
  | .tup l, p, _, _, h, e, r => by
    simp only [Dt.pr, Option.map_eq_some_iff] at e
    obtain ⟨ps, e1, rfl⟩ := e
    cases h with
    | tup hs ha =>
      cases r
      obtain ⟨its, rv, ⟨o, ho, hc, n, hd⟩, _⟩ := I.tuple (SqT.of hs)
      obtain ⟨as, hr, hn⟩ := DrL.reads hm I l ps _ its ha e1 rv
      exact ⟨_, Reads.tuple ho hc hd hr, hn⟩
    | tupK hs ha _ =>
      cases r
      obtain ⟨its, rv, ⟨o, ho, hc, n, hd⟩, _⟩ := I.tuple hs.t
      obtain ⟨as, hr, hn⟩ := DrL.reads hm I l ps _ its ha e1 rv
      exact ⟨_, Reads.tuple ho hc hd hr, hn⟩
  | .tpx _, _, _, _, _, e, _ => by simp only [Dt.pr] at e; cases e
  | .emp, p, _, _, h, e, r => by
    simp only [Dt.pr, Option.some.injEq] at e
    subst e
    cases h with
    | emp hs =>
      cases r
      obtain ⟨_, _, vs, kv, o, es, ep, ho, hx, hd, _, hps, _⟩ := dk_of I.hok hs
      cases kv
      have hes : es.toList = [] := by
        cases q : es.toList with
        | nil => rfl
        | cons y ys => rw [q] at hps; cases hps
      refine ⟨_, Reads.dict (kvs := []) ho hx.1 hd (by rw [hes]; exact .nil) (by rw [hes]; exact .nil), ?_⟩
      simp only [List.append_nil, List.mem_cons, List.not_mem_nil, or_false]
      exact ref_mods hm I hs
  | .opq _, p, _, _, _, e, _ => by simp only [Dt.pr] at e; cases e
  | .dic _ _, p, _, _, _, e, _ => by simp only [Dt.pr] at e; cases e
  | .ins _ _ _, p, _, _, _, e, _ => by simp only [Dt.pr] at e; cases e
theorem DrL.reads (hm : HasMods X.base) (I : Inv X pins σ H s) : ∀ (l : List Dt) (ps : List PyData) (vs : List V) (us : List Value), DrL X.K H vs l → prL l = some ps → Vals vs us → ∃ as, ReadsAll s.heap us ps as ∧ sysModules ∉ as
  | [], ps, _, _, h, e, r => by
    simp only [prL, Option.some.injEq] at e
    subst e
    cases h
    cases r
    exact ⟨_, ReadsAll.nil, by simp⟩
  | d :: l, ps, _, _, h, e, r => by
    simp only [prL, Option.bind_eq_some_iff, Option.map_eq_some_iff] at e
    obtain ⟨p, e1, qs, e2, rfl⟩ := e
    cases h with
    | cons h1 h2 =>
      cases r with
      | cons r1 r2 =>
        obtain ⟨as, q1, n1⟩ := Dr.reads hm I d p _ _ h1 e1 r1
        obtain ⟨bs, q2, n2⟩ := DrL.reads hm I l qs _ _ h2 e2 r2
        refine ⟨_, ReadsAll.cons q1 q2, ?_⟩
        rw [List.mem_append, not_or]
        exact ⟨n1, n2⟩
end
end
section
variable {Ω : Type} {X : Cx} {W : Wd Ω} {e a b : Expr} {p pa pb : DE Ω} {pos : Pos}
def wLr1 (p : DE Ω) : DL Ω := fun sl w C => p sl w fun d _ w' => ∃ n, d = .int n ∧ RgOk 0 n ∧ C (rngD 0 n.toNat) w'
def wLr2 (pa pb : DE Ω) : DL Ω := fun sl w C => pa sl w fun d _ w1 => pb sl w1 fun e _ w2 => ∃ i j, d = .int i ∧ e = .int j ∧ RgOk i j ∧ C (rngD i (j - i).toNat) w2
theorem rgV_D {K : PySem.W.Frag} {F : Hp} (i j : Int) : DrL K F (rgV i j) (rngD i (j - i).toNat) := by
  unfold rgV rngD
  generalize List.range (j - i).toNat = l
  induction l with
  | nil => exact .nil
  | cons x l ih =>
    rw [List.map_cons, List.map_cons]
    exact .cons (.int _) ih
theorem dl_r2 {p1 p2 pos2 : Pos} (hc : X.calm = true) (hg : Gl X "list") (hm : X.mg "list" = none) (hg2 : Gl X "range") (hm2 : X.mg "range" = none) (h : PD X W a pa) (h2 : PD X W b pb) (na : starEach [a, b] X.env = (false, eval a X.env) :: starEach [b] X.env := by rfl)
    (nb : starEach [b] X.env = (false, eval b X.env) :: starEach [] X.env := by rfl) (hpl : (backTo pos2 (starEach [b] X.env)).any (·.1) = false := by rfl)
    (na2 : starEach [Expr.Call (.Name "range" p2) [a, b] [] pos2] X.env = (false, eval (Expr.Call (.Name "range" p2) [a, b] [] pos2) X.env) :: starEach [] X.env := by rfl)
    (hrg : PRg X (.Call (.Name "range" p2) [a, b] [] pos2) (tRg2 (lft X.K W pa) (lft X.K W pb))) : PDL X W (.Call (.Name "list" p1) [.Call (.Name "range" p2) [a, b] [] pos2] [] pos) (wLr2 pa pb) := by
  refine ⟨pe_imp (pe_listRg hc hg hm hrg na2) fun σ H Q ⟨B, F, G, w, sl, r, z⟩ => ?_, fun sl w C C' hC z => h.mono _ _ _ _ (fun d fl w1 z => h2.mono _ _ _ _ (fun d2 fl2 w2 ⟨i, j, z0, z1, z2, z3⟩ => ⟨i, j, z0, z1, z2, hC _ _ z3⟩) z) z⟩
  refine ⟨B, F, G, w, sl, r, h.mono _ _ _ _ (fun d fl w1 z v F1 G1 H1 r1 e1 f1 => ?_) z⟩
  refine ⟨B, F1, G1, w1, sl, r1, h2.mono _ _ _ _ (fun d2 fl2 w2 ⟨i, j, z0, z1, z2, z3⟩ v2 F2 G2 H2 r2 e2 f2 => ?_) z⟩
  subst z0 z1
  have := ((f1.mono e2).da r2).int
  subst this
  have := (f2.da r2).int
  subst this
  exact ⟨i, j, rfl, rfl, z2, fun q hq => z3 q _ F2 G2 _ (r2.newOwn hq) (e1.trans e2) (r2.fresh hq).1 (r2.fresh hq).2 upd_same (r2.hr.f.free hq) (r2.hr.g.free hq) (rgV_D i j)⟩
end

/-! ### a def by its body, over data -/
def startD (n : Nat) (ds : List Dt) : Sl := ds.map (fun d => some (.dat d)) ++ List.replicate (n - ds.length) none
theorem start_ok {Ω : Type} {K : PySem.W.Frag} {W : Wd Ω} {B F G H : Hp} {w : Ω} {N : List Str} {vs : List V} {ds : List Dt} (h : HR W B F G H w) (d : DrL K F vs ds) : SR K W B F G H w (L2.start N vs) (startD N.length ds) := by
  have hl := d.len
  have get : ∀ (i : Nat) (x : Sv), (startD N.length ds)[i]? = some (some x) → ∃ e, ds[i]? = some e ∧ x = .dat e := fun i x q => by
    unfold startD at q
    rw [List.getElem?_append] at q
    split at q
    · rw [List.getElem?_map, Option.map_eq_some_iff] at q
      obtain ⟨e, h1, h2⟩ := q
      cases h2
      exact ⟨e, h1, rfl⟩
    · rw [List.getElem?_replicate] at q
      split at q <;> cases q
  refine ⟨h, ?_, fun i x q => ?_, fun i j v l m q => ?_⟩
  · unfold startD L2.start
    rw [List.length_append, List.length_map, List.length_replicate, List.length_append, List.length_map, List.length_replicate, hl]
  · obtain ⟨e, h1, rfl⟩ := get i x q
    obtain ⟨v, h2, h3⟩ := d.at h1
    refine ⟨v, ?_, h3⟩
    unfold L2.start
    have hi : i < vs.length := (List.getElem?_eq_some_iff.mp h2).1
    rw [List.getElem?_append_left (by rw [List.length_map]; exact hi), List.getElem?_map, h2]
    rfl
  · obtain ⟨e, _, h2⟩ := get i _ q
    cases h2
/-- THE RULE: a def of the text does what S says, if its body does so over data -/
theorem FnG.body {Ω : Type} {W : Wd Ω} {P : Program} {w : World} {K : PySem.W.Frag} {mg : Str → Option Value} {base : Heap} {CX : CXT} {k : Nat} {f : Addr} {fd : FuncData} {ps N : List Str} {x qual : Str} {st : Stmt} {S : Spc Ω}
    (F : L2.Fun K x qual st f fd) (sc : FnScope N ps (defScope st)) (len : ∀ ds w C, S.run ds w C → ds.length = ps.length)
    (hb : ∀ (cdv : Value) (A : Around) (outer : List Env) (s : Shared) (H : Hp) (E : XK), A.guards = some [] → Room k (A.deeper (envOfC qual (defScope st) s.heap.objs.size f cdv)) →
      ∃ p, PDB (cxOf CX P w K mg base N qual (defScope st) f cdv A outer s H E) W (defBody st) p ∧ ∀ ds w C, S.run ds w C → p { nx := fun _ w' => C .non w', rt := C, bk := fun _ _ => False, ct := fun _ _ => False } (startD N.length ds) w) :
    FnG P w K mg base CX (k + 1) f fd ps (spOf K W S) := by
  refine FnG.of F sc (fun vs H Q E h => ?_) fun cdv A outer s H vs Q E hgu hr h => ?_
  · obtain ⟨B, F', G, w', ds, h1, h2, h3⟩ := h
    rw [h2.len]
    exact len _ _ _ h3
  · obtain ⟨p, h1, h2⟩ := hb cdv A outer s H E hgu hr
    obtain ⟨B, F', G, w', ds, q1, q2, q3⟩ := h
    refine ⟨_, h1.run, B, F', G, w', _, start_ok q1 q2, h1.mono _ _ ?_ _ _ (h2 _ _ _ q3)⟩
    refine ⟨fun sl w z σ' F'' G' H' r e => ?_, fun d w z => z, fun _ _ z => z.elim, fun _ _ z => z.elim⟩
    exact z .non F'' G' H' r.hr e .non
end Ck
namespace Ck
open PySem PySem.Spec PyProof.Rows L2

/-! ### the end: the law's own call -/
section
variable {P : Program} {w : World} {K : PySem.W.Frag} {mg mb : Str → Option Value} {CX : CXT} {k : Nat} {fa a : Addr} {fd : FuncData} {x : Str} {sp : Sp} {s1 : Shared} {vs : List Value} {zs : List Int}
def EndOk (s1 : Shared) (r : Result) (s' : Shared) : Prop := r = .ok (.ret (.bool true)) ∧ OldK s1.heap s'.heap ∧ s'.os = s1.os ∧ AllBare s'.gens
/-- from an abstract heap that tracks at most the script -/
theorem call_core (KX : K.In s1.heap) (hns : s1.heap.Ns mainGlobals mg) (hb : s1.heap.Ns builtinsNs mb) (hbb : ∀ x : Str, x ≠ "__name__" → mb x = bootBuiltins x) (lim : s1.heap.NoLimit) (hg : s1.gens = #[])
    (ha : s1.heap.get? a = some ⟨.type "list", none, .seq vs.toArray 0, #[]⟩) (hr : Room k callerA)
    (hmod : ∃ mm, s1.heap.Ns sysModules mm) (F : ∀ base : Heap, K.In base → base.Ns mainGlobals mg → HasMods base → FnG P w K mg base CX k fa fd [x] sp) (hbind : ∀ (s : Shared) (u : Value), BindsTo s fd ⟨[u], []⟩ [(x, u)])
    (hCX : ∀ H e s', ¬ CX [] H s1 (fun _ _ _ => False) e s') (H : Hp) (hO : Only H) (hS : sp [.ref a] H (fun v _ => v = .bl true) fun _ _ _ => False) (ok : HOk P w H s1.heap) (hA : ∀ b, H b ≠ none → b = a) (hK : H a ≠ none → K.lookup a = none) :
    codeAny (model P w) callerA (.call (.ref fa) ⟨[.ref a], []⟩) (EndOk s1) s1 := by
  have stays : ∀ {b : Addr} {o : Obj}, s1.heap.get? b = some o → H b = none → (hidT s1.heap H).get? b = some o := fun e n => hidT_get e n
  have noDict : ∀ {b : Addr} {o : Obj} {es : Array DictEntry} {ep : Nat}, s1.heap.get? b = some o → o.data = .dict es ep → H b = none := by
    intro b o es ep e d
    cases q : H b with
    | none => rfl
    | some u =>
      obtain rfl := hA b (by rw [q]; simp)
      rw [ha] at e
      cases e
      cases d
  have nsT : ∀ {b : Addr} {m : Str → Option Value}, s1.heap.Ns b m → (hidT s1.heap H).Ns b m := by
    rintro b m ⟨o, es, ep, e, d, r⟩
    exact ⟨o, es, ep, stays e (noDict e d), d, r⟩
  have kT : K.In (hidT s1.heap H) := by
    intro b o e
    refine stays (KX b o e) ?_
    cases q : H b with
    | none => rfl
    | some u =>
      obtain rfl := hA b (by rw [q]; simp)
      rw [hK (by rw [q]; simp)] at e
      cases e
  have limT : (hidT s1.heap H).NoLimit := by
    obtain ⟨mc, h1, h2⟩ := lim
    exact ⟨mc, nsT h1, h2⟩
  have modT : HasMods (hidT s1.heap H) := by
    obtain ⟨mm, hm⟩ := hmod
    obtain ⟨o, _, _, e, _⟩ := nsT hm
    exact ⟨o, e⟩
  have e0 : Env0 P w K mg (hidT s1.heap H) callerA [] s1 H := by
    refine ⟨rfl, ⟨kT, nsT hns, ⟨mb, nsT hb, hbb⟩, limT⟩, fun b o e => of_hidT e, Nat.le_of_eq (hidT_size _ _), trivial, ?_, ok, .of_eq hg⟩
    intro b hb
    cases (show b ∈ ([] : List Addr) from hb)
  refine codeAny_mono ((F _ kT (nsT hns) modT).run callerA [] s1 H ⟨[.ref a], []⟩ [.ref a] [.ref a] _ _ rfl hr e0 (hbind s1 (.ref a)) (.cons rfl .nil) hS) ?_
  intro r s' h
  match r, h with
  | .error e, h => exact (hCX H e s' h).elim
  | .ok .next, h => exact h.elim
  | .ok .brk, h => exact h.elim
  | .ok .cont, h => exact h.elim
  | .ok (.ret u), h =>
    obtain ⟨v, H', os, bare, un, ok', rv, q⟩ := h
    obtain rfl : v = .bl true := q
    obtain rfl : u = Value.bool true := rv
    refine ⟨rfl, OldK.of_keep fun b o e => ?_, os, bare⟩
    cases q : H b with
    | none => exact un.keep b o e q (by intro z; cases (show b ∈ ([] : List Addr) from z)) (by simp)
    | some u =>
      rcases hO b with z | ⟨ob, ys, z⟩
      · rw [q] at z
        cases z
      · have z2 := un.frzs b ob _ z
        have e1 := (ok b _ z).1
        have e2 := (ok' b _ z2).1
        rw [e] at e1
        cases e1
        exact e2
theorem call_law (KX : K.In s1.heap) (hns : s1.heap.Ns mainGlobals mg) (hb : s1.heap.Ns builtinsNs mb) (hbb : ∀ x : Str, x ≠ "__name__" → mb x = bootBuiltins x) (lim : s1.heap.NoLimit) (hg : s1.gens = #[])
    (ha : s1.heap.get? a = some ⟨.type "list", none, .seq vs.toArray 0, #[]⟩) (hi : IntsAre vs zs) (hl : zs.length ≤ sizeLine) (hr : Room k callerA)
    (hmod : ∃ mm, s1.heap.Ns sysModules mm) (F : ∀ base : Heap, K.In base → base.Ns mainGlobals mg → HasMods base → FnG P w K mg base CX k fa fd [x] sp) (hbind : ∀ (s : Shared) (u : Value), BindsTo s fd ⟨[u], []⟩ [(x, u)])
    (hsp : ∀ H : Hp, Only H → SqL K H a (zs.map V.int) → sp [.ref a] H (fun v _ => v = .bl true) fun _ _ _ => False) (hCX : ∀ H e s', ¬ CX [] H s1 (fun _ _ _ => False) e s') :
    codeAny (model P w) callerA (.call (.ref fa) ⟨[.ref a], []⟩) (EndOk s1) s1 := by
  have rv := vals_ints hi
  have core := fun H hO hS => call_core (sp := sp) KX hns hb hbb lim hg ha hr hmod F hbind hCX H hO (hsp H hO hS)
  cases hk : K.lookup a with
  | some o =>
    have e := (KX a o hk).symm.trans ha
    cases e
    refine core (fun _ => none) (fun _ => .inl rfl) (.inr ⟨_, vs.toArray, _, hk, rfl, rfl, rfl, ?_, ?_⟩) ?_ (fun b z => absurd rfl z) fun z => absurd rfl z
    · rw [List.size_toArray, hi.length]
      exact hl
    · simpa using rv
    · intro b u z
      cases (show (none : Option HO) = some u from z)
  | none =>
    refine core (fun b => if b = a then some (.frz ⟨.type "list", none, .seq vs.toArray 0, #[]⟩ (.lst (zs.map V.int))) else none) ?_ (.inl (.inr ⟨⟨.type "list", none, .seq vs.toArray 0, #[]⟩, if_pos rfl⟩)) ?_ ?_ fun _ => hk
    · intro b
      by_cases h : b = a
      · exact .inr ⟨_, _, if_pos h⟩
      · exact .inl (if_neg h)
    · intro b u z
      by_cases h : b = a
      · subst h
        have z' := (if_pos rfl).symm.trans z
        cases z'
        exact ⟨ha, by rw [List.length_map]; exact hl, vs, _, rv, ha⟩
      · have z' := (if_neg h).symm.trans z
        cases z'
    · intro b z
      by_cases h : b = a
      · exact h
      · exact absurd (if_neg h) z
end
theorem walk_G {l : PySem.W.OpenLaw} {n k : Nat} {q : Program} {loose : List Str} {XP : (Str → Option Value) → Heap → Prop} {YP : World → Heap → Prop} {d : DefRec} {K : Params → PySem.W.Frag} {CX : World → CXT} {sp : World → Sp} {x : Str}
    (hseer : PyProof.Rows.importsNone q = true) (hn : l.most = some n) (hn2 : n ≤ sizeLine) (hdf : d.params.defaults = []) (hr : Room k callerA) (hY : ∀ (w : World) (h : Heap), YP w h → (K w.params).In h)
    (F : ∀ (w : World) (mg : Str → Option Value) (fa : Addr) (h : Heap), (K w.params).In h → h.Ns mainGlobals mg → mg d.name = some (.ref fa) →
      ∃ fd : FuncData, (∀ (s : Shared) (u : Value), BindsTo s fd ⟨[u], []⟩ [(x, u)]) ∧ ∀ base : Heap, (K w.params).In base → base.Ns mainGlobals mg → HasMods base → FnG l.prog w (K w.params) mg base (CX w) k fa fd [x] (sp w))
    (hsp : ∀ (w : World) (H : Hp) (a : Addr) (zs : List Int), zs.length ≤ n → (∀ z ∈ zs, Builtin.Int.intBits z ≤ 1048576) → Only H → SqL (K w.params) H a (zs.map V.int) → sp w [.ref a] H (fun v _ => v = .bl true) fun _ _ _ => False)
    (hCX : ∀ (w : World) (H : Hp) (s : Shared) (e : Value) (s' : Shared), ¬ CX w [] H s (fun _ _ _ => False) e s') : PySem.W.WalkO q loose XP YP l.row.toRowW d [] (fun f vs => PySem.call f vs) := by
  refine Att.attach_callB hn hdf ?_
  intro w s0 s1 mg mb fa o pm cd doc a vs zs G Y ho hd hcd hmg hobj hints hlen hbits hg
  have KX := hY w _ Y
  obtain ⟨fd, hb, hF⟩ := F w mg fa _ KX G.T.g hmg
  refine call_law KX G.T.g G.T.b G.T.builtins G.T.nolimit hg hobj hints (Nat.le_trans hlen hn2) hr (let ⟨mm, hm, _⟩ := (G.T.seer hseer).mods; ⟨mm, hm⟩) hF hb (fun H hO hS => ?_) (fun H e s' => hCX w H s1 e s')
  exact hsp w H a zs hlen hbits hO hS

/-! ### a block that is reached in several ways -/
/-! ### the deck of draws -/
structure Dw where
  p : Addr
  n : Nat
structure DeckAt (G : Hp) (p c r : Addr) (cells rests : List Int) (t : Int) : Prop where
  hp : G p = some (.lst [.ref c, .int t, .ref r])
  hc : G c = some (.lst (cells.map V.int))
  hr : G r = some (.lst (rests.map V.int))
  pc : p ≠ c
  pr : p ≠ r
  cr : c ≠ r
  len : rests.length = cells.length
  pos : 0 < cells.length
  few : cells.length ≤ 63
def DeckW : Wd Dw where
  ok := fun w _ G => ∃ c r cells rests t, DeckAt G w.p c r cells rests t ∧ 0 ≤ t ∧ t + (w.n : Int) ≤ 2 ^ 40
  bk := fun _ => True
  monoF := fun _ _ _ _ _ h => h
  monoB := fun _ _ _ h => h
/-- a number drawn below another one -/
def sDraw : Spc Dw where
  run ds w C := ∃ n : Int, ds = [.opq (.ref w.p), .int n] ∧ 0 < n ∧ n < 2 ^ 60 ∧ 1 ≤ w.n ∧ ∀ (i : Int) (m : Nat), 0 ≤ i → i < n → w.n ≤ m + 1 → C (.int i) ⟨w.p, m⟩
  mono := fun ds w C C' hC ⟨n, h1, h2, h3, h4, h5⟩ => ⟨n, h1, h2, h3, h4, fun i m a b c => hC _ _ (h5 i m a b c)⟩
end Ck
namespace Ck
open PySem PySem.Spec PyProof.Rows L2
/-- a world of which nothing is asked -/
def Wd.all : Wd Unit := ⟨fun _ _ _ => True, fun _ => True, fun _ _ _ _ _ _ => trivial, fun _ _ _ _ => trivial⟩
/-- one of the world's own objects changes -/
theorem HR.setG {Ω Ω' : Type} {W : Wd Ω} {W' : Wd Ω'} {B F G H : Hp} {w : Ω} {w' : Ω'} {a : Addr} {o o' : HO} (r : HR W B F G H w) (h : G a = some o) (ht : ¬ IsTp o) (hw : W'.ok w' F (upd G a o')) (hk : W'.bk B) : HR W' B F (upd G a o') (upd H a o') w' := by
  have hB : B a = none := by
    cases q : B a with
    | none => rfl
    | some u =>
      have h1 := r.b a u q
      have h2 := r.g a o h
      rw [h1.1] at h2
      cases h2
      have := h1.2.2.resolve_right ht
      rw [h] at this
      cases this
  have hF : F a = none := by
    cases q : F a with
    | none => rfl
    | some u =>
      have h1 := r.f a u q
      have h2 := r.g a o h
      rw [h1] at h2
      cases h2
      have := (r.d a _ q).resolve_right ht
      rw [h] at this
      cases this
  refine ⟨fun b x e => ?_, fun b x e => ?_, fun b x e => ?_, fun b x e => ?_, hw, hk⟩
  · obtain ⟨h1, h2, h3⟩ := r.b b x e
    have hn : b ≠ a := ne_of_none e hB
    rw [upd_ne hn, upd_ne hn]
    exact ⟨h1, h2, h3⟩
  · rw [upd_ne (ne_of_none e hF)]
    exact r.f _ _ e
  · by_cases hb : b = a
    · subst hb
      rw [upd_same] at e ⊢
      exact e
    · rw [upd_ne hb] at e ⊢
      exact r.g _ _ e
  · rw [upd_ne (ne_of_none e hF)]
    exact r.d _ _ e
end Ck
namespace Ck
open PySem PySem.Spec PyProof.Rows L2

/-! ### defs that others call -/
structure Callee {Ω : Type} (P : Program) (w : World) (K : PySem.W.Frag) (mg : Str → Option Value) (base : Heap) (k : Nat) (x : Str) (ps : List Str) (W : Wd Ω) (S : Spc Ω) : Prop where
  ex : ∃ (f : Addr) (fd : FuncData), FnG P w K mg base CX0 k f fd ps (spOf K W S) ∧ mg x = some (.ref f) ∧ PySem.W.keepIn K (.ref f) = true ∧ Binds K fd ps []
structure Has (K : PySem.W.Frag) (mg : Str → Option Value) (x : Str) (st : Stmt) : Prop where
  ex : ∃ (f : Addr) (fd : FuncData), L2.Fun K x x st f fd ∧ mg x = some (.ref f)
theorem has_mk {K : PySem.W.Frag} {mg : Str → Option Value} {h : Heap} {x : Str} {st : Stmt} {f : Addr} {od an : Option Addr} {sl : Array (Option Value)} {oc kV dc pm cd ct : Value} (X : K.In h) (G : h.Ns mainGlobals mg)
    (a : PySem.W.nsIn K mainGlobals x = some (some (.ref f))) (l : K.lookup f = some ⟨oc, od, .func (PySem.W.fnOf x x (defArgs st) (defBody st) (defScope st) .none kV dc pm an cd ct), sl⟩) (c : PySem.W.codeIn K cd x = true) (k : PySem.W.keepIn K (.ref f) = true) : Has K mg x st :=
  ⟨f, _, L2.fun_mk l c k, PySem.W.mg_of X G a⟩
theorem PDB.nox {Ω : Type} {X : Cx} {W : Wd Ω} {sts : List Stmt} {p : DS Ω} (h : PDB X.nox W sts p) : PDB X W sts p := ⟨PSs.nox (X := X) h.run, h.mono⟩
section
variable {Ω : Type} {P : Program} {w : World} {K : PySem.W.Frag} {mg : Str → Option Value} {base : Heap} {k : Nat} {x : Str} {ps N : List Str} {W : Wd Ω} {S : Spc Ω} {st : Stmt} {p : DS Ω}
def endD (C : Dt → Ω → Prop) : DD Ω := { nx := fun _ w' => C .non w', rt := C, bk := fun _ _ => False, ct := fun _ _ => False }
theorem Callee.mk' (h : Has K mg x st) (sc : FnScope N ps (defScope st))
    (hbd : ∀ (kV doc pm : Value) (an : Option Addr) (cdv ct : Value) (us : List Value), us.length = ps.length → bindArgs (PySem.W.fnOf x x (defArgs st) (defBody st) (defScope st) .none kV doc pm an cdv ct) ⟨us, []⟩ = pure (ps.zip us))
    (len : ∀ ds w C, S.run ds w C → ds.length = ps.length)
    (hb : ∀ (f : Addr) (cdv : Value) (A : Around) (outer : List Env) (s : Shared) (H : Hp) (E : XK), A.guards = some [] → Room k (A.deeper (envOfC x (defScope st) s.heap.objs.size f cdv)) →
      PDB (cxOf CX0 P w K mg base N x (defScope st) f cdv A outer s H E).nox W (defBody st) p)
    (m : ∀ ds w C, S.run ds w C → p (endD C) (startD N.length ds) w) : Callee P w K mg base (k + 1) x ps W S := by
  obtain ⟨f, fd, F, hm⟩ := h.ex
  exact ⟨f, fd, FnG.body F sc len fun cdv A outer s H E hgu hr => ⟨p, (hb f cdv A outer s H E hgu hr).nox, m⟩, hm, F.kp, F.binds hbd⟩
end
section
variable {Ω : Type} {X : Cx} {W : Wd Ω} {e a b : Expr} {es : List Expr} {S : Spc Ω} {pa : DL Ω} {p : DE Ω} {x : Str} {q pos : Pos} {k j : Nat} {ps : List Str}
theorem d_calle (c : Callee X.prog X.w X.K X.mg X.base j x ps W S) (hgu : X.A.guards = some []) (hr : Room k X.A) (hjk : j ≤ k) (hg : Gl X x) (ha : PDA X W (e :: es) pa) (hdb : (x == ("__debug__" : Str)) = false := by decide)
    (he : starEach (e :: es) X.env = (false, eval e X.env) :: starEach es X.env := by rfl) (hpl : (backTo pos (starEach es X.env)).any (·.1) = false := by rfl) : PD X W (.Call (.Name x q) (e :: es) [] pos) (wCall S pa) := by
  have pass : Passes CX0 X E0 := pass0
  have H := c.ex
  constructor
  · constructor
    intro pins s σ H0 Q I z
    obtain ⟨f, fd, g, hm, hk, hb⟩ := H
    exact (d_call g hgu (hr.mono hjk) hg hm hk hb pass ha hdb he hpl).run.run pins s σ H0 Q I z
  · intro sl w C C' hC z
    exact ha.mono _ _ _ _ (fun ds w1 z1 => S.mono _ _ _ _ (fun d w2 => hC _ _ _) z1) z
def wNeg (p : DE Ω) : DE Ω := fun sl w C => p sl w fun d _ w' => ∃ i, d = .int i ∧ C (.int (-i)) .cl w'
theorem d_neg (h : PD X W e p) : PD X W (.UnaryOp .USub e pos) (wNeg p) := by
  refine ⟨pe_imp (pe_un un_neg h.run) fun σ H Q ⟨B, F, G, w, sl, r, z⟩ => ?_, fun sl w C C' hC z => h.mono _ _ _ _ (fun d fl w1 ⟨i, z0, z1⟩ => ⟨i, z0, hC _ _ _ z1⟩) z⟩
  refine ⟨B, F, G, w, sl, r, h.mono _ _ _ _ (fun d fl w1 ⟨i, z0, z1⟩ v F1 G1 H1 r1 e1 f1 => ?_) z⟩
  subst z0
  have := (f1.da r1).int
  subst this
  exact ⟨i, rfl, z1 _ F1 G1 H1 r1 e1 (.int _)⟩
end

/-! ### forms of what a def does -/
/-- data alone: arguments by a label i, where it is asked for, what comes back -/
def pureS {Ω : Type} {ι : Type} (args : ι → List Dt) (ok : ι → Prop) (res : ι → Dt) : Spc Ω where
  run ds w C := ∃ i, ds = args i ∧ ok i ∧ C (res i) w
  mono := fun ds w C C' hC ⟨i, h1, h2, h3⟩ => ⟨i, h1, h2, hC _ _ h3⟩
/-- with draws: the deck first; at most so many draws; one of some answers -/
def drawS {ι : Type} (args : ι → List Dt) (ok : ι → Prop) (cost : ι → Nat) (post : ι → Dt → Prop) : Spc Dw where
  run ds w C := ∃ i, ds = .opq (.ref w.p) :: args i ∧ ok i ∧ cost i ≤ w.n ∧ ∀ d m, post i d → w.n ≤ m + cost i → C d ⟨w.p, m⟩
  mono := fun ds w C C' hC ⟨i, h1, h2, h3, h4⟩ => ⟨i, h1, h2, h3, fun d m a b => hC _ _ (h4 d m a b)⟩
end Ck
namespace Ck
open PySem PySem.Spec PyProof.Rows L2

/-! ### set(xs) of a list of ints -/

/-! ### sorted(set(xs)) -/
theorem nodup_le {α : Type} [BEq α] [LawfulBEq α] : ∀ {l m : List α}, l.Nodup → (∀ k ∈ l, k ∈ m) → l.length ≤ m.length
  | [], _, _, _ => Nat.zero_le _
  | a :: l, m, h, hs => by
    have ha : a ∈ m := hs a List.mem_cons_self
    have hn := List.nodup_cons.mp h
    have ih := nodup_le (l := l) (m := m.erase a) hn.2 fun k hk => by
      have hne : k ≠ a := fun z => hn.1 (z ▸ hk)
      exact (List.mem_erase_of_ne hne).mpr (hs k (List.mem_cons_of_mem _ hk))
    rw [List.length_erase_of_mem ha] at ih
    have := List.length_pos_of_mem ha
    rw [List.length_cons]
    omega
section
variable {Ω : Type} {X : Cx} {W : Wd Ω} {a : Expr} {p : DE Ω}
def wSortSet (p : DE Ω) : DL Ω := fun sl w C => p sl w fun d _ w' => ∃ ns ms : List Int, d = .lst (ns.map .int) ∧ ns.length ≤ 4000 ∧ ms.length < 64 ∧ (∀ k ∈ ns, k ∈ ms) ∧
  ∀ us : List Int, us.Pairwise (· < ·) → (∀ k, k ∈ us ↔ k ∈ ns) → C (us.map .int) w'
end
end Ck
namespace Ck
open PySem PySem.Spec PyProof.Rows L2

/-! ### t[::-1] of a tuple -/
section
variable {Ω : Type} {X : Cx} {W : Wd Ω} {a : Expr} {p : DE Ω} {k : Nat} {p1 p2 p3 pos : Pos}
def wRevL (p : DE Ω) : DL Ω := fun sl w C => p sl w fun d _ w' => ∃ l, d = .lst l ∧ C l.reverse w'
def wRevT (p : DE Ω) : DE Ω := fun sl w C => p sl w fun d _ w' => ∃ l, d = .tup l ∧ C (.tup l.reverse) .cl w'
end

/-! ### list(zip(xs, ys)) -/
def ZS (h : Heap) (a b z TI TO i1 i2 S : Addr) (i : Nat) : Prop := (∃ o, h.get? TO = some o) ∧ IsPair h TI (.ref i1) (.ref i2) ∧ h.IsListIter i1 a i ∧ h.IsListIter i2 b i ∧
  ((IsZip h z TI TO .none ∧ ∃ x y, IsPair h TO x y) ∨ ∃ T f oT, IsZipHeld h z TI TO T f ∧ h.get? T = some oT ∧ T ≠ z ∧ T ≠ i1 ∧ T ≠ i2 ∧ T ≠ S)
theorem ZS.keep {h h' : Heap} {a b z TI TO i1 i2 S : Addr} {i : Nat} (x : ZS h a b z TI TO i1 i2 S i) (hz : z ≠ S) (hTI : TI ≠ S) (hTO : TO ≠ S) (h1 : i1 ≠ S) (h2 : i2 ≠ S) (k : ∀ c o, c ≠ S → h.get? c = some o → h'.get? c = some o) : ZS h' a b z TI TO i1 i2 S i := by
  obtain ⟨⟨o0, p0⟩, p1, p2, p3, p4⟩ := x
  refine ⟨⟨o0, k _ _ hTO p0⟩, k _ _ hTI p1, p2.at fun o e => k _ o h1 e, p3.at fun o e => k _ o h2 e, ?_⟩
  rcases p4 with ⟨q1, x, y, q2⟩ | ⟨T, f, oT, q1, q2, q3, q4, q5, q6⟩
  · exact .inl ⟨k _ _ hz q1, x, y, k _ _ hTO q2⟩
  · exact .inr ⟨T, f, oT, k _ _ hz q1, k _ _ q6 q2, q3, q4, q5, q6⟩
end Ck
namespace Ck
open PySem PySem.Spec PyProof.Rows L2

/-! ### small lemmas about what is done over data -/
theorem size1M {n : Nat} (h : n ≤ 1000000) : n ≤ sizeLine := by
  rw [sizeLine_eq]
  omega
theorem mulx60 {i j : Int} (h1 : -(2 ^ 60) < i) (h2 : i < 2 ^ 60) (h3 : -(2 ^ 60) < j) (h4 : j < 2 ^ 60) : CMulX i j := mulx_ok (a := 60) (b := 60) (by omega) (by omega) (by decide)
theorem divw60 {i j : Int} (h1 : 0 < j) (h2 : j < 2 ^ 60) : CDivW i j := wide_div (b := 60) h1 (by omega) (by decide) (by decide)
theorem atI_ofNat {α : Type} {l : List α} {i : Nat} {d : α} (h : l[i]? = some d) : L2.atI l (i : Int) = some d := atI_nat h
theorem atI_int {α : Type} {l : List α} {i : Int} {d : α} (h0 : 0 ≤ i) (h : l[i.toNat]? = some d) : L2.atI l i = some d := by
  have e : i = (i.toNat : Int) := (Int.toNat_of_nonneg h0).symm
  rw [e]
  exact atI_nat h
section
variable {Ω : Type} {tg : Tg} {t : DT Ω} {pe : DE Ω} {sl0 : Sl}
/-- a comprehension over data without draws -/
theorem lc_typed {α : Type} (enc : α → Dt) (b : α → Bool) (f : α → Dt) {w : Ω} : ∀ (ys : List α) {C : List Dt → Ω → Prop},
    (∀ y ∈ ys, ∃ sl', bindTg tg (enc y) sl0 = some sl' ∧ (∀ C : Bool → Ω → Prop, C (b y) w → t sl' w C) ∧ (b y = true → ∀ C : Dt → Fl → Ω → Prop, C (f y) .cl w → pe sl' w C)) → C ((ys.filter b).map f) w → lcLoop tg t pe sl0 (ys.map enc) w C
  | [], C, _, hC => hC
  | y :: ys, C, h, hC => by
    obtain ⟨sl', h1, h2, h3⟩ := h y List.mem_cons_self
    have ih := fun C => lc_typed enc b f (C := C) ys fun z hz => h z (List.mem_cons_of_mem _ hz)
    refine ⟨sl', h1, h2 _ ?_⟩
    cases hb : b y with
    | false =>
      rw [List.filter_cons, hb] at hC
      exact ih _ hC
    | true =>
      rw [List.filter_cons, hb] at hC
      exact h3 hb _ ⟨rfl, ih _ hC⟩
theorem lc_map {α : Type} (enc : α → Dt) (f : α → Dt) {w : Ω} (ys : List α) {C : List Dt → Ω → Prop} (h : ∀ y ∈ ys, ∃ sl', bindTg tg (enc y) sl0 = some sl' ∧ ∀ C : Dt → Fl → Ω → Prop, C (f y) .cl w → pe sl' w C) (hC : C (ys.map f) w) : lcLoop tg wYes pe sl0 (ys.map enc) w C :=
  lc_typed enc (fun _ => true) f ys (fun y hy => let ⟨sl', h1, h2⟩ := h y hy; ⟨sl', h1, fun C z => z, fun _ => h2⟩) (by rw [List.filter_eq_self.mpr (fun _ _ => rfl)]; exact hC)
end
/-- one with draws: each turn at most c of them, each item as P says -/
theorem lc_draw {tg : Tg} {pe : DE Dw} {sl0 : Sl} {α : Type} (enc : α → Dt) (P : α → Dt → Prop) (c : Nat) {p : Addr} : ∀ (ys : List α) {n : Nat} {C : List Dt → Dw → Prop},
    (∀ y ∈ ys, ∃ sl', bindTg tg (enc y) sl0 = some sl' ∧ ∀ (n : Nat) (C : Dt → Fl → Dw → Prop), c ≤ n → (∀ d m, P y d → n ≤ m + c → C d .cl ⟨p, m⟩) → pe sl' ⟨p, n⟩ C) → ys.length * c ≤ n →
    (∀ ds m, ds.length = ys.length → (∀ d ∈ ds, ∃ y ∈ ys, P y d) → n ≤ m + ys.length * c → C ds ⟨p, m⟩) → lcLoop tg wYes pe sl0 (ys.map enc) ⟨p, n⟩ C
  | [], n, C, _, _, hC => hC [] n rfl (by simp) (by simp)
  | y :: ys, n, C, h, hn, hC => by
    obtain ⟨sl', h1, h2⟩ := h y List.mem_cons_self
    rw [List.length_cons, Nat.add_mul] at hn
    refine ⟨sl', h1, ?_⟩
    show pe sl' ⟨p, n⟩ _
    refine h2 n _ (by omega) fun d m hd hm => ⟨rfl, ?_⟩
    refine lc_draw enc P c ys (fun z hz => h z (List.mem_cons_of_mem _ hz)) (by omega) fun ds k hl hds hk => ?_
    refine hC (d :: ds) k (by rw [List.length_cons, hl, List.length_cons]) (fun x hx => ?_) (by rw [List.length_cons, Nat.add_mul]; omega)
    rcases List.mem_cons.mp hx with rfl | hx
    · exact ⟨y, List.mem_cons_self, hd⟩
    · obtain ⟨z, hz, q⟩ := hds x hx
      exact ⟨z, List.mem_cons_of_mem _ hz, q⟩
theorem loop_drawA {tg : Tg} {body : DS Dw} {D : DD Dw} {α : Type} (enc : α → Dt) (c : Nat) {p : Addr} (J : Nat → Sl → Prop) (zs : List α)
    (h : ∀ (i : Nat) (y : α) (sl : Sl), zs[i]? = some y → J i sl → ∃ sl', bindTg tg (enc y) sl = some sl' ∧ ∀ (n : Nat) (N : Sl → Dw → Prop), c ≤ n → (∀ s m, J (i + 1) s → n ≤ m + c → N s ⟨p, m⟩) → body { D with nx := N, ct := N, bk := D.nx } sl' ⟨p, n⟩) : ∀ (ys : List α) {n i : Nat} {sl : Sl},
    (∀ j, zs[i + j]? = ys[j]?) → J i sl → ys.length * c ≤ n → (∀ s m, J (i + ys.length) s → n ≤ m + ys.length * c → D.nx s ⟨p, m⟩) → wLoop tg body D (ys.map enc) sl ⟨p, n⟩
  | [], n, i, sl, _, hj, _, hC => hC sl n hj (by simp)
  | y :: ys, n, i, sl, e, hj, hn, hC => by
    rw [List.length_cons, Nat.add_mul] at hn
    obtain ⟨sl', h1, h2⟩ := h i y sl (by simpa using e 0) hj
    refine ⟨sl', h1, ?_⟩
    refine h2 n _ (by omega) fun s m hs hm => ?_
    refine loop_drawA enc c J zs h ys (i := i + 1) (fun j => by have := e (j + 1); rw [List.getElem?_cons_succ] at this; rw [← this]; congr 1; omega) hs (by omega) fun s k hk hkm => ?_
    refine hC s k ?_ (by rw [List.length_cons, Nat.add_mul]; omega)
    rw [List.length_cons, Nat.add_comm ys.length 1, ← Nat.add_assoc]
    exact hk
/-- a for loop with draws: each turn at most c of them; J, what holds of the slots behind so many turns -/
theorem loop_drawN {tg : Tg} {body : DS Dw} {D : DD Dw} {α : Type} (enc : α → Dt) (c : Nat) {p : Addr} (J : Nat → Sl → Prop) (zs : List α) {n : Nat} {sl : Sl}
    (h : ∀ (i : Nat) (y : α) (sl : Sl), zs[i]? = some y → J i sl → ∃ sl', bindTg tg (enc y) sl = some sl' ∧ ∀ (n : Nat) (N : Sl → Dw → Prop), c ≤ n → (∀ s m, J (i + 1) s → n ≤ m + c → N s ⟨p, m⟩) → body { D with nx := N, ct := N, bk := D.nx } sl' ⟨p, n⟩)
    (h0 : J 0 sl) (hn : zs.length * c ≤ n) (hC : ∀ s m, J zs.length s → n ≤ m + zs.length * c → D.nx s ⟨p, m⟩) : wLoop tg body D (zs.map enc) sl ⟨p, n⟩ :=
  loop_drawA enc c J zs h zs (fun j => by rw [Nat.zero_add]) h0 hn (fun s m hj hm => hC s m (by rwa [Nat.zero_add] at hj) hm)
section
variable {Ω : Type} {tg : Tg} {body : DS Ω} {D : DD Ω} {w : Ω}
/-- a loop without draws that looks at its items one after another: R i, the i-th one ends it; J, what holds of the slots -/
theorem loop_any (J : Nat → Sl → Prop) (R : Nat → Bool) : ∀ (xs : List Dt) (k : Nat) (sl : Sl),
    (∀ (i : Nat) (d : Dt) (sl : Sl), xs[i]? = some d → (∀ j, j < k + i → R j = false) → J (k + i) sl → ∃ sl', bindTg tg d sl = some sl' ∧ ∀ N : Sl → Ω → Prop, (R (k + i) = false → ∀ s, J (k + i + 1) s → N s w) → body { D with nx := N, ct := N, bk := D.nx } sl' w) →
    (∀ j, j < k → R j = false) → J k sl → ((∀ j, j < k + xs.length → R j = false) → ∀ s, J (k + xs.length) s → D.nx s w) → wLoop tg body D xs sl w
  | [], k, sl, _, hk, hj, hC => hC hk sl hj
  | x :: xs, k, sl, h, hk, hj, hC => by
    obtain ⟨sl', h1, h2⟩ := h 0 x sl rfl hk hj
    refine ⟨sl', h1, ?_⟩
    refine h2 _ fun hR s hs => ?_
    refine loop_any J R xs (k + 1) s (fun i d sl hd hb hj => ?_) (fun j hj => ?_) hs (fun hb s hj => ?_)
    · have e : k + 1 + i = k + (i + 1) := by omega
      rw [e] at hb hj ⊢
      exact h (i + 1) d sl hd hb hj
    · rcases Nat.lt_succ_iff_lt_or_eq.mp hj with z | z
      · exact hk j z
      · rw [z]
        exact hR
    · have e : k + 1 + xs.length = k + (x :: xs).length := by
        rw [List.length_cons]
        omega
      rw [e] at hb hj
      exact hC hb s hj
theorem loop_map {α : Type} (enc : α → Dt) (ys : List α) (J : Nat → Sl → Prop) (R : Nat → Bool) {sl : Sl}
    (h : ∀ (i : Nat) (y : α) (sl : Sl), ys[i]? = some y → (∀ j, j < i → R j = false) → J i sl → ∃ sl', bindTg tg (enc y) sl = some sl' ∧ ∀ N : Sl → Ω → Prop, (R i = false → ∀ s, J (i + 1) s → N s w) → body { D with nx := N, ct := N, bk := D.nx } sl' w)
    (h0 : J 0 sl) (hC : (∀ j, j < ys.length → R j = false) → ∀ s, J ys.length s → D.nx s w) : wLoop tg body D (ys.map enc) sl w := by
  refine loop_any J R _ 0 sl (fun i d sl hd hb hj => ?_) (fun j hj => absurd hj (Nat.not_lt_zero j)) h0 (fun hb s hj => ?_)
  · rw [List.getElem?_map, Option.map_eq_some_iff] at hd
    obtain ⟨y, hy, rfl⟩ := hd
    rw [Nat.zero_add] at hb hj ⊢
    exact h i y sl hy hb hj
  · rw [Nat.zero_add, List.length_map] at hb hj
    exact hC hb s hj
end
abbrev rngN (lo : Int) (i : Nat) : Dt := .int (lo + i)
theorem rngD_eq (lo : Int) (n : Nat) : rngD lo n = (List.range n).map (rngN lo) := rfl

/-! ### draws -/
abbrev S_law_draw := sDraw
def S_law_one : Spc Dw := drawS (ι := List Dt) (fun l => [.lst l]) (fun l => 0 < l.length ∧ l.length ≤ 1000000) (fun _ => 1) (fun l d => d ∈ l)
/-- the law's slots behind its first line; all draws that it may make -/
def lawSl (n : Nat) (a p : Addr) : Sl := (startD n [.opq (.ref a)]).set 1 (some (.dat (.opq (.ref p))))
def allD : Nat := 1099511627776
end Ck
namespace Ck
open PySem PySem.Spec PyProof.Rows L2
/-! ### what is shown -/
structure Shp (k n : Nat) (p : PyData) : Prop where
  lf : p.leavesShort 20 = true
  sh : p.showable = true
  bk : p.bulk ≤ k
  dp : p.depth ≤ n
structure ShpL (k n : Nat) (p : List PyData) : Prop where
  lf : PyData.leavesShortAll 20 p = true
  sh : PyData.showableAll p = true
  bk : PyData.bulkAll p ≤ k
  dp : PyData.depthAll p ≤ n
/-- d can be shown: k bounds its items, n its depth -/
def Shw (k n : Nat) (d : Dt) : Prop := ∃ p, d.pr = some p ∧ Shp k n p
def ShwL (k n : Nat) (l : List Dt) : Prop := ∃ p, prL l = some p ∧ ShpL k n p
theorem Shw.mono {k n k' n' : Nat} {d : Dt} (h : Shw k n d) (hk : k ≤ k') (hn : n ≤ n') : Shw k' n' d := by
  obtain ⟨p, e, a⟩ := h
  exact ⟨p, e, a.lf, a.sh, Nat.le_trans a.bk hk, Nat.le_trans a.dp hn⟩
theorem ShwL.mono {k n k' n' : Nat} {d : List Dt} (h : ShwL k n d) (hk : k ≤ k') (hn : n ≤ n') : ShwL k' n' d := by
  obtain ⟨p, e, a⟩ := h
  exact ⟨p, e, a.lf, a.sh, Nat.le_trans a.bk hk, Nat.le_trans a.dp hn⟩
theorem shw_int {i : Int} (h1 : -(2 ^ 60) < i) (h2 : i < 2 ^ 60) : Shw 0 0 (.int i) := by
  refine ⟨.int i, by simp only [Dt.pr], ?_, ?_, ?_, ?_⟩
  · have e : (10 : Nat) ^ 19 = 10000000000000000000 := by decide
    have hb : i.natAbs < 10 ^ 19 := by
      rw [e]
      omega
    simp only [PyData.leavesShort, decide_eq_true_eq, PyData.shown]
    have h := int_text_length_le10 (a := i) (k := 19) (by decide) hb
    refine decide_eq_true ?_
    rw [PySem.ofString_length]
    exact h
  · simp only [PyData.showable, decide_eq_true_eq]
    have : i.natAbs < 2 ^ 60 := by omega
    exact Nat.lt_trans (PySem.Flt.log2_lt_of (by decide) this) (by decide)
  · simp only [PyData.bulk, Nat.le_refl]
  · simp only [PyData.depth, Nat.le_refl]
theorem shw_tup {k n : Nat} {l : List Dt} (h : ShwL k n l) : Shw k (n + 1) (.tup l) := by
  obtain ⟨p, e, a⟩ := h
  refine ⟨.tuple p, by simp only [Dt.pr, e, Option.map_some], ?_, ?_, ?_, ?_⟩
  · simpa only [PyData.leavesShort] using a.lf
  · simpa only [PyData.showable] using a.sh
  · simpa only [PyData.bulk] using a.bk
  · have := a.dp
    simp only [PyData.depth]
    omega
theorem shwL_nil {n : Nat} : ShwL 0 n [] := ⟨[], by simp only [prL], by simp only [PyData.leavesShortAll], by simp only [PyData.showableAll], by simp only [PyData.bulkAll, Nat.le_refl], by simp only [PyData.depthAll, Nat.zero_le]⟩
theorem shwL_cons {k k' n : Nat} {d : Dt} {l : List Dt} (h : Shw k n d) (h' : ShwL k' n l) : ShwL (k + 1 + k') n (d :: l) := by
  obtain ⟨p, e, a⟩ := h
  obtain ⟨q, e', b⟩ := h'
  refine ⟨p :: q, by simp only [prL, e, e', Option.bind_some, Option.map_some], ?_, ?_, ?_, ?_⟩
  · simp only [PyData.leavesShortAll, a.lf, b.lf, Bool.and_self]
  · simp only [PyData.showableAll, a.sh, b.sh, Bool.and_self]
  · have h1 := a.bk
    have h2 := b.bk
    simp only [PyData.bulkAll]
    omega
  · have h1 := a.dp
    have h2 := b.dp
    simp only [PyData.depthAll]
    omega
theorem shwL_all {k n : Nat} : ∀ {l : List Dt}, (∀ d ∈ l, Shw k n d) → ShwL (l.length * (k + 1)) n l
  | [], _ => by
    rw [List.length_nil, Nat.zero_mul]
    exact shwL_nil
  | d :: l, h => by
    have := shwL_cons (h d List.mem_cons_self) (shwL_all fun x hx => h x (List.mem_cons_of_mem _ hx))
    refine this.mono ?_ (Nat.le_refl _)
    rw [List.length_cons, Nat.add_mul]
    omega
theorem shwL_map {α : Type} {k n : Nat} {f : α → Dt} {l : List α} (h : ∀ x ∈ l, Shw k n (f x)) : ShwL (l.length * (k + 1)) n (l.map f) := by
  have := shwL_all (k := k) (n := n) (l := l.map f) fun d hd => by
    obtain ⟨x, hx, rfl⟩ := List.mem_map.mp hd
    exact h x hx
  rw [List.length_map] at this
  exact this
end Ck
namespace Ck
open PySem PySem.Spec PyProof.Rows L2
/-! ### what an operation gives, constructor by constructor (for simp) -/
section
variable {i j : Int} {x y : Str} {l r : List Dt} {b k : Bool} {C : Dt → Prop} {CL : List Dt → Prop} {CB : Bool → Prop} {d e : Dt} {lo hi : Option Int} {v : V}
theorem k_add1 : fAdd (.int i) (.int j) C = C (.int (i + j)) := rfl
theorem k_add2 : fAdd (.str x) (.str y) C = (x.length + y.length ≤ sizeLine ∧ C (.str (x ++ y))) := rfl
theorem k_add3 : fAdd (.lst l) (.lst r) C = (l.length + r.length ≤ sizeLine ∧ C (.lst (l ++ r))) := rfl
theorem k_add4 : fAdd (.tup l) (.tup r) C = (l.length + r.length ≤ sizeLine ∧ C (.tup (l ++ r))) := rfl
theorem k_addL : fAddL (.lst l) (.lst r) CL = (l.length + r.length ≤ sizeLine ∧ CL (l ++ r)) := rfl
theorem k_sub : fSub (.int i) (.int j) C = C (.int (i - j)) := rfl
theorem k_mul1 : fMul (.int i) (.int j) C = (CMulX i j ∧ C (.int (i * j))) := rfl
theorem k_mul2 : fMul (.lst l) (.int j) C = (-(2 ^ 63) ≤ j ∧ j < 2 ^ 63 ∧ l.length * j.toNat ≤ sizeLine ∧ C (.lst (List.replicate j.toNat l).flatten)) := rfl
theorem k_mulL : fMulL (.lst l) (.int j) CL = (-(2 ^ 63) ≤ j ∧ j < 2 ^ 63 ∧ l.length * j.toNat ≤ sizeLine ∧ CL (List.replicate j.toNat l).flatten) := rfl
theorem k_div : fDiv (.int i) (.int j) C = (CDivW i j ∧ C (.int (i / j))) := rfl
theorem k_mod : fMod (.int i) (.int j) C = (0 < j ∧ C (.int (i % j))) := rfl
theorem k_pow : fPow (.int i) (.int j) C = (CPow i j ∧ C (.int (i ^ j.toNat))) := rfl
theorem k_cmp {p : Int → Int → Bool} : fCmp p (.int i) (.int j) C = C (.bl (p i j)) := rfl
theorem k_eq : fEq d e C = eqAns d e fun b => C (.bl b) := rfl
theorem k_ne : fNe d e C = eqAns d e fun b => C (.bl (!b)) := rfl
theorem k_ea1 : eqAns (.int i) (.int j) CB = CB (decide (i = j)) := rfl
theorem k_ea2 : eqAns (.str x) (.str y) CB = CB (decide (x = y)) := rfl
theorem k_ea3 : eqAns (.bl b) (.bl k) CB = CB (decide (b = k)) := rfl
theorem k_ea4 : eqAns (.lst l) (.lst []) CB = CB l.isEmpty := rfl
theorem k_in1 {neg : Bool} : fIn neg (.int i) (.lst l) C = (flatD (.int i) = true ∧ l.all flatD = true ∧ C (.bl (if neg then !inD (.int i) l else inD (.int i) l))) := rfl
theorem k_in2 {neg : Bool} : fIn neg (.int i) (.tup l) C = (flatD (.int i) = true ∧ l.all flatD = true ∧ C (.bl (if neg then !inD (.int i) l else inD (.int i) l))) := rfl
theorem k_in3 {neg : Bool} : fIn neg .non (.tup l) C = (flatD .non = true ∧ l.all flatD = true ∧ C (.bl (if neg then !inD .non l else inD .non l))) := rfl
theorem k_in4 {neg : Bool} : fIn neg .non (.lst l) C = (flatD .non = true ∧ l.all flatD = true ∧ C (.bl (if neg then !inD .non l else inD .non l))) := rfl
theorem k_ix1 : fIx (.lst l) (.int i) C = ∃ d, L2.atI l i = some d ∧ C d := rfl
theorem k_ix2 : fIx (.tup l) (.int i) C = ∃ d, L2.atI l i = some d ∧ C d := rfl
theorem k_ix3 : fIx (.str x) (.int i) C = ∃ c, x.length ≤ sizeLine ∧ L2.atI x.cps.toList i = some c ∧ C (.str ⟨#[c]⟩) := rfl
theorem k_sl1 : fSl (.lst l) lo hi C = C (.lst (cutD l lo hi)) := rfl
theorem k_sl2 : fSl (.tup l) lo hi C = C (.tup (cutD l lo hi)) := rfl
theorem k_len1 : fLen (.lst l) C = C (.int l.length) := rfl
theorem k_len2 : fLen (.tup l) C = C (.int l.length) := rfl
theorem k_len3 : fLen (.str x) C = (x.length ≤ sizeLine ∧ C (.int x.length)) := rfl
theorem k_int1 : fInt (.int i) C = C (.int i) := rfl
theorem k_int2 : fInt (.bl b) C = C (.int (if b then 1 else 0)) := rfl
theorem k_abs : fAbs (.int i) C = C (.int (if i < 0 then -i else i)) := rfl
theorem k_tuple1 : fTuple (.lst l) C = C (.tup l) := rfl
theorem k_tuple2 : fTuple (.tup l) C = C (.tup l) := rfl
theorem k_list1 : fList (.lst l) CL = CL l := rfl
theorem k_list2 : fList (.tup l) CL = CL l := rfl
theorem k_min2 : fMin2 (.int i) (.int j) C = C (.int (if j < i then j else i)) := rfl
theorem k_max2 : fMax2 (.int i) (.int j) C = C (.int (if j > i then j else i)) := rfl
theorem k_non_non : isNon .non = some true := rfl
theorem k_ty_int_non : isTy "int" .non = some false := rfl
theorem k_ty_bool_non : isTy "bool" .non = some false := rfl
theorem k_ty_tuple_non : isTy "tuple" .non = some false := rfl
theorem k_ty_str_non : isTy "str" .non = some false := rfl
theorem k_ty_list_non : isTy "list" .non = some false := rfl
theorem k_non_bl : isNon (.bl b) = some false := rfl
theorem k_ty_int_bl : isTy "int" (.bl b) = some true := rfl
theorem k_ty_bool_bl : isTy "bool" (.bl b) = some true := rfl
theorem k_ty_tuple_bl : isTy "tuple" (.bl b) = some false := rfl
theorem k_ty_str_bl : isTy "str" (.bl b) = some false := rfl
theorem k_ty_list_bl : isTy "list" (.bl b) = some false := rfl
theorem k_non_int : isNon (.int i) = some false := rfl
theorem k_ty_int_int : isTy "int" (.int i) = some true := rfl
theorem k_ty_bool_int : isTy "bool" (.int i) = some false := rfl
theorem k_ty_tuple_int : isTy "tuple" (.int i) = some false := rfl
theorem k_ty_str_int : isTy "str" (.int i) = some false := rfl
theorem k_ty_list_int : isTy "list" (.int i) = some false := rfl
theorem k_non_str : isNon (.str x) = some false := rfl
theorem k_ty_int_str : isTy "int" (.str x) = some false := rfl
theorem k_ty_bool_str : isTy "bool" (.str x) = some false := rfl
theorem k_ty_tuple_str : isTy "tuple" (.str x) = some false := rfl
theorem k_ty_str_str : isTy "str" (.str x) = some true := rfl
theorem k_ty_list_str : isTy "list" (.str x) = some false := rfl
theorem k_non_tup : isNon (.tup l) = some false := rfl
theorem k_ty_int_tup : isTy "int" (.tup l) = some false := rfl
theorem k_ty_bool_tup : isTy "bool" (.tup l) = some false := rfl
theorem k_ty_tuple_tup : isTy "tuple" (.tup l) = some true := rfl
theorem k_ty_str_tup : isTy "str" (.tup l) = some false := rfl
theorem k_ty_list_tup : isTy "list" (.tup l) = some false := rfl
theorem k_non_lst : isNon (.lst l) = some false := rfl
theorem k_ty_int_lst : isTy "int" (.lst l) = some false := rfl
theorem k_ty_bool_lst : isTy "bool" (.lst l) = some false := rfl
theorem k_ty_tuple_lst : isTy "tuple" (.lst l) = some false := rfl
theorem k_ty_str_lst : isTy "str" (.lst l) = some false := rfl
theorem k_ty_list_lst : isTy "list" (.lst l) = some true := rfl
theorem k_non_emp : isNon .emp = some false := rfl
theorem k_ty_int_emp : isTy "int" .emp = some false := rfl
theorem k_ty_bool_emp : isTy "bool" .emp = some false := rfl
theorem k_ty_tuple_emp : isTy "tuple" .emp = some false := rfl
theorem k_ty_str_emp : isTy "str" .emp = some false := rfl
theorem k_ty_list_emp : isTy "list" .emp = some false := rfl
theorem k_seq_non : seqD .non = none := rfl
theorem k_seq_bl : seqD (.bl b) = none := rfl
theorem k_seq_int : seqD (.int i) = none := rfl
theorem k_seq_str : seqD (.str x) = none := rfl
theorem k_seq_tup : seqD (.tup l) = some l := rfl
theorem k_seq_lst : seqD (.lst l) = some l := rfl
theorem k_seq_emp : seqD .emp = none := rfl
end
theorem k_sz0 : (0 ≤ sizeLine) = True := eq_true (size1M (by decide))
theorem k_sz1 : (1 ≤ sizeLine) = True := eq_true (size1M (by decide))
theorem k_sz2 : (2 ≤ sizeLine) = True := eq_true (size1M (by decide))
theorem k_sz3 : (3 ≤ sizeLine) = True := eq_true (size1M (by decide))
theorem k_sz4 : (4 ≤ sizeLine) = True := eq_true (size1M (by decide))
theorem k_sz5 : (5 ≤ sizeLine) = True := eq_true (size1M (by decide))
theorem k_sz6 : (6 ≤ sizeLine) = True := eq_true (size1M (by decide))
theorem k_sz7 : (7 ≤ sizeLine) = True := eq_true (size1M (by decide))
theorem k_sz8 : (8 ≤ sizeLine) = True := eq_true (size1M (by decide))
theorem k_sz9 : (9 ≤ sizeLine) = True := eq_true (size1M (by decide))
theorem k_sz10 : (10 ≤ sizeLine) = True := eq_true (size1M (by decide))
theorem k_sz11 : (11 ≤ sizeLine) = True := eq_true (size1M (by decide))
theorem k_sz12 : (12 ≤ sizeLine) = True := eq_true (size1M (by decide))
theorem k_sz13 : (13 ≤ sizeLine) = True := eq_true (size1M (by decide))
theorem k_sz14 : (14 ≤ sizeLine) = True := eq_true (size1M (by decide))
theorem k_sz15 : (15 ≤ sizeLine) = True := eq_true (size1M (by decide))
theorem k_sz16 : (16 ≤ sizeLine) = True := eq_true (size1M (by decide))
theorem k_sz17 : (17 ≤ sizeLine) = True := eq_true (size1M (by decide))
theorem k_sz18 : (18 ≤ sizeLine) = True := eq_true (size1M (by decide))
theorem k_sz19 : (19 ≤ sizeLine) = True := eq_true (size1M (by decide))
theorem k_sz20 : (20 ≤ sizeLine) = True := eq_true (size1M (by decide))
theorem k_sz21 : (21 ≤ sizeLine) = True := eq_true (size1M (by decide))
theorem k_sz22 : (22 ≤ sizeLine) = True := eq_true (size1M (by decide))
theorem k_sz23 : (23 ≤ sizeLine) = True := eq_true (size1M (by decide))
theorem k_at0 {α : Type} {a : α} {l : List α} : L2.atI (a :: l) 0 = some a := by
  exact atI_nat (j := 0) rfl
theorem k_at1 {α : Type} {a b : α} {l : List α} : L2.atI (a :: b :: l) 1 = some b := by
  exact atI_nat (j := 1) rfl
theorem k_at2 {α : Type} {a b c : α} {l : List α} : L2.atI (a :: b :: c :: l) 2 = some c := by
  exact atI_nat (j := 2) rfl
theorem k_at3 {α : Type} {a b c d : α} {l : List α} : L2.atI (a :: b :: c :: d :: l) 3 = some d := by
  exact atI_nat (j := 3) rfl
theorem k_iteT {A B : Prop} : (if true = true then A else B) = A := if_pos rfl
theorem k_iteF {A B : Prop} : (if false = true then A else B) = B := if_neg (by decide)
theorem k_bt1 {i : Nat} {d : Dt} {sl : Sl} : bindTg (.one i) d sl = some (sl.set i (some (.dat d))) := rfl
theorem k_bt2 {is : List Nat} {ds : List Dt} {sl : Sl} : bindTg (.many is) (.tup ds) sl = setAll is ds sl := rfl
theorem k_sa0 {sl : Sl} : setAll [] [] sl = some sl := rfl
theorem k_sa1 {i : Nat} {is : List Nat} {d : Dt} {ds : List Dt} {sl : Sl} : setAll (i :: is) (d :: ds) sl = setAll is ds (sl.set i (some (.dat d))) := rfl
theorem k_endn {Ω : Type} {C : Dt → Ω → Prop} {sl : Sl} {w : Ω} : (endD C).nx sl w = C .non w := rfl
theorem k_endr {Ω : Type} {C : Dt → Ω → Prop} {d : Dt} {w : Ω} : (endD C).rt d w = C d w := rfl
/-- a name's use, by what its slot holds -/
def varK {Ω : Type} (i : Nat) (o : Option (Option Sv)) (w : Ω) (C : Dt → Fl → Ω → Prop) : Prop := match o with
  | some (some (.dat d)) => C d .cl w
  | some (some (.mine (.lst l))) => C (.lst l) (.br i) w
  | _ => False
theorem k_var {Ω : Type} {i : Nat} {sl : Sl} {w : Ω} {C : Dt → Fl → Ω → Prop} : wVar i sl w C = varK i sl[i]? w C := rfl
theorem k_vk1 {Ω : Type} {i : Nat} {d : Dt} {w : Ω} {C : Dt → Fl → Ω → Prop} : varK i (some (some (.dat d))) w C = C d .cl w := rfl
theorem k_vk2 {Ω : Type} {i : Nat} {l : List Dt} {w : Ω} {C : Dt → Fl → Ω → Prop} : varK i (some (some (.own l))) w C = C (.lst l) (.br i) w := rfl
theorem k_par {a b : Dt} {Q : Dt → Dt → Prop} : (∃ d e, [a, b] = [d, e] ∧ Q d e) = Q a b := by
  refine propext ⟨fun ⟨d, e, h, q⟩ => ?_, fun q => ⟨a, b, rfl, q⟩⟩
  cases h
  exact q
/-- a draw -/
theorem use_draw {p : Addr} {k : Nat} {n : Int} {C : Dt → Dw → Prop} (h0 : 0 < n) (h1 : n < 2 ^ 60) (h2 : 1 ≤ k) (h : ∀ (i : Int) (m : Nat), 0 ≤ i → i < n → k ≤ m + 1 → C (.int i) ⟨p, m⟩) : S_law_draw.run [.opq (.ref p), .int n] ⟨p, k⟩ C := ⟨n, rfl, h0, h1, h2, h⟩
theorem use_one {p : Addr} {k : Nat} {l : List Dt} {C : Dt → Dw → Prop} (h0 : 0 < l.length) (h1 : l.length ≤ 1000000) (h2 : 1 ≤ k) (h : ∀ (d : Dt) (m : Nat), d ∈ l → k ≤ m + 1 → C d ⟨p, m⟩) : S_law_one.run [.opq (.ref p), .lst l] ⟨p, k⟩ C := ⟨l, rfl, ⟨h0, h1⟩, h2, h⟩
theorem use_pure {Ω ι : Type} {args : ι → List Dt} {ok : ι → Prop} {res : ι → Dt} {w : Ω} {C : Dt → Ω → Prop} (i : ι) (h : ok i) (hC : C (res i) w) : (pureS (Ω := Ω) args ok res).run (args i) w C := ⟨i, rfl, h, hC⟩
theorem use_drawS {ι : Type} {args : ι → List Dt} {ok : ι → Prop} {cost : ι → Nat} {post : ι → Dt → Prop} {p : Addr} {k : Nat} {C : Dt → Dw → Prop} (i : ι) (h : ok i) (hk : cost i ≤ k) (hC : ∀ d m, post i d → k ≤ m + cost i → C d ⟨p, m⟩) : (drawS args ok cost post).run (.opq (.ref p) :: args i) ⟨p, k⟩ C := ⟨i, rfl, h, hk, hC⟩
end Ck
namespace Ck
open PySem PySem.Spec PyProof.Rows L2
/-! ### list(zip(a, b)), lists -/
section
variable {Ω : Type} {X : Cx} {W : Wd Ω} {a b : Expr} {p q : DE Ω}
def wListZip (p q : DE Ω) : DL Ω := fun sl w C => p sl w fun d fl w1 => fl = .cl ∧ q sl w1 fun e fl2 w2 => fl2 = .cl ∧ ∃ l r, d = .lst l ∧ e = .lst r ∧ C (zipD l r) w2
end
/-! ### {} -/
section
variable {Ω : Type} {X : Cx} {W : Wd Ω} {pos : Pos}
def wEmp : DE Ω := fun _ w C => C .emp .cl w
end
/-! ### _law_one(deck, xs), xs a list of one's own that stays so -/
def wOneB (i : Nat) (p : DE Dw) : DE Dw := fun sl w C => p sl w fun d _ w1 => ∃ l, sl[i]? = some (some (.own l)) ∧ d = .opq (.ref w1.p) ∧ 0 < l.length ∧ l.length ≤ 1000000 ∧ 1 ≤ w1.n ∧ ∀ (d : Dt) (m : Nat), d ∈ l → w1.n ≤ m + 1 → C d .cl ⟨w1.p, m⟩
theorem DrL.mem {K : PySem.W.Frag} {F : Hp} {v : V} : ∀ {vs : List V} {l : List Dt}, DrL K F vs l → v ∈ vs → ∃ d ∈ l, Dr K F v d
  | _, _, .nil, h => nomatch h
  | _, _, .cons a b, h => by
    rcases List.mem_cons.mp h with rfl | h
    · exact ⟨_, List.mem_cons_self, a⟩
    · obtain ⟨d, h1, h2⟩ := DrL.mem b h
      exact ⟨d, List.mem_cons_of_mem _ h1, h2⟩
theorem le3 {j c : Nat} (n : Nat) (h : j ≤ c) : j ≤ c + n := Nat.le_trans h (Nat.le_add_right c n)
end Ck
namespace Ck
open PySem PySem.Spec PyProof.Rows L2
theorem tuple_mul0 (l : Addr) (n : Nat) (x : Int) (u : Tok) (sl : Array (Option Value)) (dd : Option Addr) (c0 : (decide (x < -(2 ^ 63)) || decide (x ≥ 2 ^ 63)) = false) :
    Meets (Builtin.«tuple.__mul__» ⟨[.ref l, .int x u], []⟩) (fun _ R s => s.heap.get? l = some { cls := .type "tuple", dict := dd, data := .seq #[] n, slots := sl } ∧ R (.ok (.ret (Value.ref l))) s) :=
  .of_wp fun prog w A R s h => by
    obtain ⟨hp, g, d, tk, os⟩ := s
    obtain ⟨hl, h⟩ := h
    have f1 := AutoSeq1.idx_int
    wp_walk using AutoSeq1.wpAny_loadPart' hl
    repeat (first
      | (refine wpAny_ite_false (decide_eq_false (by rw [c0]; exact Bool.false_ne_true)) ?_; wp_walk using AutoSeq1.wpAny_loadPart' hl)
      | (refine wpAny_ite_true (decide_eq_true (by rfl)) ?_; wp_walk using AutoSeq1.wpAny_loadPart' hl))
    exact ⟨_, rfl, h⟩
/-- t * n: nothing of nothing; else n from 2 on -/
def rRepT0 (K : PySem.W.Frag) : R2 := fun x y H Q => ∃ l k, x = .ref l ∧ y = .int k ∧ SqT K H l [] ∧ -(2 ^ 63) ≤ k ∧ k < 2 ^ 63 ∧ Q (.ref l) H
theorem op_repT0 {X : Cx} : OpR X (binaryOp .Mult) (rRepT0 X.K) := by
  intro pins s σ H x y v u Q I rx ry h
  obtain ⟨l, k, rfl, rfl, hT, h1, h2, q⟩ := h
  cases rx
  obtain ⟨t, rfl⟩ := ry
  obtain ⟨its, r, ⟨⟨cls, dd, data, sl⟩, ho, hc, n, hd⟩, hs⟩ := I.tuple hT
  simp only at hc hd
  subst hc hd
  cases r
  have c0 : (decide (k < -(2 ^ 63)) || decide (k ≥ 2 ^ 63)) = false := by
    rw [decide_eq_false (by omega), decide_eq_false (by omega)] <;> rfl
  exact wpAny_binaryOp_repeat_ref (T := "tuple") (U := "int") (by decide) ⟨_, ho, rfl⟩ (fun s' => typeIs_int s' k t) noFill_tuple_mul F.fills_int_mul F.slot_int_rmul repeat_tuple F.slot_int_index.lookup
    (call_meets F.slot_int_rmul (typeIs_int s k t) F.entry_int_rmul (F.args_int_rmul_2 _ _) (int_rmul_tuple k t l [].toArray n dd sl)
      ⟨ho, rfl, ⟨_, ho, rfl⟩, call_meets F.slot_tuple_mul ⟨_, ho, rfl⟩ F.entry_tuple_mul (F.args_tuple_mul_2 _ _) (tuple_mul0 l n k t sl dd c0) ⟨ho, .ref l, H, I, rfl, q⟩⟩)
def fMulT : Dt → Dt → (Dt → Prop) → Prop
  | .tup l, .int k, C => 2 ≤ k ∧ k ≤ 1000 ∧ l.length ≤ 1000 ∧ C (.tup (List.replicate k.toNat l).flatten)
  | _, _, _ => False
def rMulT (K : PySem.W.Frag) : R2 := fun x y H Q => rRepT0 K x y H Q ∨ rRepT K x y H Q
theorem op_mulT {X : Cx} : OpR X (binaryOp .Mult) (rMulT X.K) := opr_or op_repT0 op_repT
theorem od_mulT {K : PySem.W.Frag} : OpD K (rMulT K) fMulT := by
  refine ⟨fun F H xv yv x y Q C e hx hy h q => ?_, fun x y C C' hC h => ?_⟩
  · cases x with
    | tup l =>
      cases y with
      | int k =>
        have h : 2 ≤ k ∧ k ≤ 1000 ∧ l.length ≤ 1000 ∧ C (.tup (List.replicate k.toNat l).flatten) := h
        obtain ⟨a, vs, rfl, ha, da, dx⟩ := hx.tupS
        have h2 := hy.int; subst h2
        cases vs with
        | nil =>
          cases da
          refine .inl ⟨a, k, rfl, rfl, sameSeqT e ha, by omega, by omega, ?_⟩
          have e3 : (List.replicate k.toNat ([] : List Dt)).flatten = [] := by simp
          have h4 := h.2.2.2
          rw [e3] at h4
          exact q _ _ F H h4 (.refl dx)
        | cons v vs => exact .inr ⟨a, k, v :: vs, rfl, rfl, sameSeqT e ha, (fun z => nomatch z), h.1, h.2.1, by rw [da.len]; exact h.2.2.1, fun p hp => q _ _ _ _ h.2.2.2 (.tup hp e (da.rep _))⟩
      | _ => exact False.elim h
    | _ => exact False.elim h
  · unfold fMulT at h ⊢
    split at h <;> first | exact ⟨h.1, h.2.1, h.2.2.1, hC _ h.2.2.2⟩ | exact h.elim
theorem k_mulT {l : List Dt} {j : Int} {C : Dt → Prop} : fMulT (.tup l) (.int j) C = (2 ≤ j ∧ j ≤ 1000 ∧ l.length ≤ 1000 ∧ C (.tup (List.replicate j.toNat l).flatten)) := rfl
end Ck
namespace Ck
open PySem PySem.Spec PyProof.Rows L2
/-! ### stores of two at once, of which one is a list of one's own -/
section
variable {Ω : Type} {K : PySem.W.Frag} {W : Wd Ω} {B F G H : Hp} {w : Ω} {σ : L2.St} {sl : Sl} {p : Addr} {o : HO}
/-- what one holds oneself is kept while other things are worked out -/
theorem SR.keep (r : SR K W B F G H w σ sl) (hn : NoOwn σ sl p) (hH : H p = some o) (hF : F p = none) (hG : G p = none) (hB : B p = none) : SR K W (upd B p o) F G H w σ sl := by
  refine ⟨⟨fun a x e => ?_, r.hr.f, r.hr.g, r.hr.d, r.hr.w, W.monoB _ _ (sameUpd hB) r.hr.k⟩, r.len, fun i x q => ?_, r.o⟩
  · by_cases h : a = p
    · subst h
      rw [upd_same] at e
      cases e
      exact ⟨hH, .inl hF, .inl hG⟩
    · rw [upd_ne h] at e
      exact r.hr.b a x e
  · obtain ⟨v, h1, h2⟩ := r.s i x q
    refine ⟨v, h1, ?_⟩
    cases x with
    | dat d => exact h2
    | mine l =>
      obtain ⟨a, vs, rfl, hB, h3⟩ := h2
      have hne : a ≠ p := fun e => hn i l q (e ▸ h1)
      exact ⟨a, vs, rfl, by rw [upd_ne hne]; exact hB, h3⟩
theorem SR.unkeep (r : SR K W (upd B p o) F G H w σ sl) (hB : B p = none) (hk : W.bk B) (ht : ¬ IsTp o := by exact fun z => nomatch z) : SR K W B F G H w σ sl ∧ H p = some o ∧ F p = none ∧ G p = none := by
  obtain ⟨h1, h2, h3⟩ := r.hr.b p o upd_same
  refine ⟨⟨⟨fun a x e => ?_, r.hr.f, r.hr.g, r.hr.d, r.hr.w, hk⟩, r.len, fun i x q => ?_, r.o⟩, h1, h2.resolve_right ht, h3.resolve_right ht⟩
  · exact r.hr.b a x (by rw [upd_ne (ne_of_none e hB)]; exact e)
  · obtain ⟨v, h1, h2⟩ := r.s i x q
    refine ⟨v, h1, ?_⟩
    cases x with
    | dat d => exact h2
    | mine l =>
      obtain ⟨a, vs, rfl, hB2, h3⟩ := h2
      refine ⟨a, vs, rfl, ?_, h3⟩
      by_cases h : a = p
      · rw [h]
        exact hB
      · rw [upd_ne h] at hB2
        exact hB2
end
section
variable {Ω : Type} {X : Cx} {W : Wd Ω} {pe : DE Ω} {pl pr : DL Ω} {a b : Expr} {pos : Pos}
def wParOD (i j : Nat) (pl : DL Ω) (pe : DE Ω) : DS Ω := fun D sl w => pl sl w fun l w1 => pe sl w1 fun d fl w2 => fl = .cl ∧ D.nx ((sl.set i (some (.own l))).set j (some (.dat d))) w2
def wParDO (i j : Nat) (pe : DE Ω) (pl : DL Ω) : DS Ω := fun D sl w => pe sl w fun d fl w1 => fl = .cl ∧ pl sl w1 fun l w2 => D.nx ((sl.set i (some (.dat d))).set j (some (.own l))) w2
def wParOO (i j : Nat) (pl pr : DL Ω) : DS Ω := fun D sl w => pl sl w fun l w1 => pr sl w1 fun m w2 => D.nx ((sl.set i (some (.own l))).set j (some (.own m))) w2
theorem ds_parDO {i j : Nat} {x y : Str} {px py pt : Pos} {kt k2 pt2} (hc : X.calm = true) (hN : X.N.Nodup) (hi : X.N[i]? = some x) (hj : X.N[j]? = some y) (hij : i ≠ j) (hx : X.env.scope.names.lookup x = some .local) (hy : X.env.scope.names.lookup y = some .local)
    (ha : PD X W a pe) (hb : PDL X W b pl) (hw : swappedStores [.Tuple [.Name x px, .Name y py] kt pt] (.Tuple [a, b] k2 pt2) X.env = pure (some [x, y]))
    (hs : ∀ {t : TA}, PA X [a, b] t → PS X (.Assign [.Tuple [.Name x px, .Name y py] kt pt] (.Tuple [a, b] k2 pt2) pos) (tPar i j t))
    (s1 : starEach [a, b] X.env = (false, eval a X.env) :: starEach [b] X.env := by rfl) (s2 : starEach [b] X.env = (false, eval b X.env) :: starEach [] X.env := by rfl) :
    PDS X W (.Assign [.Tuple [.Name x px, .Name y py] kt pt] (.Tuple [a, b] k2 pt2) pos) (wParDO i j pe pl) := by
  refine ⟨ps_imp (hs (pa_cons ha.run (pa_cons hb.run pa_nil s2) s1)) fun D σ H ⟨B, F, G, w, sl, r, z⟩ => ?_, fun D D' l sl w z => ha.mono _ _ _ _ (fun d fl w1 ⟨z0, z⟩ => ⟨z0, hb.mono _ _ _ _ (fun d w2 z => l.nx _ _ z) z⟩) z⟩
  refine ⟨B, F, G, w, sl, r, ha.mono _ _ _ _ (fun d fl w1 ⟨z0, z⟩ v F1 G1 H1 r1 e1 f1 => ?_) z⟩
  subst z0
  refine ⟨B, F1, G1, w1, sl, r1, hb.mono _ _ _ _ (fun l w2 z p vs F2 G2 H2 r2 e2 hB hn hH hF hG hD => ?_) z⟩
  refine ⟨v, .ref p, rfl, z _ F2 G2 H2 ((r2.dat i (Dr.mono e2 f1)).ownSet j hB hF hG hH hD fun k m h1 hk => ?_) (e1.trans e2)⟩
  by_cases h : i = k
  · subst h
    rw [List.getElem?_set] at h1
    rw [if_pos rfl] at h1
    split at h1 <;> cases h1
  · rw [List.getElem?_set_ne h] at h1 ⊢
    exact hn k m h1
theorem ds_parOO {i j : Nat} {x y : Str} {px py pt : Pos} {kt k2 pt2} (hc : X.calm = true) (hN : X.N.Nodup) (hi : X.N[i]? = some x) (hj : X.N[j]? = some y) (hij : i ≠ j) (hx : X.env.scope.names.lookup x = some .local) (hy : X.env.scope.names.lookup y = some .local)
    (ha : PDL X W a pl) (hb : PDL X W b pr) (hw : swappedStores [.Tuple [.Name x px, .Name y py] kt pt] (.Tuple [a, b] k2 pt2) X.env = pure (some [x, y]))
    (hs : ∀ {t : TA}, PA X [a, b] t → PS X (.Assign [.Tuple [.Name x px, .Name y py] kt pt] (.Tuple [a, b] k2 pt2) pos) (tPar i j t))
    (s1 : starEach [a, b] X.env = (false, eval a X.env) :: starEach [b] X.env := by rfl) (s2 : starEach [b] X.env = (false, eval b X.env) :: starEach [] X.env := by rfl) :
    PDS X W (.Assign [.Tuple [.Name x px, .Name y py] kt pt] (.Tuple [a, b] k2 pt2) pos) (wParOO i j pl pr) := by
  refine ⟨ps_imp (hs (pa_cons ha.run (pa_cons hb.run pa_nil s2) s1)) fun D σ H ⟨B, F, G, w, sl, r, z⟩ => ?_, fun D D' l sl w z => ha.mono _ _ _ _ (fun d w1 z => hb.mono _ _ _ _ (fun d w2 z => l.nx _ _ z) z) z⟩
  refine ⟨B, F, G, w, sl, r, ha.mono _ _ _ _ (fun l w1 z p vs F1 G1 H1 r1 e1 hB hn hH hF hG hD => ?_) z⟩
  refine ⟨_, F1, G1, w1, sl, r1.keep hn hH hF hG hB, hb.mono _ _ _ _ (fun m w2 z q us F2 G2 H2 r2 e2 hB2 hn2 hH2 hF2 hG2 hD2 => ?_) z⟩
  obtain ⟨r3, q1, q2, q3⟩ := r2.unkeep hB r1.hr.k
  have hpq : q ≠ p := fun e => by
    rw [e, upd_same] at hB2
    cases hB2
  have hBq : B q = none := by
    rw [upd_ne hpq] at hB2
    exact hB2
  refine ⟨.ref p, .ref q, rfl, z _ F2 G2 H2 ((r3.ownSet i hB q2 q3 q1 (hD.mono e2) fun j m h1 _ => hn j m h1).ownSet j hBq hF2 hG2 hH2 hD2 fun k m h1 hk => ?_) (e1.trans e2)⟩
  by_cases h : i = k
  · subst h
    rw [List.getElem?_set]
    rw [if_pos rfl]
    split
    · intro e
      cases e
      exact hpq rfl
    · intro e
      cases e
  · rw [List.getElem?_set_ne h] at h1 ⊢
    exact hn2 k m h1
end
end Ck
namespace Ck
open PySem PySem.Spec PyProof.Rows L2
/-! ### where an int stands in a list -/
section
variable {Ω : Type} {X : Cx} {W : Wd Ω} {po pe : DE Ω} {o e : Expr} {pos : Pos}
def wIndex (po pe : DE Ω) : DE Ω := fun sl w C => po sl w fun d fl w1 => fl = .cl ∧ ∃ ns : List Int, d = .lst (ns.map .int) ∧ pe sl w1 fun x fl2 w2 => ∃ (i : Int) (j : Nat), x = .int i ∧ ns[j]? = some i ∧ (∀ m, m < j → ns[m]? ≠ some i) ∧ C (.int (j : Nat)) .cl w2
end
end Ck
namespace Ck
open PySem PySem.Spec PyProof.Rows L2
/-! ### what is never reached -/
def wNever {Ω : Type} : DS Ω := fun _ _ _ => False
end Ck
namespace Ck
open PySem PySem.Spec PyProof.Rows L2
/-! ### targets within targets -/
def setAll2 : List Tg → List Dt → Sl → Option Sl
  | [], [], sl => some sl
  | t :: ts, d :: ds, sl => (bindTg t d sl).bind fun sl' => setAll2 ts ds sl'
  | _, _, _ => none
theorem k_s20 {sl : Sl} : setAll2 [] [] sl = some sl := rfl
theorem k_s21 {t : Tg} {ts : List Tg} {d : Dt} {ds : List Dt} {sl : Sl} : setAll2 (t :: ts) (d :: ds) sl = (bindTg t d sl).bind fun sl' => setAll2 ts ds sl' := rfl
def wUnp2 {Ω : Type} (ts : List Tg) (pe : DE Ω) : DS Ω := fun D sl w => pe sl w fun d fl w1 => fl = .cl ∧ ∃ l, d = .tup l ∧ ∃ sl', setAll2 ts l sl = some sl' ∧ D.nx sl' w1
structure PGD2 (X : Cx) (es : List Expr) (g : TGs) (ts : List Tg) : Prop where
  pg : PGs X es g
  run : ∀ {Ω : Type} {W : Wd Ω} {B F G H : Hp} {w : Ω} {σ : L2.St} {sl sl' : Sl} {us : List V} {ds : List Dt} {Q : L2.St → Hp → Prop}, SR X.K W B F G H w σ sl → DrL X.K F us ds → setAll2 ts ds sl = some sl' →
    (∀ σ', SR X.K W B F G H w σ' sl' → Q σ' H) → g us σ H Q
section
variable {Ω : Type} {X : Cx} {W : Wd Ω} {e : Expr} {pe : DE Ω} {pos : Pos}
theorem tgg_nil : PGD2 X [] gNil [] := ⟨pgs_nil, fun {Ω W B F G H w σ sl sl' us ds Q} r k e h => by
  cases k with
  | nil =>
    simp only [setAll2, Option.some.injEq] at e
    subst e
    exact ⟨rfl, h σ r⟩
  | cons _ _ => simp [setAll2] at e⟩
theorem tgg_cons {t1 : Expr} {g1 : TG} {tg : Tg} {es : List Expr} {u : TGs} {ts : List Tg} (h1 : PGD X t1 g1 tg) (h2 : PGD2 X es u ts)
    (hs : (assignEach (t1 :: es) X.env).map (·.2) = assign t1 X.env :: (assignEach es X.env).map (·.2) := by rfl) : PGD2 X (t1 :: es) (gCons g1 u) (tg :: ts) :=
  ⟨pgs_cons h1.pg h2.pg hs, fun {Ω W B F G H w σ sl sl' us ds Q} r k e h => by
    cases k with
    | nil => simp [setAll2] at e
    | cons k1 k2 =>
      simp only [setAll2, Option.bind_eq_some_iff] at e
      obtain ⟨sl1, e1, e2⟩ := e
      exact ⟨_, _, rfl, h1.run r k1 e1 fun σ' r' _ => h2.run r' k2 e2 h⟩⟩
theorem ds_unp2 {es : List Expr} {k n : Nat} {t : TGs} {ts : List Tg} {p : Pos} (hc : X.calm = true) (h : PD X W e pe) (hg : PGD2 X es t ts) (hl : ts.length = n) (hn : (assignEach es X.env).length = n := by rfl)
    (hst : (assignEach es X.env).findIdx? (·.1) = none := by rfl) (hs : swapsWithSole [.Tuple es k p] e pos.line X.env = pure false := by rfl) (hw : swappedStores [.Tuple es k p] e X.env = pure none := by rfl)
    (h1 : (assignEach [.Tuple es k p] X.env).map (·.2) = [assign (.Tuple es k p) X.env] := by rfl) : PDS X W (.Assign [.Tuple es k p] e pos) (wUnp2 ts pe) := by
  refine ⟨ps_imp (ps_asg h.run (pg_tup hc hg.pg hn hst) hs hw h1) fun D σ H ⟨B, F, G, w, sl, r, z⟩ => ?_, fun D D' l sl w z => h.mono _ _ _ _ (fun d fl w1 ⟨z0, m, z1, sl', z2, z3⟩ => ⟨z0, m, z1, sl', z2, l.nx _ _ z3⟩) z⟩
  refine ⟨B, F, G, w, sl, r, h.mono _ _ _ _ (fun d fl w1 ⟨z0, m, z1, sl', z2, z3⟩ v F1 G1 H1 r1 e1 f1 => ?_) z⟩
  subst z0 z1
  have f1 : Dr X.K F1 v (.tup m) := f1
  cases f1 with
  | tup hs hd =>
    have hlen : ∀ (ts : List Tg) (ds : List Dt) (sl sl' : Sl), setAll2 ts ds sl = some sl' → ts.length = ds.length := by
      intro ts
      induction ts with
      | nil => intro ds sl sl' z; cases ds with
        | nil => rfl
        | cons _ _ => simp [setAll2] at z
      | cons i is ih => intro ds sl sl' z; cases ds with
        | nil => simp [setAll2] at z
        | cons d ds =>
          simp only [setAll2, Option.bind_eq_some_iff] at z
          obtain ⟨s1, _, z⟩ := z
          simp [ih _ _ _ z]
    exact ⟨_, _, rfl, sameSeqT r1.hr.f (SqT.of hs), by rw [hd.len, ← hlen _ _ _ _ z2, hl], hg.run r1 hd z2 fun σ' r' => z3 σ' F1 G1 H1 r' e1⟩
  | tupK hs hd _ =>
    have hlen : ∀ (ts : List Tg) (ds : List Dt) (sl sl' : Sl), setAll2 ts ds sl = some sl' → ts.length = ds.length := by
      intro ts
      induction ts with
      | nil => intro ds sl sl' z; cases ds with
        | nil => rfl
        | cons _ _ => simp [setAll2] at z
      | cons i is ih => intro ds sl sl' z; cases ds with
        | nil => simp [setAll2] at z
        | cons d ds =>
          simp only [setAll2, Option.bind_eq_some_iff] at z
          obtain ⟨s1, _, z⟩ := z
          simp [ih _ _ _ z]
    exact ⟨_, _, rfl, sameSeqT r1.hr.f hs.t, by rw [hd.len, ← hlen _ _ _ _ z2, hl], hg.run r1 hd z2 fun σ' r' => z3 σ' F1 G1 H1 r' e1⟩
end
/-! ### which of two tuples of ints stands first -/
/-! ### is not True -/
end Ck
namespace Ck
open PySem PySem.Spec PyProof.Rows L2
/-! ### an own dict with tuple keys -/
section
variable {Ω : Type} {X : Cx} {W : Wd Ω} {e : Expr} {pe pk : DE Ω} {pos : Pos}
def wDNew (i : Nat) : DS Ω := fun D sl w => D.nx (sl.set i (some (.dic []))) w
end
/-! ### what a dict holds, over data -/
def valD (kvs : List (List L2.Key × Dt)) (k : List L2.Key) : Option Dt := (kvs.find? fun kv => decide (kv.1 = k)).map (·.2)
def putD (kvs : List (List L2.Key × Dt)) (k : List L2.Key) (d : Dt) : List (List L2.Key × Dt) :=
  if (kvs.any fun kv => decide (kv.1 = k)) = true then kvs.map (fun kv => if kv.1 = k then (kv.1, d) else kv) else kvs ++ [(k, d)]
section
variable {Ω : Type} {X : Cx} {W : Wd Ω} {e ie : Expr} {pe pk : DE Ω} {pos : Pos}
def wDPut (i : Nat) (pe pk : DE Ω) : DS Ω := fun D sl w => ∃ kvs, sl[i]? = some (some (.dic kvs)) ∧ kvs.length < sizeLine ∧ pe sl w fun d fl w1 => fl = .cl ∧ pk sl w1 fun kd fl2 w2 => fl2 = .cl ∧ ∃ l ks, kd = .tup l ∧ keysT l = some ks ∧ D.nx (sl.set i (some (.dic (putD kvs ks d)))) w2
end
section
variable {Ω : Type} {X : Cx} {W : Wd Ω} {ie : Expr} {pk : DE Ω} {pos : Pos}
def wDGet (i : Nat) (pk : DE Ω) : DE Ω := fun sl w C => ∃ kvs, sl[i]? = some (some (.dic kvs)) ∧ pk sl w fun kd fl w1 => fl = .cl ∧ ∃ l ks d, kd = .tup l ∧ keysT l = some ks ∧ valD kvs ks = some d ∧ C d .cl w1
end
section
variable {Ω : Type} {X : Cx} {W : Wd Ω} {ie fe : Expr} {pk pf : DE Ω} {pos : Pos}
def wDGetD (i : Nat) (pk pf : DE Ω) : DE Ω := fun sl w C => ∃ kvs, sl[i]? = some (some (.dic kvs)) ∧ pk sl w fun kd fl w1 => fl = .cl ∧ ∃ l ks, kd = .tup l ∧ keysT l = some ks ∧ pf sl w1 fun d0 fl0 w2 => fl0 = .cl ∧ C ((valD kvs ks).getD d0) .cl w2
end
section
variable {Ω : Type} {X : Cx} {W : Wd Ω} {ie : Expr} {pk : DE Ω} {pos : Pos}
def wDIn (i : Nat) (pk : DE Ω) : DE Ω := fun sl w C => ∃ kvs, sl[i]? = some (some (.dic kvs)) ∧ pk sl w fun kd fl w1 => fl = .cl ∧ ∃ l ks, kd = .tup l ∧ keysT l = some ks ∧ C (.bl (valD kvs ks).isSome) .cl w1
end
end Ck
namespace Ck
open PySem PySem.Spec PyProof.Rows L2
/-! ### dicts that are changed no more -/
def keyT : L2.Key → Dt
  | .inl i => .int i
  | .inr x => .str x
def keyTup (k : List L2.Key) : Dt := .tup (k.map keyT)
/-- the own dict of slot i is changed no more -/
def wFrzD {Ω : Type} (i : Nat) (q : DS Ω) : DS Ω := fun D sl w => match sl[i]? with
  | some (some (.mine (.dic kvs))) => q D (sl.set i (some (.dat (.dic (kvs.map (·.1)) (kvs.map (·.2)))))) w
  | _ => q D sl w
section
variable {Ω : Type} {X : Cx} {W : Wd Ω} {e ie tg : Expr} {pe pk : DE Ω} {pos : Pos} {K : PySem.W.Frag}
/-! ### d[k], k in d, len(d) -/
/-! ### for k in d -/
def wiKeys (p : DE Ω) : DI Ω := fun sl w C => p sl w fun d fl w' => fl = .cl ∧ ∃ ks l, d = .dic ks l ∧ C (ks.map keyTup) w'
end
end Ck
namespace Ck
open PySem PySem.Spec PyProof.Rows L2
/-! ### exceptions as data -/
structure Exn where
  cls : Str
  ns : List Str
  fs : List Dt
def ExR (K : PySem.W.Frag) (mg : Str → Option Value) (F : Hp) (cls : Value) (d : Option Addr) (x : Exn) : Prop :=
  ∃ C, mg x.cls = some (.ref C) ∧ cls = .ref C ∧ ((x.ns = [] ∧ x.fs = []) ∨ ∃ dd vs, d = some dd ∧ F dd = some (.xd (x.ns.zip vs)) ∧ x.ns.length = vs.length ∧ DrL K F vs x.fs)
theorem ExR.mono {K : PySem.W.Frag} {mg : Str → Option Value} {F F' : Hp} {cls : Value} {d : Option Addr} {x : Exn} (e : Same F F') (h : ExR K mg F cls d x) : ExR K mg F' cls d x := by
  obtain ⟨C, h1, h2, h3 | ⟨dd, vs, h3, h4, h5, h6⟩⟩ := h
  · exact ⟨C, h1, h2, .inl h3⟩
  · exact ⟨C, h1, h2, .inr ⟨dd, vs, h3, e _ _ h4, h5, h6.mono e⟩⟩
abbrev Er (Ω : Type) := Exn → Sl → Ω → Prop
/-- the world, and that nothing is lost of what stood at an entry -/
def Wd.at {Ω : Type} (W : Wd Ω) (B0 F0 : Hp) : Wd Ω where
  ok := fun w F G => W.ok w F G ∧ Same F0 F
  bk := fun B => W.bk B ∧ Same B0 B
  monoF := fun w F F' G e h => ⟨W.monoF _ _ _ _ e h.1, h.2.trans e⟩
  monoB := fun B B' e h => ⟨W.monoB _ _ e h.1, h.2.trans e⟩
section
variable {Ω : Type} {W : Wd Ω} {K : PySem.W.Frag} {B F G H B0 F0 F' G' H' : Hp} {w w' : Ω} {σ : L2.St} {sl : Sl}
theorem HR.at (r : HR W B F G H w) : HR (W.at B F) B F G H w := ⟨r.b, r.f, r.g, r.d, ⟨r.w, Same.refl _⟩, ⟨r.k, Same.refl _⟩⟩
theorem HR.at' (r : HR W B F G H w) (e : Same F0 F) (e2 : Same B0 B) : HR (W.at B0 F0) B F G H w := ⟨r.b, r.f, r.g, r.d, ⟨r.w, e⟩, ⟨r.k, e2⟩⟩
theorem HR.un (r : HR (W.at B0 F0) B F G H w) : HR W B F G H w := ⟨r.b, r.f, r.g, r.d, r.w.1, r.k.1⟩
theorem HR.toB (r : HR W B F G H w) (e : Same B0 B) (k : W.bk B0) : HR W B0 F G H w := ⟨fun a o h => r.b a o (e _ _ h), r.f, r.g, r.d, r.w, k⟩
theorem SR.at' (r : SR K W B F G H w σ sl) (e : Same F0 F) (e2 : Same B0 B) : SR K (W.at B0 F0) B F G H w σ sl := ⟨r.hr.at' e e2, r.len, r.s, r.o⟩
theorem SR.un (r : SR K (W.at B0 F0) B F G H w σ sl) : SR K W B F G H w σ sl := ⟨r.hr.un, r.len, r.s, r.o⟩
theorem SR.toB (r : SR K W B F G H w σ sl) (e : Same B0 B) (k : W.bk B0) : SR K W B0 F G H w σ sl := by
  refine ⟨r.hr.toB e k, r.len, fun i x h => ?_, r.o⟩
  obtain ⟨v, h1, h2⟩ := r.s i x h
  refine ⟨v, h1, ?_⟩
  cases x with
  | dat d => exact h2
  | mine o =>
    obtain ⟨a, ob, rfl, hB, q⟩ := h2
    exact ⟨a, ob, rfl, e.free hB, q⟩
theorem SR.down (r : SR K (W.at B0 F0) B F G H w σ sl) (k : W.bk B0) : SR K W B0 F G H w σ sl ∧ Same F0 F := ⟨r.un.toB r.hr.k.2 k, r.hr.w.2⟩
end
/-- what is wished of an exception, said over data -/
def Lk {Ω : Type} (X : Cx) (W : Wd Ω) (B0 F0 : Hp) (er : Er Ω) (U : WX) : Prop := W.bk B0 ∧ ∀ (x : Exn) (cls : Value) (d : Option Addr) (σ : L2.St) (sl : Sl) (F' G' H' : Hp) (w' : Ω),
  er x sl w' → SR X.K W B0 F' G' H' w' σ sl → Same F0 F' → ExR X.K X.mg F' cls d x → U cls d σ H'

/-! ### defs that may raise -/
structure SpcX (Ω : Type) where
  run : List Dt → Ω → (Dt → Ω → Prop) → (Exn → Ω → Prop) → Prop
  mono : ∀ ds w (C C' : Dt → Ω → Prop) (E E' : Exn → Ω → Prop), (∀ d w', C d w' → C' d w') → (∀ x w', E x w' → E' x w') → run ds w C E → run ds w C' E'
/-- where nothing is raised -/
def SpcX.no {Ω : Type} (S : SpcX Ω) : Spc Ω := ⟨fun ds w C => S.run ds w C fun _ _ => False, fun ds w C C' h => S.mono _ _ _ _ _ _ h fun _ _ z => z⟩
def spXOf {Ω : Type} (K : PySem.W.Frag) (mg : Str → Option Value) (W : Wd Ω) (S : SpcX Ω) : Sp := fun vs H Q E => ∃ B F G w ds, HR W B F G H w ∧ DrL K F vs ds ∧
  S.run ds w (fun d w' => ∀ v F' G' H', HR W B F' G' H' w' → Same F F' → Dr K F' v d → Q v H') fun x w' => ∀ cls d F' G' H', HR W B F' G' H' w' → Same F F' → ExR K mg F' cls d x → E cls d H'
structure CalleeX {Ω : Type} (P : Program) (w : World) (K : PySem.W.Frag) (mg : Str → Option Value) (base : Heap) (k : Nat) (x : Str) (ps : List Str) (W : Wd Ω) (S : SpcX Ω) : Prop where
  ex : ∃ (f : Addr) (fd : FuncData), FnG P w K mg base (L2.CX P w) k f fd ps (spXOf K mg W S) ∧ mg x = some (.ref f) ∧ PySem.W.keepIn K (.ref f) = true ∧ Binds K fd ps []
section
variable {Ω : Type} {P : Program} {w : World} {K : PySem.W.Frag} {mg : Str → Option Value} {base : Heap} {k : Nat} {f : Addr} {fd : FuncData} {x qual : Str} {ps N : List Str} {W : Wd Ω} {S : SpcX Ω} {S0 : Spc Ω} {st : Stmt} {B0 F0 : Hp}
theorem sp_at {vs : List V} {H : Hp} {Q : VK} {E : XK} (h : spOf K (W.at B0 F0) S0 vs H Q E) : spOf K W S0 vs H Q E := by
  obtain ⟨B, F, G, w, ds, h1, h2, h3⟩ := h
  exact ⟨B, F, G, w, ds, h1.un, h2, S0.mono _ _ _ _ (fun d w' z v F' G' H' r e q => z v F' G' H' (r.at' (h1.w.2.trans e) h1.k.2) e q) h3⟩
theorem spX_at {vs : List V} {H : Hp} {Q : VK} {E : XK} (h : spXOf K mg (W.at B0 F0) S vs H Q E) : spXOf K mg W S vs H Q E := by
  obtain ⟨B, F, G, w, ds, h1, h2, h3⟩ := h
  exact ⟨B, F, G, w, ds, h1.un, h2, S.mono _ _ _ _ _ _ (fun d w' z v F' G' H' r e q => z v F' G' H' (r.at' (h1.w.2.trans e) h1.k.2) e q) (fun x w' z cls d F' G' H' r e q => z cls d F' G' H' (r.at' (h1.w.2.trans e) h1.k.2) e q) h3⟩
theorem Callee.at (c : Callee P w K mg base k x ps W S0) : Callee P w K mg base k x ps (W.at B0 F0) S0 := by
  obtain ⟨f, fd, g, h1, h2, h3⟩ := c.ex
  exact ⟨f, fd, g.imp fun _ _ _ _ z => sp_at z, h1, h2, h3⟩
theorem CalleeX.at (c : CalleeX P w K mg base k x ps W S) : CalleeX P w K mg base k x ps (W.at B0 F0) S := by
  obtain ⟨f, fd, g, h1, h2, h3⟩ := c.ex
  exact ⟨f, fd, g.imp fun _ _ _ _ z => spX_at z, h1, h2, h3⟩
theorem FnG.bodyX (F : L2.Fun K x qual st f fd) (sc : FnScope N ps (defScope st)) (len : ∀ ds w C E, S.run ds w C E → ds.length = ps.length)
    (hb : ∀ (cdv : Value) (A : Around) (outer : List Env) (s : Shared) (H : Hp) (E : XK), A.guards = some [] → Room k (A.deeper (envOfC qual (defScope st) s.heap.objs.size f cdv)) → ∀ (B0 F0 : Hp) (Ex : Exn → Ω → Prop),
      Lk (cxOf (L2.CX P w) P w K mg base N qual (defScope st) f cdv A outer s H E) W B0 F0 (fun x _ w' => Ex x w') (fun cls d _ H' => E cls d H') →
      ∃ p, PDB (cxOf (L2.CX P w) P w K mg base N qual (defScope st) f cdv A outer s H E) (W.at B0 F0) (defBody st) p ∧ ∀ ds w C, S.run ds w C Ex → p (endD C) (startD N.length ds) w) :
    FnG P w K mg base (L2.CX P w) (k + 1) f fd ps (spXOf K mg W S) := by
  refine FnG.of F sc (fun vs H Q E h => ?_) fun cdv A outer s H vs Q E hgu hr h => ?_
  · obtain ⟨B, F', G, w', ds, h1, h2, h3⟩ := h
    rw [h2.len]
    exact len _ _ _ _ h3
  · obtain ⟨B, F', G, w', ds, q1, q2, q3⟩ := h
    obtain ⟨p, h1, h2⟩ := hb cdv A outer s H E hgu hr B F' (fun x w' => ∀ cls d F'' G' H', HR W B F'' G' H' w' → Same F' F'' → ExR K mg F'' cls d x → E cls d H') ⟨q1.k, fun x cls d σ sl F'' G' H' w' z r e q => z cls d F'' G' H' r.hr e q⟩
    refine ⟨_, h1.run, B, F', G, w', _, start_ok q1.at q2, h1.mono _ _ ?_ _ _ (h2 _ _ _ q3)⟩
    refine ⟨fun sl w z σ' F'' G' H' r e => ?_, fun d w z v F'' G' H' r e q => z v F'' G' H' r.un e q, fun _ _ z => z.elim, fun _ _ z => z.elim⟩
    exact z .non F'' G' H' r.hr.un e .non
theorem CalleeX.mk' (h : Has K mg x st) (sc : FnScope N ps (defScope st))
    (hbd : ∀ (kV doc pm : Value) (an : Option Addr) (cdv ct : Value) (us : List Value), us.length = ps.length → bindArgs (PySem.W.fnOf x x (defArgs st) (defBody st) (defScope st) .none kV doc pm an cdv ct) ⟨us, []⟩ = pure (ps.zip us))
    (len : ∀ ds w C E, S.run ds w C E → ds.length = ps.length) (p : Er Ω → DS Ω)
    (hb : ∀ (f : Addr) (cdv : Value) (A : Around) (outer : List Env) (s : Shared) (H : Hp) (E : XK) (B0 F0 : Hp) (er : Er Ω), A.guards = some [] → Room k (A.deeper (envOfC x (defScope st) s.heap.objs.size f cdv)) →
      Lk (cxOf (L2.CX P w) P w K mg base N x (defScope st) f cdv A outer s H E) W B0 F0 er (fun cls d _ H' => E cls d H') →
      PDB (cxOf (L2.CX P w) P w K mg base N x (defScope st) f cdv A outer s H E) (W.at B0 F0) (defBody st) (p er))
    (m : ∀ ds w C E, S.run ds w C E → p (fun x _ w' => E x w') (endD C) (startD N.length ds) w) : CalleeX P w K mg base (k + 1) x ps W S := by
  obtain ⟨f, fd, F, hm⟩ := h.ex
  exact ⟨f, fd, FnG.bodyX F sc len fun cdv A outer s H E hgu hr B0 F0 Ex lk => ⟨_, hb f cdv A outer s H E B0 F0 _ hgu hr lk, fun ds w C z => m ds w C Ex z⟩, hm, F.kp, F.binds hbd⟩
end

/-! ### calls -/
section
variable {Ω : Type} {X : Cx} {W : Wd Ω} {CX : CXT} {k j : Nat} {f : Addr} {fd : FuncData} {ps : List Str} {sp : Sp} {E : L2.St → XK} {x : Str} {p q pos : Pos} {e : Expr} {es : List Expr} {t : TA} {S : SpcX Ω} {pa : DL Ω} {B0 F0 : Hp} {er : Er Ω} {U : WX}
def wCallX (S : SpcX Ω) (er : Er Ω) (pa : DL Ω) : DE Ω := fun sl w C => pa sl w fun ds w1 => S.run ds w1 (fun d w2 => C d .cl w2) fun x w2 => er x sl w2
end

/-! ### raise -/
abbrev DM (Ω : Type) := Sl → Ω → (Exn → Ω → Prop) → Prop
end Ck
namespace Ck
open PySem PySem.Spec PyProof.Rows L2
/-! ### try: body, except C: suite -/
section
variable {Ω : Type} {X : Cx} {W : Wd Ω} {er : Er Ω} {U : WX} {B0 F0 : Hp}
/-- what is let out, wherever -/
def LkS (X : Cx) (W : Wd Ω) (er : Er Ω) (U : WX) : Prop := ∀ (x : Exn) (cls : Value) (d : Option Addr) (σ : L2.St) (sl : Sl) (B F G H : Hp) (w : Ω), er x sl w → SR X.K W B F G H w σ sl → ExR X.K X.mg F cls d x → U cls d σ H
theorem Lk.s (lk : Lk X W B0 F0 er U) : LkS X (W.at B0 F0) er U := fun x cls d σ sl B F G H w h r q => let ⟨q1, q2⟩ := r.down lk.1; lk.2 x cls d σ sl F G H w h q1 q2 q
/-- which classes a clause takes -/
def SubOk (X : Cx) (c : Value) (sub : Str → Option Bool) : Prop := ∀ (n : Str) (b : Bool) (C : Addr), sub n = some b → X.mg n = some (.ref C) → PySem.W.exmOne X.K (.ref C) c = some b
def noSlot (i : Nat) (D : DD Ω) : DD Ω := { nx := fun s w => D.nx (s.set i none) w, rt := D.rt, bk := fun s w => D.bk (s.set i none) w, ct := fun s w => D.ct (s.set i none) w }
theorem up_at {K : PySem.W.Frag} {B F : Hp} {D : Ends} : (up K W B F D).Le (up K (W.at B0 F0) B F D) :=
  ⟨fun _ _ z σ' F' G' H' r e => z σ' F' G' H' r.un e, fun _ _ z v F' G' H' r e q => z v F' G' H' r.un e q, fun _ _ z σ' F' G' H' r e => z σ' F' G' H' r.un e, fun _ _ z σ' F' G' H' r e => z σ' F' G' H' r.un e⟩
theorem SR.nothing {K : PySem.W.Frag} {B F G H : Hp} {w : Ω} {σ : L2.St} {sl : Sl} (r : SR K W B F G H w σ sl) (i : Nat) : SR K W B F G H w (σ.set i none) (sl.set i none) := by
  have key : ∀ (j : Nat) (x : Sv), (sl.set i none)[j]? = some (some x) → i ≠ j ∧ sl[j]? = some (some x) := fun j x h => by
    rw [List.getElem?_set] at h
    by_cases e : i = j
    · rw [if_pos e] at h
      split at h <;> cases h
    · rw [if_neg e] at h
      exact ⟨e, h⟩
  refine ⟨r.hr, by rw [List.length_set, List.length_set]; exact r.len, fun j x h => ?_, fun j k v l m h1 h2 h3 h4 => ?_⟩
  · obtain ⟨e, h⟩ := key j x h
    rw [List.getElem?_set_ne e]
    exact r.s j x h
  · obtain ⟨e1, h1⟩ := key j _ h1
    obtain ⟨e2, h2⟩ := key k _ h2
    rw [List.getElem?_set_ne e1] at h3
    rw [List.getElem?_set_ne e2] at h4
    exact r.o j k v l m h1 h2 h3 h4
section
variable {cn n : Str} {c : Value} {i : Nat} {body suite : List Stmt} {b₀ : Stmt} {np pos pos' : Pos} {sub : Str → Option Bool} {pb : Er Ω → DS Ω}
theorem noSlot_le {D D' : DD Ω} (l : D.Le D') : (noSlot i D).Le (noSlot i D') := ⟨fun _ _ => l.nx _ _, l.rt, fun _ _ => l.bk _ _, fun _ _ => l.ct _ _⟩
end
/-! ### e.f, e the exception that a suite holds -/
end
end Ck
namespace GenK
open PySem
open Sem (wp)
/-! ### what sleeps is not woken: a run over a table whose sleepers cannot be woken is a run over the true table, and the sleepers stay -/
def deadF (f : Frame) : Frame := .ret (fun _ => .unsupported "") none false [] f.where_.1 f.where_.2 []
def sleeps : GenState → Bool
  | .suspended .. => true
  | _ => false
def dead : GenState → GenState
  | .suspended _ l c p fs cl => .suspended (fun _ => .unsupported "") l c p (fs.map deadF) cl
  | x => x
theorem dead_seen (x : GenState) : (dead x).seen = x.seen := by
  cases x with
  | suspended k l c p fs cl =>
    show (GenStatus.suspended, some ((c, p) :: (fs.map deadF).map Frame.where_)) = (GenStatus.suspended, some ((c, p) :: fs.map Frame.where_))
    rw [List.map_map]
    rfl
  | _ => rfl
/-- the sleepers of a -/
def Asleep (a : Array GenState) (i : Nat) : Prop := ∃ x, a[i]? = some x ∧ sleeps x = true
/-- d: the table with sleepers that cannot be woken; t: the true one -/
structure Rel (a d t : Array GenState) : Prop where
  size : d.size = t.size
  old : a.size ≤ t.size
  asl : ∀ i, Asleep a i → t[i]? = a[i]? ∧ d[i]? = (a[i]?).map dead
  awk : ∀ i, ¬ Asleep a i → d[i]? = t[i]?
  nog : ∀ (i : Nat) k l c p fs cl, d[i]? = some (GenState.suspended k l c p fs cl) → splitAtGen fs = none
theorem Rel.set {a d t : Array GenState} (R : Rel a d t) {g : Nat} (n : ¬ Asleep a g) {x : GenState} (hx : ∀ k l c p fs cl, x = .suspended k l c p fs cl → splitAtGen fs = none) : Rel a (d.setIfInBounds g x) (t.setIfInBounds g x) where
  size := by rw [Array.size_setIfInBounds, Array.size_setIfInBounds]; exact R.size
  old := by rw [Array.size_setIfInBounds]; exact R.old
  asl := fun i h => by
    have hi : g ≠ i := fun z => n (by rw [z]; exact h)
    rw [Array.getElem?_setIfInBounds_ne hi, Array.getElem?_setIfInBounds_ne hi]
    exact R.asl i h
  awk := fun i h => by
    by_cases hi : g = i
    · subst hi
      rw [Array.getElem?_setIfInBounds_self, Array.getElem?_setIfInBounds_self, R.size]
    · rw [Array.getElem?_setIfInBounds_ne hi, Array.getElem?_setIfInBounds_ne hi]
      exact R.awk i h
  nog := fun i k l c p fs cl e => by
    by_cases hi : g = i
    · subst hi
      rw [Array.getElem?_setIfInBounds_self] at e
      split at e
      · exact hx k l c p fs cl (Option.some.inj e)
      · cases e
    · rw [Array.getElem?_setIfInBounds_ne hi] at e
      exact R.nog i k l c p fs cl e
theorem Rel.push {a d t : Array GenState} (R : Rel a d t) {c : Code} : Rel a (d.push (.fresh c)) (t.push (.fresh c)) where
  size := by rw [Array.size_push, Array.size_push, R.size]
  old := by rw [Array.size_push]; exact Nat.le_succ_of_le R.old
  asl := fun i h => by
    obtain ⟨x, q1, q2⟩ := h
    have hi : i < a.size := (Array.getElem?_eq_some_iff.mp q1).1
    have h1 := R.old
    have h2 := R.size
    rw [Array.getElem?_push, Array.getElem?_push, if_neg (by omega), if_neg (by omega)]
    exact R.asl i ⟨x, q1, q2⟩
  awk := fun i h => by
    rw [Array.getElem?_push, Array.getElem?_push, R.size, R.awk i h]
  nog := fun i k l c' p fs cl e => by
    rw [Array.getElem?_push] at e
    split at e
    · cases e
    · exact R.nog i k l c' p fs cl e
theorem Rel.seen {a d t : Array GenState} (R : Rel a d t) {g : Nat} {st : GenState} (q : d[g]? = some st) : ∃ st', t[g]? = some st' ∧ st'.seen = st.seen := by
  by_cases ha : Asleep a g
  · obtain ⟨q1, q2⟩ := R.asl g ha
    obtain ⟨x, hx, _⟩ := ha
    rw [hx] at q1 q2
    rw [q] at q2
    cases q2
    exact ⟨x, q1, (dead_seen x).symm⟩
  · exact ⟨st, (R.awk g ha).symm.trans q, rfl⟩
theorem Rel.keeps {a d t : Array GenState} (R : Rel a d t) {i : Nat} {x : GenState} (e : a[i]? = some x) (h : sleeps x = true) : t[i]? = some x := ((R.asl i ⟨x, e, h⟩).1).trans e
theorem bare_dead {x : GenState} : (dead x).bare = x.bare := by cases x <;> rfl
theorem Rel.bare {a d t : Array GenState} (R : Rel a d t) (h : ∀ x ∈ d, x.bare = true) : ∀ x ∈ t, x.bare = true := fun x hx => by
  obtain ⟨i, hi, rfl⟩ := Array.mem_iff_getElem.mp hx
  have e : t[i]? = some t[i] := Array.getElem?_eq_getElem hi
  by_cases ha : Asleep a i
  · obtain ⟨q1, q2⟩ := R.asl i ha
    rw [← q1, e] at q2
    have := h _ (Array.mem_of_getElem? q2)
    rw [bare_dead] at this
    exact this
  · exact h _ (Array.mem_of_getElem? ((R.awk i ha).trans e))
end GenK
namespace Ck
open PySem PySem.Spec PyProof.Rows L2 GenW
/-! ### for, in a generator's body -/
end Ck
namespace Ck
open PySem PySem.Spec PyProof.Rows L2 GenW
/-! ### a generator whose consumer may do what it likes while it sleeps: its body is looked at anew from each waking -/
/-- what stands below an address -/
def cut (h : Heap) (L : Addr) : Heap := { h with objs := ⟨h.objs.toList.take L⟩ }
section
variable {X : Cx} {st : Stmt} {rest : List Stmt}
/-! ### yield -/
/-! ### for -/
end
end Ck
namespace Ck
open PySem PySem.Spec PyProof.Rows L2 GenW
/-! ### making one -/
end Ck
namespace Ck
open PySem PySem.Spec PyProof.Rows L2 GenW
/-! ### for, over a generator -/
end Ck
namespace Ck
open PySem PySem.Spec PyProof.Rows L2
/-! ### prices, tests, rules, books as data -/
structure T3 where
  a : Int
  b : Int
  c : Int
def d3 (t : T3) : Dt := .tup [.int t.a, .int t.b, .int t.c]
def dS (s : Int × Int) : Dt := .tup [.int s.1, .int s.2]
structure Rule where
  ts : List T3
  f : Int
structure Book where
  w : Int
  ps : List T3
  rs : List Rule
  last : Int
/-- within bounds that never matter -/
def Bd (x : Int) : Prop := -(2 ^ 40) < x ∧ x < 2 ^ 40
def Bd3 (t : T3) : Prop := Bd t.a ∧ Bd t.b ∧ Bd t.c
def BdS (s : Int × Int) : Prop := Bd s.1 ∧ Bd s.2
theorem Bd.mul {x y : Int} (h : Bd x) (k : Bd y) : CMulX x y := by
  obtain ⟨h1, h2⟩ := h
  obtain ⟨k1, k2⟩ := k
  exact mulx60 (by omega) (by omega) (by omega) (by omega)
def roomAt (p : T3) (s : Int × Int) : Int := p.a + p.b * s.1 + p.c * s.2
def holdB (ts : List T3) (s : Int × Int) : Bool := ts.all fun t => !decide (t.c < t.a * s.1 + t.b * s.2)
def decider (rs : List Rule) (s : Int × Int) : Nat := rs.findIdx fun r => holdB r.ts s
def kept (b : Book) (s : Int × Int) : Int := match b.rs[decider b.rs s]? with
  | some r => r.f
  | none => b.last
def S_room_at {Ω : Type} : Spc Ω := pureS (ι := T3 × Int × Int) (fun i => [d3 i.1, dS i.2]) (fun i => Bd3 i.1 ∧ BdS i.2) fun i => .int (roomAt i.1 i.2)
def S_do_hold {Ω : Type} : Spc Ω := pureS (ι := List T3 × Int × Int) (fun i => [.tup (i.1.map d3), dS i.2]) (fun i => (∀ t ∈ i.1, Bd3 t) ∧ BdS i.2) fun i => .bl (holdB i.1 i.2)
def BookBd (b : Book) : Prop := (∀ t ∈ b.ps, Bd3 t) ∧ (∀ r ∈ b.rs, ∀ t ∈ r.ts, Bd3 t)
/-- the forms that are named are forms -/
def FormOk (b : Book) : Prop := (∀ r ∈ b.rs, 0 ≤ r.f ∧ r.f < b.ps.length) ∧ 0 ≤ b.last ∧ b.last < b.ps.length
abbrev p_room_at {Ω : Type} : DS Ω :=
  (wRet (wOp fAdd (wOp fAdd (wOp fIx (wVar 0) (wC (.int 0))) (wOp fMul (wOp fIx (wVar 0) (wC (.int 1))) (wOp fIx (wVar 1) (wC (.int 0))))) (wOp fMul (wOp fIx (wVar 0) (wC (.int 2))) (wOp fIx (wVar 1) (wC (.int 1))))))
abbrev p_do_hold {Ω : Type} : DS Ω :=
  (wSeq (wFor (.many [2, 3, 4]) (wiSeq (wVar 0)) (wIfS (wTV (wOp fGt (wOp fAdd (wOp fMul (wVar 2) (wOp fIx (wVar 1) (wC (.int 0)))) (wOp fMul (wVar 3) (wOp fIx (wVar 1) (wC (.int 1))))) (wVar 4))) (wRet (wC (.bl false))) wNext))
  (wRet (wC (.bl true))))
theorem m_room_at {Ω : Type} : ∀ ds (w : Ω) C, S_room_at.run ds w C → p_room_at (endD C) (startD 2 ds) w := by
  rintro ds w C ⟨⟨p, s⟩, rfl, ⟨⟨h1, h2, h3⟩, h4, h5⟩, q⟩
  exact ⟨_, rfl, _, rfl, _, rfl, h2.mul h4, _, rfl, _, rfl, h3.mul h5, rfl, q⟩
theorem holdB_iff (ts : List T3) (s : Int × Int) : holdB ts s = true ↔ ∀ (j : Nat) (t : T3), ts[j]? = some t → decide (t.c < t.a * s.1 + t.b * s.2) = false := by
  unfold holdB
  rw [List.all_eq_true]
  constructor
  · intro h j t ht
    have := h t (List.mem_of_getElem? ht)
    simpa using this
  · intro h t ht
    obtain ⟨j, hj⟩ := List.getElem?_of_mem ht
    have := h j t hj
    simpa using this
/-- whether the j-th test fails -/
def badT (ts : List T3) (s : Int × Int) (j : Nat) : Bool := match ts[j]? with
  | some t => decide (t.c < t.a * s.1 + t.b * s.2)
  | none => false
theorem m_do_hold {Ω : Type} : ∀ ds (w : Ω) C, S_do_hold.run ds w C → p_do_hold (endD C) (startD 5 ds) w := by
  rintro ds w C ⟨⟨ts, s⟩, rfl, ⟨h1, h2, h3⟩, q⟩
  have q : C (.bl (holdB ts s)) w := q
  refine ⟨rfl, _, rfl, ?_⟩
  refine loop_map d3 ts (fun _ sl => ∃ x2 x3 x4, sl = [some (.dat (.tup (ts.map d3))), some (.dat (dS s)), x2, x3, x4]) (badT ts s) ?_ ⟨_, _, _, rfl⟩ ?_
  · rintro i t sl ht hb ⟨x2, x3, x4, rfl⟩
    have hu := h1 t (List.mem_of_getElem? ht)
    have ei : badT ts s i = decide (t.c < t.a * s.1 + t.b * s.2) := by
      unfold badT
      rw [ht]
    refine ⟨_, rfl, fun N hN => ⟨_, rfl, hu.1.mul h2, _, rfl, hu.2.1.mul h3, _, rfl, ite2 (fun hd => ?_) (fun hd => ?_)⟩⟩
    · have e' : holdB ts s = false := by
        cases hh : holdB ts s with
        | false => rfl
        | true =>
          have hd : decide (t.c < t.a * s.1 + t.b * s.2) = true := hd
          rw [(holdB_iff ts s).mp hh i t ht] at hd
          cases hd
      rw [e'] at q
      exact ⟨rfl, q⟩
    · exact hN (by rw [ei]; simpa using hd) _ ⟨_, _, _, rfl⟩
  · rintro hb sl ⟨x2, x3, x4, rfl⟩
    have e' : holdB ts s = true := (holdB_iff ts s).mpr fun j t ht => by
      have := hb j (List.getElem?_eq_some_iff.mp ht).1
      unfold badT at this
      rw [ht] at this
      exact this
    rw [e'] at q
    exact ⟨rfl, q⟩
end Ck
namespace Ck
open PySem PySem.Spec PyProof.Rows L2
local macro_rules | `(tactic| walk_at "ck") => `(tactic| try simp only [wNext, wBrk, wCnt, wSeq, wRet, wRetN, wSet, wOwn, wDrop, wUnp, wPar, wIfS, wApp, wExt, wSetIx, wAug, wFrz, wFor, k_var, k_vk1, k_vk2, k_par, wC, wL, wOp, wOpL, wF, wFL, wNil, wCons, wTup, wLst, wTV, wTAnd, wTOr, wTNot, wAnd, wOr, wNot, wIfx, wIsN, wNotN, wChain, wO0, wO1, wSl, wCall, wIsi, wLr1, wLr2, wNeg, wLc, wYes, wiSeq, wiR1, wiR2, wiEnum, wiZip, noOwnB, wipeD, wEmp, wListZip, wSortSet, wRevL, wRevT, wOneB, k_mulT, k_add1, k_add2, k_add3, k_add4, k_addL, k_sub, k_mul1, k_mul2, k_mulL, k_div, k_mod, k_pow, k_cmp, k_eq, k_ne, k_ea1, k_ea2, k_ea3, k_ea4, k_in1, k_in2, k_in3, k_in4, k_ix1, k_ix2, k_ix3, k_sl1, k_sl2, k_len1, k_len2, k_len3, k_int1, k_int2, k_abs, k_tuple1, k_tuple2, k_list1, k_list2, k_min2, k_max2, k_non_non, k_ty_int_non, k_ty_bool_non, k_ty_tuple_non, k_ty_str_non, k_ty_list_non, k_non_bl, k_ty_int_bl, k_ty_bool_bl, k_ty_tuple_bl, k_ty_str_bl, k_ty_list_bl, k_non_int, k_ty_int_int, k_ty_bool_int, k_ty_tuple_int, k_ty_str_int, k_ty_list_int, k_non_str, k_ty_int_str, k_ty_bool_str, k_ty_tuple_str, k_ty_str_str, k_ty_list_str, k_non_tup, k_ty_int_tup, k_ty_bool_tup, k_ty_tuple_tup, k_ty_str_tup, k_ty_list_tup, k_non_lst, k_ty_int_lst, k_ty_bool_lst, k_ty_tuple_lst, k_ty_str_lst, k_ty_list_lst, k_non_emp, k_ty_int_emp, k_ty_bool_emp, k_ty_tuple_emp, k_ty_str_emp, k_ty_list_emp, k_seq_non, k_seq_bl, k_seq_int, k_seq_str, k_seq_tup, k_seq_lst, k_seq_emp, k_sz0, k_sz1, k_sz2, k_sz3, k_sz4, k_sz5, k_sz6, k_sz7, k_sz8, k_sz9, k_sz10, k_sz11, k_sz12, k_sz13, k_sz14, k_sz15, k_sz16, k_sz17, k_sz18, k_sz19, k_sz20, k_sz21, k_sz22, k_sz23, k_at0, k_at1, k_at2, k_at3, k_iteT, k_iteF, k_bt1, k_bt2, k_sa0, k_sa1, k_endn, k_endr, List.getElem?_cons_succ, List.getElem?_cons_zero, List.set_cons_succ, List.set_cons_zero, List.length_cons, List.length_nil, List.length_map, List.all_cons, List.all_nil, Nat.reduceAdd, Nat.zero_add, Bool.and_true, Bool.and_self, Option.some.injEq, Dt.int.injEq, Dt.bl.injEq, Dt.str.injEq, Dt.tup.injEq, Dt.lst.injEq, Sv.dat.injEq, Sv.own.injEq, exists_eq_left', exists_eq_left, exists_eq_right, exists_eq', exists_eq, if_true, if_false, Bool.not_false, Bool.not_true, Bool.not_not, true_and, and_true, false_and, and_false, exists_const, reduceCtorEq])
/-! ### any data -/
abbrev Pl (v : Dt) : Prop := ∃ p, v.pr = some p
theorem prL_mem : ∀ {l : List Dt} {ps : List PyData}, prL l = some ps → ∀ d ∈ l, Pl d
  | [], _, _, d, h => nomatch h
  | a :: l, ps, e, d, h => by
    simp only [prL, Option.bind_eq_some_iff, Option.map_eq_some_iff] at e
    obtain ⟨p, e1, qs, e2, rfl⟩ := e
    rcases List.mem_cons.mp h with rfl | h
    · exact ⟨p, e1⟩
    · exact prL_mem e2 d h
theorem Pl.tup {l : List Dt} (h : Pl (.tup l)) : ∀ d ∈ l, Pl d := by
  obtain ⟨p, h⟩ := h
  simp only [Dt.pr, Option.map_eq_some_iff] at h
  obtain ⟨ps, h, _⟩ := h
  exact prL_mem h
theorem Shw.pl {k n : Nat} {v : Dt} (h : Shw k n v) : Pl v := let ⟨p, e, _⟩ := h; ⟨p, e⟩
/-! ### prices -/
def toT3 (d : Dt) : T3 := match d with
  | .tup [.int a, .int b, .int c] => ⟨a, b, c⟩
  | _ => ⟨0, 0, 0⟩
def corners (w : Int) : List (Int × Int) := [(0, 0), (1, 1), (w, 1), ((w + 1) / 2, (w + 1) / 2)] ++ (if w % 2 = 0 then [((w + 1) / 2 + 1, (w + 1) / 2)] else [])
/-- a room below 1 at some corner -/
def low (w : Int) (d : Dt) : Bool := (corners w).any fun s => decide (roomAt (toT3 d) s < 1)
abbrev two (a : Dt) (x : Str) : Dt := .tup [a, .str x]
end Ck
namespace Ck
open PySem PySem.Spec PyProof.Rows L2
local macro_rules | `(tactic| walk_at "ck") => `(tactic| try simp only [wNext, wBrk, wCnt, wSeq, wRet, wRetN, wSet, wOwn, wDrop, wUnp, wPar, wIfS, wApp, wExt, wSetIx, wAug, wFrz, wFor, k_var, k_vk1, k_vk2, k_par, wC, wL, wOp, wOpL, wF, wFL, wNil, wCons, wTup, wLst, wTV, wTAnd, wTOr, wTNot, wAnd, wOr, wNot, wIfx, wIsN, wNotN, wChain, wO0, wO1, wSl, wCall, wIsi, wLr1, wLr2, wNeg, wLc, wYes, wiSeq, wiR1, wiR2, wiEnum, wiZip, noOwnB, wipeD, wEmp, wListZip, wSortSet, wRevL, wRevT, wOneB, k_mulT, k_add1, k_add2, k_add3, k_add4, k_addL, k_sub, k_mul1, k_mul2, k_mulL, k_div, k_mod, k_pow, k_cmp, k_eq, k_ne, k_ea1, k_ea2, k_ea3, k_ea4, k_in1, k_in2, k_in3, k_in4, k_ix1, k_ix2, k_ix3, k_sl1, k_sl2, k_len1, k_len2, k_len3, k_int1, k_int2, k_abs, k_tuple1, k_tuple2, k_list1, k_list2, k_min2, k_max2, k_non_non, k_ty_int_non, k_ty_bool_non, k_ty_tuple_non, k_ty_str_non, k_ty_list_non, k_non_bl, k_ty_int_bl, k_ty_bool_bl, k_ty_tuple_bl, k_ty_str_bl, k_ty_list_bl, k_non_int, k_ty_int_int, k_ty_bool_int, k_ty_tuple_int, k_ty_str_int, k_ty_list_int, k_non_str, k_ty_int_str, k_ty_bool_str, k_ty_tuple_str, k_ty_str_str, k_ty_list_str, k_non_tup, k_ty_int_tup, k_ty_bool_tup, k_ty_tuple_tup, k_ty_str_tup, k_ty_list_tup, k_non_lst, k_ty_int_lst, k_ty_bool_lst, k_ty_tuple_lst, k_ty_str_lst, k_ty_list_lst, k_non_emp, k_ty_int_emp, k_ty_bool_emp, k_ty_tuple_emp, k_ty_str_emp, k_ty_list_emp, k_seq_non, k_seq_bl, k_seq_int, k_seq_str, k_seq_tup, k_seq_lst, k_seq_emp, k_sz0, k_sz1, k_sz2, k_sz3, k_sz4, k_sz5, k_sz6, k_sz7, k_sz8, k_sz9, k_sz10, k_sz11, k_sz12, k_sz13, k_sz14, k_sz15, k_sz16, k_sz17, k_sz18, k_sz19, k_sz20, k_sz21, k_sz22, k_sz23, k_at0, k_at1, k_at2, k_at3, k_iteT, k_iteF, k_bt1, k_bt2, k_sa0, k_sa1, k_endn, k_endr, List.getElem?_cons_succ, List.getElem?_cons_zero, List.set_cons_succ, List.set_cons_zero, List.length_cons, List.length_nil, List.length_map, List.all_cons, List.all_nil, Nat.reduceAdd, Nat.zero_add, Bool.and_true, Bool.and_self, Option.some.injEq, Dt.int.injEq, Dt.bl.injEq, Dt.str.injEq, Dt.tup.injEq, Dt.lst.injEq, Sv.dat.injEq, Sv.own.injEq, exists_eq_left', exists_eq_left, exists_eq_right, exists_eq', exists_eq, if_true, if_false, Bool.not_false, Bool.not_true, Bool.not_not, true_and, and_true, false_and, and_false, exists_const, reduceCtorEq])

/-! ### tests, rules, books -/
end Ck
namespace Ck
open PySem PySem.Spec PyProof.Rows L2
local macro_rules | `(tactic| walk_at "ck") => `(tactic| try simp only [wNext, wBrk, wCnt, wSeq, wRet, wRetN, wSet, wOwn, wDrop, wUnp, wPar, wIfS, wApp, wExt, wSetIx, wAug, wFrz, wFor, k_var, k_vk1, k_vk2, k_par, wC, wL, wOp, wOpL, wF, wFL, wNil, wCons, wTup, wLst, wTV, wTAnd, wTOr, wTNot, wAnd, wOr, wNot, wIfx, wIsN, wNotN, wChain, wO0, wO1, wSl, wCall, wIsi, wLr1, wLr2, wNeg, wLc, wYes, wiSeq, wiR1, wiR2, wiEnum, wiZip, noOwnB, wipeD, k_add1, k_add2, k_add3, k_add4, k_addL, k_sub, k_mul1, k_mul2, k_mulL, k_div, k_mod, k_pow, k_cmp, k_eq, k_ne, k_ea1, k_ea2, k_ea3, k_ea4, k_in1, k_in2, k_in3, k_in4, k_ix1, k_ix2, k_ix3, k_sl1, k_sl2, k_len1, k_len2, k_len3, k_int1, k_int2, k_abs, k_tuple1, k_tuple2, k_list1, k_list2, k_min2, k_max2, k_non_non, k_ty_int_non, k_ty_bool_non, k_ty_tuple_non, k_ty_str_non, k_ty_list_non, k_non_bl, k_ty_int_bl, k_ty_bool_bl, k_ty_tuple_bl, k_ty_str_bl, k_ty_list_bl, k_non_int, k_ty_int_int, k_ty_bool_int, k_ty_tuple_int, k_ty_str_int, k_ty_list_int, k_non_str, k_ty_int_str, k_ty_bool_str, k_ty_tuple_str, k_ty_str_str, k_ty_list_str, k_non_tup, k_ty_int_tup, k_ty_bool_tup, k_ty_tuple_tup, k_ty_str_tup, k_ty_list_tup, k_non_lst, k_ty_int_lst, k_ty_bool_lst, k_ty_tuple_lst, k_ty_str_lst, k_ty_list_lst, k_non_emp, k_ty_int_emp, k_ty_bool_emp, k_ty_tuple_emp, k_ty_str_emp, k_ty_list_emp, k_seq_non, k_seq_bl, k_seq_int, k_seq_str, k_seq_tup, k_seq_lst, k_seq_emp, k_sz0, k_sz1, k_sz2, k_sz3, k_sz4, k_sz5, k_sz6, k_sz7, k_sz8, k_sz9, k_sz10, k_sz11, k_sz12, k_sz13, k_sz14, k_sz15, k_sz16, k_sz17, k_sz18, k_sz19, k_sz20, k_sz21, k_sz22, k_sz23, k_at0, k_at1, k_at2, k_at3, k_iteT, k_iteF, k_bt1, k_bt2, k_sa0, k_sa1, k_endn, k_endr, List.getElem?_cons_succ, List.getElem?_cons_zero, List.set_cons_succ, List.set_cons_zero, List.length_cons, List.length_nil, List.length_map, List.all_cons, List.all_nil, Nat.reduceAdd, Nat.zero_add, Bool.and_true, Bool.and_self, Option.some.injEq, Dt.int.injEq, Dt.bl.injEq, Dt.str.injEq, Dt.tup.injEq, Dt.lst.injEq, Sv.dat.injEq, Sv.own.injEq, exists_eq_left', exists_eq_left, exists_eq_right, exists_eq', exists_eq, true_and, and_true, false_and, and_false, exists_const, reduceCtorEq])
/-! ### what the laws draw -/
/-- a shape of a width -/
def IsSh (w : Int) (s : Int × Int) : Prop := (s.1 = 0 ∧ s.2 = 0) ∨ (1 ≤ s.2 ∧ s.2 ≤ s.1 ∧ s.2 ≤ w - s.1 + 1)
/-- a price of a width as it is drawn -/
structure PriceOk (w B : Int) (t : T3) : Prop where
  a : -B ≤ t.a ∧ t.a ≤ B
  b : -B ≤ t.b ∧ t.b ≤ B
  c : -B ≤ t.c ∧ t.c ≤ B
  room : ∀ s, IsSh w s → 1 ≤ roomAt t s
def TestOk (t : T3) : Prop := (-10000000 ≤ t.a ∧ t.a ≤ 10000000) ∧ (-10000000 ≤ t.b ∧ t.b ≤ 10000000) ∧ (-10000000 ≤ t.c ∧ t.c ≤ 10000000)
structure BookOk (b : Book) : Prop where
  w : 1 ≤ b.w ∧ b.w ≤ 1000
  ps : 1 ≤ b.ps.length ∧ b.ps.length ≤ 6
  pr : ∀ t ∈ b.ps, PriceOk b.w 1000000 t
  rs : b.rs.length ≤ 10
  ts : ∀ r ∈ b.rs, r.ts.length ≤ 5 ∧ (∀ t ∈ r.ts, TestOk t) ∧ 0 ≤ r.f ∧ r.f < b.ps.length
  last : 0 ≤ b.last ∧ b.last < b.ps.length
def S_law_price : Spc Dw := drawS (ι := Int) (fun w => [.int w]) (fun w => 1 ≤ w ∧ w ≤ 1000) (fun _ => 4) (fun w d => ∃ t, d = d3 t ∧ PriceOk w (12 + 4 * w) t)
/-- how many prices at most, by the width's bound: most is the last argument -/
def S_law_prices : Spc Dw := drawS (ι := Int × Int) (fun i => [.int i.1, .int i.2]) (fun i => 1 ≤ i.1 ∧ i.1 ≤ 1000 ∧ 1 ≤ i.2 ∧ i.2 ≤ 6) (fun _ => 26)
  (fun i d => ∃ ps : List T3, d = .tup (ps.map d3) ∧ 1 ≤ ps.length ∧ (ps.length : Int) ≤ i.2 ∧ ∀ t ∈ ps, PriceOk i.1 1000000 t)
def S_law_some_shape : Spc Dw := drawS (ι := Int) (fun w => [.int w]) (fun w => 1 ≤ w ∧ w ≤ 1000) (fun _ => 2) (fun w d => ∃ s, d = dS s ∧ IsSh w s)
def S_law_test : Spc Dw := drawS (ι := Int) (fun w => [.int w]) (fun w => 1 ≤ w ∧ w ≤ 1000) (fun _ => 6) (fun w d => ∃ t, d = d3 t ∧ TestOk t)
def S_law_tests : Spc Dw := drawS (ι := Int) (fun w => [.int w]) (fun w => 1 ≤ w ∧ w ≤ 1000) (fun _ => 31) (fun w d => ∃ ts : List T3, d = .tup (ts.map d3) ∧ ts.length ≤ 5 ∧ ∀ t ∈ ts, TestOk t)
def SmallB (b : Book) : Prop := b.rs.length ≤ 1000 ∧ ∀ r ∈ b.rs, r.ts.length ≤ 1000
abbrev p_law_one : DS Dw :=
  (wRet (wOp fIx (wVar 1) (wCall S_law_draw (wCons (wVar 0) (wCons (wF fLen (wVar 1)) wNil)))))
abbrev p_law_price : DS Dw :=
  (wSeq (wUnp [2, 3, 4, 5] (wTup (wCons (wCall S_law_draw (wCons (wVar 0) (wCons (wC (.int 6)) wNil))) (wCons (wOp fAdd (wC (.int 1)) (wCall S_law_draw (wCons (wVar 0) (wCons (wC (.int 9)) wNil)))) (wCons (wCall S_law_draw (wCons (wVar 0) (wCons (wC (.int 5)) wNil))) (wCons (wCall S_law_draw (wCons (wVar 0) (wCons (wC (.int 7)) wNil))) wNil))))))
  (wSeq (wIfS (wTV (wOp fLt (wVar 2) (wC (.int 3)))) (wRet (wOp fIx (wL (wLst (wCons (wTup (wCons (wVar 3) (wCons (wVar 4) (wCons (wC (.int 0)) wNil)))) (wCons (wTup (wCons (wOp fAdd (wVar 3) (wOp fDiv (wVar 1) (wOp fAdd (wC (.int 1)) (wVar 4)))) (wCons (wC (.int 0)) (wCons (wC (.int 0)) wNil)))) (wCons (wTup (wCons (wVar 3) (wCons (wC (.int 0)) (wCons (wVar 5) wNil)))) wNil))))) (wVar 2))) wNext)
  (wSeq (wIfS (wTV (wOp fEq (wVar 2) (wC (.int 3)))) (wRet (wTup (wCons (wOp fAdd (wVar 3) (wOp fMul (wVar 4) (wVar 1))) (wCons (wOp fSub (wC (.int 0)) (wVar 4)) (wCons (wC (.int 0)) wNil))))) wNext)
  (wRet (wIfx (wTV (wOp fEq (wVar 2) (wC (.int 4)))) (wTup (wCons (wVar 3) (wCons (wVar 4) (wCons (wVar 5) wNil)))) (wTup (wCons (wOp fAdd (wVar 3) (wOp fMul (wVar 5) (wOp fDiv (wOp fAdd (wVar 1) (wC (.int 1))) (wC (.int 2))))) (wCons (wVar 4) (wCons (wOp fSub (wC (.int 0)) (wVar 5)) wNil)))))))))
abbrev p_law_prices : DS Dw :=
  (wSeq (wSet 3 (wCall S_law_one (wCons (wVar 0) (wCons (wL (wLst (wCons (wC (.int 1)) (wCons (wC (.int 1)) (wCons (wC (.int 1)) (wCons (wC (.int 7)) (wCons (wIfx (wTV (wOp fLt (wVar 1) (wC (.int 200)))) (wC (.int 900)) (wC (.int 90))) wNil))))))) wNil))))
  (wSeq (wOwn 4 (wLst wNil))
  (wSeq (wFor (.one 5) (wiR1 (wOp fAdd (wC (.int 1)) (wCall S_law_draw (wCons (wVar 0) (wCons (wVar 2) wNil))))) (wApp 4 (wF fTuple (wL (wLc [6] (.one 6) (wiSeq (wCall S_law_price (wCons (wVar 0) (wCons (wVar 1) wNil)))) wYes (wOp fMul (wVar 3) (wVar 6)))))))
  (wRet (wF fTuple (wVar 4))))))
abbrev p_law_some_shape : DS Dw :=
  (wSeq (wSet 2 (wCall S_law_draw (wCons (wVar 0) (wCons (wOp fAdd (wVar 1) (wC (.int 1))) wNil))))
  (wRet (wIfx (wTV (wOp fGt (wVar 2) (wC (.int 0)))) (wTup (wCons (wVar 2) (wCons (wOp fAdd (wC (.int 1)) (wCall S_law_draw (wCons (wVar 0) (wCons (wOp fMin2 (wVar 2) (wOp fAdd (wOp fSub (wVar 1) (wVar 2)) (wC (.int 1)))) wNil)))) wNil))) (wTup (wCons (wC (.int 0)) (wCons (wC (.int 0)) wNil))))))
abbrev p_law_test : DS Dw :=
  (wSeq (wSet 2 (wCall S_law_one (wCons (wVar 0) (wCons (wL (wLst (wCons (wC (.int 1)) (wCons (wC (.int 1)) (wCons (wC (.int 2)) (wCons (wC (.int 5)) (wCons (wC (.int 1000)) wNil))))))) wNil))))
  (wSeq (wPar 3 4 (wCons (wOp fSub (wCall S_law_draw (wCons (wVar 0) (wCons (wOp fAdd (wOp fMul (wC (.int 2)) (wVar 2)) (wC (.int 1))) wNil))) (wVar 2)) (wCons (wOp fSub (wCall S_law_draw (wCons (wVar 0) (wCons (wOp fAdd (wOp fMul (wC (.int 2)) (wVar 2)) (wC (.int 1))) wNil))) (wVar 2)) wNil)))
  (wSeq (wUnp [5, 6] (wCall S_law_some_shape (wCons (wVar 0) (wCons (wVar 1) wNil))))
  (wRet (wTup (wCons (wVar 3) (wCons (wVar 4) (wCons (wOp fSub (wOp fAdd (wOp fAdd (wOp fMul (wVar 3) (wVar 5)) (wOp fMul (wVar 4) (wVar 6))) (wCall S_law_draw (wCons (wVar 0) (wCons (wC (.int 3)) wNil)))) (wC (.int 1))) wNil))))))))
abbrev p_law_tests : DS Dw :=
  (wRet (wF fTuple (wL (wLc [2] (.one 2) (wiR1 (wCall S_law_one (wCons (wVar 0) (wCons (wL (wLst (wCons (wC (.int 0)) (wCons (wC (.int 1)) (wCons (wC (.int 1)) (wCons (wC (.int 1)) (wCons (wC (.int 1)) (wCons (wC (.int 2)) (wCons (wC (.int 2)) (wCons (wC (.int 3)) (wCons (wC (.int 5)) wNil))))))))))) wNil)))) wYes (wCall S_law_test (wCons (wVar 0) (wCons (wVar 1) wNil)))))))
theorem m_law_one : ∀ ds w C, S_law_one.run ds w C → p_law_one (endD C) (startD 2 ds) w := by
  rintro ds ⟨p, n⟩ C ⟨l, rfl, ⟨h1, h2⟩, h3, q⟩
  have h3 : 1 ≤ n := h3
  show p_law_one _ [some (.dat (.opq (.ref p))), some (.dat (.lst l))] _
  unfold p_law_one
  walk_at "ck"
  refine use_draw (by omega) (by omega) (by omega) fun i m hi hl hm => ?_
  have hl' : i.toNat < l.length := by omega
  exact ⟨l[i.toNat], atI_int hi (List.getElem?_eq_getElem hl'), q _ m (List.getElem_mem hl') hm⟩
theorem mul_nn {x y : Int} (h : 0 ≤ x) (k : 0 ≤ y) : 0 ≤ x * y := Int.mul_nonneg h k
theorem mul_mono {x y z : Int} (h : 0 ≤ x) (k : y ≤ z) : x * y ≤ x * z := Int.mul_le_mul_of_nonneg_left k h
theorem price_room {w m r : Int} (hs : IsSh w (m, r)) : (0 ≤ m ∧ (m ≤ w ∨ m = 0)) ∧ 0 ≤ r ∧ r ≤ m ∧ (2 * r ≤ w + 1 ∨ r = 0) := by
  rcases hs with ⟨h1, h2⟩ | ⟨h1, h2, h3⟩
  · have h1 : m = 0 := h1
    have h2 : r = 0 := h2
    omega
  · have h1 : 1 ≤ r := h1
    have h2 : r ≤ m := h2
    have h3 : r ≤ w - m + 1 := h3
    omega
theorem divw2 {i j : Int} (h : 1 ≤ j) (h2 : j ≤ 1000000) : CDivW i j := divw60 (by omega) (by omega)
theorem m_law_price : ∀ ds w C, S_law_price.run ds w C → p_law_price (endD C) (startD 6 ds) w := by
  rintro ds ⟨p, n⟩ C ⟨wd, rfl, ⟨h1, h2⟩, h3, q⟩
  have h3 : 4 ≤ n := h3
  have q : ∀ t m, PriceOk wd (12 + 4 * wd) t → n ≤ m + 4 → C (d3 t) ⟨p, m⟩ := fun t m a b => q _ m ⟨t, rfl, a⟩ b
  show p_law_price _ [some (.dat (.opq (.ref p))), some (.dat (.int wd)), none, none, none, none] _
  unfold p_law_price
  walk_at "ck"
  refine use_draw (by omega) (by omega) (by omega) fun way n1 w0 w1 e1 => ?_
  refine use_draw (by omega) (by omega) (by omega) fun a n2 a0 a1 e2 => ?_
  walk_at "ck"
  refine use_draw (by omega) (by omega) (by omega) fun b n3 b0 b1 e3 => ?_
  refine use_draw (by omega) (by omega) (by omega) fun c n4 c0 c1 e4 => ?_
  walk_at "ck"
  have bw0 : 0 ≤ b * wd := mul_nn b0 (by omega)
  have bw1 : b * wd ≤ 4 * wd := by
    have := mul_mono (x := wd) (by omega) (show b ≤ 4 by omega)
    rw [Int.mul_comm b, Int.mul_comm 4]
    exact this
  have dv0 : 0 ≤ wd / (1 + b) := Int.ediv_nonneg (by omega) (by omega)
  have dv1 : wd / (1 + b) ≤ wd := Int.ediv_le_self _ (by omega)
  have hf0 : 0 ≤ (wd + 1) / 2 := by omega
  have hf1 : (wd + 1) / 2 ≤ wd := by omega
  have ch0 : 0 ≤ c * ((wd + 1) / 2) := mul_nn c0 hf0
  have ch1 : c * ((wd + 1) / 2) ≤ 3 * wd + 3 := by
    have x1 := mul_mono (x := (wd + 1) / 2) hf0 (show c ≤ 6 by omega)
    rw [Int.mul_comm c]
    omega
  have pA : ∀ x y z : Int, 1 ≤ x → 0 ≤ y → 0 ≤ z → x ≤ 12 + 4 * wd → y ≤ 4 → z ≤ 6 → C (d3 ⟨x, y, z⟩) ⟨p, n4⟩ := fun x y z hx hy hz kx ky kz => by
    refine q _ _ ⟨⟨by show _ ≤ x; omega, kx⟩, ⟨by show _ ≤ y; omega, by show y ≤ _; omega⟩, ⟨by show _ ≤ z; omega, by show z ≤ _; omega⟩, ?_⟩ (by omega)
    rintro ⟨m, r⟩ hs
    obtain ⟨⟨m0, m1⟩, r0, r1, r2⟩ := price_room hs
    have z1 := mul_nn hy m0
    have z2 := mul_nn hz r0
    show 1 ≤ x + y * m + z * r
    omega
  refine ite2 (fun hd => ?_) (fun hd => ?_)
  · have hd : way < 3 := of_decide_eq_true hd
    refine ⟨divw2 (by omega) (by omega), ?_⟩
    have hw : way = 0 ∨ way = 1 ∨ way = 2 := by omega
    rcases hw with rfl | rfl | rfl
    · exact ⟨_, k_at0, pA _ _ _ (by omega) b0 (by omega) (by omega) (by omega) (by omega)⟩
    · exact ⟨_, k_at1, pA _ _ _ (by omega) (by omega) (by omega) (by omega) (by omega) (by omega)⟩
    · exact ⟨_, k_at2, pA _ _ _ (by omega) (by omega) (by omega) (by omega) (by omega) (by omega)⟩
  · refine ite2 (fun hd2 => ?_) (fun hd2 => ?_)
    · refine ⟨mulx60 (by omega) (by omega) (by omega) (by omega), ?_⟩
      refine q ⟨1 + a + b * wd, 0 - b, 0⟩ _ ⟨⟨by show _ ≤ 1 + a + b * wd; omega, by show 1 + a + b * wd ≤ _; omega⟩, ⟨by show _ ≤ 0 - b; omega, by show 0 - b ≤ _; omega⟩, ⟨by show _ ≤ (0 : Int); omega, by show (0 : Int) ≤ _; omega⟩, ?_⟩ (by omega)
      rintro ⟨m, r⟩ hs
      obtain ⟨⟨m0, m1⟩, r0, r1, r2⟩ := price_room hs
      have z1 : 0 ≤ b * (wd - m) := mul_nn b0 (by omega)
      rw [Int.mul_sub] at z1
      show 1 ≤ 1 + a + b * wd + (0 - b) * m + 0 * r
      rw [Int.sub_mul]
      omega
    · refine ite2 (fun hd3 => ?_) (fun hd3 => ?_)
      · exact pA _ _ _ (by omega) b0 c0 (by omega) (by omega) (by omega)
      · refine ⟨divw2 (by omega) (by omega), mulx60 (by omega) (by omega) (by omega) (by omega), ?_⟩
        refine q ⟨1 + a + c * ((wd + 1) / 2), b, 0 - c⟩ _ ⟨⟨by show _ ≤ 1 + a + c * ((wd + 1) / 2); omega, by show 1 + a + c * ((wd + 1) / 2) ≤ _; omega⟩, ⟨by show _ ≤ b; omega, by show b ≤ _; omega⟩, ⟨by show _ ≤ 0 - c; omega, by show 0 - c ≤ _; omega⟩, ?_⟩ (by omega)
        rintro ⟨m, r⟩ hs
        obtain ⟨⟨m0, m1⟩, r0, r1, r2⟩ := price_room hs
        have z1 : 0 ≤ c * ((wd + 1) / 2 - r) := mul_nn c0 (by omega)
        have z2 := mul_nn b0 m0
        rw [Int.mul_sub] at z1
        show 1 ≤ 1 + a + c * ((wd + 1) / 2) + b * m + (0 - c) * r
        rw [Int.sub_mul]
        omega
theorem m_law_some_shape : ∀ ds w C, S_law_some_shape.run ds w C → p_law_some_shape (endD C) (startD 3 ds) w := by
  rintro ds ⟨p, n⟩ C ⟨wd, rfl, ⟨h1, h2⟩, h3, q⟩
  have h3 : 2 ≤ n := h3
  have q : ∀ s m, IsSh wd s → n ≤ m + 2 → C (dS s) ⟨p, m⟩ := fun t m a b => q _ m ⟨t, rfl, a⟩ b
  show p_law_some_shape _ [some (.dat (.opq (.ref p))), some (.dat (.int wd)), none] _
  unfold p_law_some_shape
  walk_at "ck"
  refine use_draw (by omega) (by omega) (by omega) fun m n1 m0 m1 e1 => ?_
  walk_at "ck"
  refine ite2 (fun hd => ?_) (fun hd => ?_)
  · have hd : 0 < m := of_decide_eq_true hd
    refine use_draw (by split <;> omega) (by split <;> omega) (by omega) fun r n2 r0 r1 e2 => ?_
    walk_at "ck"
    exact q (m, 1 + r) _ (.inr ⟨by show 1 ≤ 1 + r; omega, by show 1 + r ≤ m; split at r1 <;> omega, by show 1 + r ≤ wd - m + 1; split at r1 <;> omega⟩) (by omega)
  · exact q (0, 0) _ (.inl ⟨rfl, rfl⟩) (by omega)
theorem PriceOk.times {w B m D : Int} {t : T3} (h : PriceOk w B t) (hm : 1 ≤ m) (hB : 0 ≤ B) (k : m * B ≤ D) : PriceOk w D ⟨m * t.a, m * t.b, m * t.c⟩ := by
  have go : ∀ x : Int, -B ≤ x ∧ x ≤ B → -D ≤ m * x ∧ m * x ≤ D := fun x ⟨h1, h2⟩ => by
    have e1 := mul_mono (x := m) (by omega) h1
    have e2 := mul_mono (x := m) (by omega) h2
    rw [Int.mul_neg] at e1
    omega
  refine ⟨go _ h.a, go _ h.b, go _ h.c, fun s hs => ?_⟩
  have h1 := h.room s hs
  have e : m * t.a + m * t.b * s.1 + m * t.c * s.2 = m * roomAt t s := by
    unfold roomAt
    rw [Int.mul_add, Int.mul_add, Int.mul_assoc, Int.mul_assoc]
  show 1 ≤ m * t.a + m * t.b * s.1 + m * t.c * s.2
  rw [e]
  have := mul_mono (x := m) (by omega) h1
  omega
theorem PriceOk.mono {w B D : Int} {t : T3} (h : PriceOk w B t) (k : B ≤ D) : PriceOk w D t := by
  obtain ⟨a, b, c, r⟩ := h
  exact ⟨by omega, by omega, by omega, r⟩
theorem m_law_prices : ∀ ds w C, S_law_prices.run ds w C → p_law_prices (endD C) (startD 7 ds) w := by
  rintro ds ⟨p, n⟩ C ⟨⟨wd, most⟩, rfl, ⟨h1, h2, h3, h4⟩, h5, q⟩
  have h1 : 1 ≤ wd := h1
  have h2 : wd ≤ 1000 := h2
  have h3 : 1 ≤ most := h3
  have h4 : most ≤ 6 := h4
  have h5 : 26 ≤ n := h5
  have q : ∀ (ps : List T3) m, 1 ≤ ps.length → (ps.length : Int) ≤ most → (∀ t ∈ ps, PriceOk wd 1000000 t) → n ≤ m + 26 → C (.tup (ps.map d3)) ⟨p, m⟩ := fun ps m a b c d => q _ m ⟨ps, rfl, a, b, c⟩ d
  show p_law_prices _ [some (.dat (.opq (.ref p))), some (.dat (.int wd)), some (.dat (.int most)), none, none, none, none] _
  unfold p_law_prices
  walk_at "ck"
  have key : ∀ (C' : Dt → Dw → Prop) (x : Int) (hx : x = 900 ∧ wd < 200 ∨ x = 90), (∀ (y : Int) (m : Nat), 1 ≤ y → y * (12 + 4 * wd) ≤ 1000000 → n ≤ m + 1 → C' (.int y) ⟨p, m⟩) → S_law_one.run [.opq (.ref p), .lst [.int 1, .int 1, .int 1, .int 7, .int x]] ⟨p, n⟩ C' := by
    intro C' x hx hC
    refine use_one (by simp) (by simp) (by omega) fun d m hd hm => ?_
    simp only [List.mem_cons, List.not_mem_nil, or_false] at hd
    rcases hd with rfl | rfl | rfl | rfl | rfl
    · exact hC _ _ (by omega) (by omega) hm
    · exact hC _ _ (by omega) (by omega) hm
    · exact hC _ _ (by omega) (by omega) hm
    · exact hC _ _ (by omega) (by omega) hm
    · rcases hx with ⟨rfl, hx⟩ | rfl
      · exact hC _ _ (by omega) (by omega) hm
      · exact hC _ _ (by omega) (by omega) hm
  have H : ∀ Cc : Dt → Dw → Prop, (∀ (y : Int) (m : Nat), 1 ≤ y → y * (12 + 4 * wd) ≤ 1000000 → n ≤ m + 1 → Cc (.int y) ⟨p, m⟩) → (if decide (wd < 200) = true then S_law_one.run [.opq (.ref p), .lst [.int 1, .int 1, .int 1, .int 7, .int 900]] ⟨p, n⟩ Cc else S_law_one.run [.opq (.ref p), .lst [.int 1, .int 1, .int 1, .int 7, .int 90]] ⟨p, n⟩ Cc) :=
    fun Cc h => ite2 (fun hd => key Cc 900 (.inl ⟨rfl, of_decide_eq_true hd⟩) h) (fun hd => key Cc 90 (.inr rfl) h)
  refine H _ fun y n1 y0 y1 e1 => ?_
  refine use_draw (by omega) (by omega) (by omega) fun i n2 i0 i1 e2 => ?_
  walk_at "ck"
  refine ⟨by omega, by omega, ?_⟩
  rw [rngD_eq]
  refine loop_drawN (rngN 0) 4 (fun k sl => ∃ (ps : List T3) (x5 : Option Sv), sl = [some (.dat (.opq (.ref p))), some (.dat (.int wd)), some (.dat (.int most)), some (.dat (.int y)), some (.own (ps.map d3)), x5, none] ∧ ps.length = k ∧ ∀ t ∈ ps, PriceOk wd 1000000 t) _ ?_ ⟨[], _, rfl, rfl, fun t ht => by cases ht⟩ ?_ ?_
  · rintro k j sl hj ⟨ps, x5, rfl, hl, hp⟩
    have hk : ps.length + 1 ≤ 1000000 := by
      have := (List.getElem?_eq_some_iff.mp hj).1
      rw [List.length_range] at this
      omega
    refine ⟨_, rfl, fun m N hm hN => ?_⟩
    walk_at "ck"
    refine ⟨size1M hk, ?_⟩
    refine use_drawS wd ⟨by omega, by omega⟩ hm fun d m2 ⟨t, hd, ht⟩ e3 => ?_
    subst hd
    have tb : ∀ x ∈ [t.a, t.b, t.c], -(2 ^ 60) < x ∧ x < 2 ^ 60 := by
      obtain ⟨⟨a1, a2⟩, ⟨b1, b2⟩, ⟨c1, c2⟩, _⟩ := ht
      intro x hx
      simp only [List.mem_cons, List.not_mem_nil, or_false] at hx
      rcases hx with rfl | rfl | rfl <;> omega
    have yb : y < 2 ^ 60 := by
      have := mul_mono (x := y) (by omega) (show 1 ≤ 12 + 4 * wd by omega)
      omega
    refine ⟨_, rfl, size1M (show 3 ≤ 1000000 by decide), ?_⟩
    refine lc_map Dt.int (fun x => Dt.int (y * x)) [t.a, t.b, t.c] (fun x hx => ⟨_, rfl, fun C hC => ?_⟩) ?_
    · walk_at "ck"
      exact ⟨mulx60 (by omega) yb (tb x hx).1 (tb x hx).2, hC⟩
    · refine hN _ _ ⟨ps ++ [⟨y * t.a, y * t.b, y * t.c⟩], _, by rw [List.map_append]; rfl, by rw [List.length_append]; simp [hl], fun s hs => ?_⟩ e3
      rcases List.mem_append.mp hs with hs | hs
      · exact hp s hs
      · rw [List.mem_singleton.mp hs]
        exact ht.times y0 (by omega) y1
  · rw [List.length_range]
    omega
  · rintro sl m ⟨ps, x5, rfl, hl, hp⟩ e3
    rw [List.length_range] at e3 hl
    walk_at "ck"
    exact q ps m (by omega) (by omega) hp (by omega)
theorem mem5 {C : Dt → Prop} {d : Dt} {a b c e f : Dt} (h : d ∈ [a, b, c, e, f]) (ha : C a) (hb : C b) (hc : C c) (he : C e) (hf : C f) : C d := by
  simp only [List.mem_cons, List.not_mem_nil, or_false] at h
  rcases h with rfl | rfl | rfl | rfl | rfl <;> assumption
theorem m_law_test : ∀ ds w C, S_law_test.run ds w C → p_law_test (endD C) (startD 7 ds) w := by
  rintro ds ⟨p, n⟩ C ⟨wd, rfl, ⟨h1, h2⟩, h3, q⟩
  have h1 : 1 ≤ wd := h1
  have h2 : wd ≤ 1000 := h2
  have h3 : 6 ≤ n := h3
  have q : ∀ (t : T3) m, TestOk t → n ≤ m + 6 → C (d3 t) ⟨p, m⟩ := fun t m a b => q _ m ⟨t, rfl, a⟩ b
  show p_law_test _ [some (.dat (.opq (.ref p))), some (.dat (.int wd)), none, none, none, none, none] _
  unfold p_law_test
  walk_at "ck"
  refine use_one (by simp) (by simp) (by omega) fun d n1 hd e1 => ?_
  obtain ⟨x, rfl, x0, x1⟩ : ∃ x : Int, d = .int x ∧ 1 ≤ x ∧ x ≤ 1000 := by
    refine mem5 (C := fun d => ∃ x : Int, d = .int x ∧ 1 ≤ x ∧ x ≤ 1000) hd ?_ ?_ ?_ ?_ ?_ <;> exact ⟨_, rfl, by decide, by decide⟩
  walk_at "ck"
  have m2 : CMulX 2 x := mulx60 (by omega) (by omega) (by omega) (by omega)
  refine ⟨m2, use_draw (by omega) (by omega) (by omega) fun a n2 a0 a1 e2 => ?_⟩
  walk_at "ck"
  refine ⟨m2, use_draw (by omega) (by omega) (by omega) fun b n3 b0 b1 e3 => ?_⟩
  walk_at "ck"
  refine use_drawS wd ⟨h1, h2⟩ (by show 2 ≤ n3; omega) fun d n4 ⟨⟨u, v⟩, hd, hs⟩ e4 => ?_
  subst hd
  have e4 : n3 ≤ n4 + 2 := e4
  unfold dS
  walk_at "ck"
  obtain ⟨⟨u0, u1⟩, v0, v1, v2⟩ := price_room hs
  have bu : ∀ z : Int, -1000 ≤ z → z ≤ 1000 → ∀ g : Int, 0 ≤ g → g ≤ 1000 → -1000000 ≤ z * g ∧ z * g ≤ 1000000 := by
    intro z z0 z1 g g0 g1
    have k1 := mul_mono (x := g) g0 z0
    have k2 := mul_mono (x := g) g0 z1
    rw [Int.mul_comm g z] at k1 k2
    omega
  have u2 : u ≤ 1000 := by omega
  have := bu (a - x) (by omega) (by omega) u u0 u2
  have := bu (b - x) (by omega) (by omega) v v0 (by omega)
  refine ⟨mulx60 (by omega) (by omega) (by omega) (by omega), mulx60 (by omega) (by omega) (by omega) (by omega), use_draw (by omega) (by omega) (by omega) fun c n5 c0 c1 e5 => ?_⟩
  walk_at "ck"
  exact q ⟨a - x, b - x, (a - x) * u + (b - x) * v + c - 1⟩ n5 ⟨⟨by show _ ≤ a - x; omega, by show a - x ≤ _; omega⟩, ⟨by show _ ≤ b - x; omega, by show b - x ≤ _; omega⟩, ⟨by show _ ≤ (a - x) * u + (b - x) * v + c - 1; omega, by show (a - x) * u + (b - x) * v + c - 1 ≤ _; omega⟩⟩ (by omega)
/-- some data, each of some form: the list of them -/
theorem all_enc {α : Type} {enc : α → Dt} {P : α → Prop} : ∀ {ds : List Dt}, (∀ d ∈ ds, ∃ x, d = enc x ∧ P x) → ∃ xs : List α, ds = xs.map enc ∧ xs.length = ds.length ∧ ∀ x ∈ xs, P x
  | [], _ => ⟨[], rfl, rfl, fun x hx => by cases hx⟩
  | d :: ds, h => by
    obtain ⟨x, rfl, hx⟩ := h d List.mem_cons_self
    obtain ⟨xs, e, hl, hxs⟩ := all_enc (enc := enc) (P := P) (ds := ds) fun y hy => h y (List.mem_cons_of_mem _ hy)
    refine ⟨x :: xs, by rw [e, List.map_cons], by rw [List.length_cons, List.length_cons, hl], fun y hy => ?_⟩
    rcases List.mem_cons.mp hy with rfl | hy
    · exact hx
    · exact hxs y hy
theorem m_law_tests : ∀ ds w C, S_law_tests.run ds w C → p_law_tests (endD C) (startD 3 ds) w := by
  rintro ds ⟨p, n⟩ C ⟨wd, rfl, ⟨h1, h2⟩, h3, q⟩
  have h1 : 1 ≤ wd := h1
  have h2 : wd ≤ 1000 := h2
  have h3 : 31 ≤ n := h3
  have q : ∀ (ts : List T3) m, ts.length ≤ 5 → (∀ t ∈ ts, TestOk t) → n ≤ m + 31 → C (.tup (ts.map d3)) ⟨p, m⟩ := fun t m a b c => q _ m ⟨t, rfl, a, b⟩ c
  show p_law_tests _ [some (.dat (.opq (.ref p))), some (.dat (.int wd)), none] _
  unfold p_law_tests
  walk_at "ck"
  refine use_one (by simp) (by simp) (by omega) fun d n1 hd e1 => ?_
  obtain ⟨x, rfl, x0, x1⟩ : ∃ x : Int, d = .int x ∧ 0 ≤ x ∧ x ≤ 5 := by
    simp only [List.mem_cons, List.not_mem_nil, or_false] at hd
    rcases hd with rfl | rfl | rfl | rfl | rfl | rfl | rfl | rfl | rfl <;> exact ⟨_, rfl, by decide, by decide⟩
  walk_at "ck"
  rw [rngD_eq]
  refine ⟨by omega, by omega, by rw [List.length_map, List.length_range]; exact size1M (by omega), ?_⟩
  refine lc_draw (rngN 0) (fun _ d => ∃ t, d = d3 t ∧ TestOk t) 6 _ (fun y hy => ⟨_, rfl, fun m C' hm hC' => ?_⟩) ?_ ?_
  · walk_at "ck"
    exact use_drawS wd ⟨h1, h2⟩ hm fun d m2 hd e2 => hC' _ _ hd e2
  · rw [List.length_range]
    omega
  · intro ds m hl hds e2
    rw [List.length_range] at hl e2
    obtain ⟨ts, rfl, hl2, hts⟩ := all_enc (enc := d3) (P := TestOk) fun d hd => (hds d hd).elim fun _ h => h.2
    exact q ts m (by omega) hts (by omega)
end Ck
namespace Ck
open PySem PySem.Spec PyProof.Rows L2
local macro_rules | `(tactic| walk_at "ck") => `(tactic| try simp only [wNext, wBrk, wCnt, wSeq, wRet, wRetN, wSet, wOwn, wDrop, wUnp, wPar, wIfS, wApp, wExt, wSetIx, wAug, wFrz, wFor, k_var, k_vk1, k_vk2, k_par, wC, wL, wOp, wOpL, wF, wFL, wNil, wCons, wTup, wLst, wTV, wTAnd, wTOr, wTNot, wAnd, wOr, wNot, wIfx, wIsN, wNotN, wChain, wO0, wO1, wSl, wCall, wIsi, wLr1, wLr2, wNeg, wLc, wYes, wiSeq, wiR1, wiR2, wiEnum, wiZip, noOwnB, wipeD, wEmp, wListZip, wSortSet, wRevL, wRevT, wOneB, k_mulT, k_add1, k_add2, k_add3, k_add4, k_addL, k_sub, k_mul1, k_mul2, k_mulL, k_div, k_mod, k_pow, k_cmp, k_eq, k_ne, k_ea1, k_ea2, k_ea3, k_ea4, k_in1, k_in2, k_in3, k_in4, k_ix1, k_ix2, k_ix3, k_sl1, k_sl2, k_len1, k_len2, k_len3, k_int1, k_int2, k_abs, k_tuple1, k_tuple2, k_list1, k_list2, k_min2, k_max2, k_non_non, k_ty_int_non, k_ty_bool_non, k_ty_tuple_non, k_ty_str_non, k_ty_list_non, k_non_bl, k_ty_int_bl, k_ty_bool_bl, k_ty_tuple_bl, k_ty_str_bl, k_ty_list_bl, k_non_int, k_ty_int_int, k_ty_bool_int, k_ty_tuple_int, k_ty_str_int, k_ty_list_int, k_non_str, k_ty_int_str, k_ty_bool_str, k_ty_tuple_str, k_ty_str_str, k_ty_list_str, k_non_tup, k_ty_int_tup, k_ty_bool_tup, k_ty_tuple_tup, k_ty_str_tup, k_ty_list_tup, k_non_lst, k_ty_int_lst, k_ty_bool_lst, k_ty_tuple_lst, k_ty_str_lst, k_ty_list_lst, k_non_emp, k_ty_int_emp, k_ty_bool_emp, k_ty_tuple_emp, k_ty_str_emp, k_ty_list_emp, k_seq_non, k_seq_bl, k_seq_int, k_seq_str, k_seq_tup, k_seq_lst, k_seq_emp, k_sz0, k_sz1, k_sz2, k_sz3, k_sz4, k_sz5, k_sz6, k_sz7, k_sz8, k_sz9, k_sz10, k_sz11, k_sz12, k_sz13, k_sz14, k_sz15, k_sz16, k_sz17, k_sz18, k_sz19, k_sz20, k_sz21, k_sz22, k_sz23, k_at0, k_at1, k_at2, k_at3, k_iteT, k_iteF, k_bt1, k_bt2, k_sa0, k_sa1, k_endn, k_endr, List.getElem?_cons_succ, List.getElem?_cons_zero, List.set_cons_succ, List.set_cons_zero, List.length_cons, List.length_nil, List.length_map, List.all_cons, List.all_nil, Nat.reduceAdd, Nat.zero_add, Bool.and_true, Bool.and_self, Option.some.injEq, Dt.int.injEq, Dt.bl.injEq, Dt.str.injEq, Dt.tup.injEq, Dt.lst.injEq, Sv.dat.injEq, Sv.own.injEq, exists_eq_left', exists_eq_left, exists_eq_right, exists_eq', exists_eq, if_true, if_false, Bool.not_false, Bool.not_true, Bool.not_not, true_and, and_true, false_and, and_false, exists_const, reduceCtorEq])

/-! ### all shapes of a width -/
def sizeShapes (w i : Nat) : List (Int × Int) := (List.range (min (i + 1) (w - i))).map fun j => (((i + 1 : Nat) : Int), ((j + 1 : Nat) : Int))
def shapesTo (w k : Nat) : List (Int × Int) := (0, 0) :: (List.range k).flatMap (sizeShapes w)
def shapes (w : Int) : List (Int × Int) := shapesTo w.toNat w.toNat
theorem mem_shapes {w : Int} {s : Int × Int} (h : 1 ≤ w) : s ∈ shapes w ↔ IsSh w s := by
  unfold shapes shapesTo IsSh sizeShapes
  rw [List.mem_cons]
  constructor
  · rintro (rfl | h2)
    · exact .inl ⟨rfl, rfl⟩
    · obtain ⟨i, hi, h2⟩ := List.mem_flatMap.mp h2
      obtain ⟨j, hj, rfl⟩ := List.mem_map.mp h2
      have := List.mem_range.mp hi
      have := List.mem_range.mp hj
      right
      dsimp only
      omega
  · rintro (⟨h1, h2⟩ | ⟨h1, h2, h3⟩)
    · left
      exact Prod.ext h1 h2
    · right
      refine List.mem_flatMap.mpr ⟨(s.1 - 1).toNat, List.mem_range.mpr (by omega), List.mem_map.mpr ⟨(s.2 - 1).toNat, List.mem_range.mpr (by omega), ?_⟩⟩
      exact Prod.ext (by first | rfl | (dsimp only; omega)) (by first | rfl | (dsimp only; omega))
/-! ### rooms at corners and at all shapes -/
end Ck
namespace Ck
open PySem PySem.Spec PyProof.Rows L2 GenW
/-! ### list(each_shape(e)) -/
def isPair (H : Hp) (v : V) (s : Int × Int) : Prop := ∃ t, v = V.ref t ∧ H t = some (.tup [.int s.1, .int s.2])
inductive OutT (H : Hp) : List V → List (Int × Int) → Prop
  | nil : OutT H [] []
  | cons {v : V} {s : Int × Int} {out : List V} {l : List (Int × Int)} (h : isPair H v s) (r : OutT H out l) : OutT H (v :: out) (s :: l)
theorem OutT.mono {H H' : Hp} {out : List V} {l : List (Int × Int)} (e : Same H H') (h : OutT H out l) : OutT H' out l := by
  induction h with
  | nil => exact .nil
  | cons h1 h2 ih =>
    obtain ⟨t, q1, q2⟩ := h1
    exact .cons ⟨t, q1, e _ _ q2⟩ ih
theorem OutT.snoc {H : Hp} {out : List V} {l : List (Int × Int)} {v : V} {s : Int × Int} (h : OutT H out l) (hv : isPair H v s) : OutT H (out ++ [v]) (l ++ [s]) := by
  induction h with
  | nil => exact .cons hv .nil
  | cons h1 _ ih => exact .cons h1 ih
theorem OutT.len {H : Hp} {out : List V} {l : List (Int × Int)} (h : OutT H out l) : out.length = l.length := by
  induction h with
  | nil => rfl
  | cons _ _ ih => rw [List.length_cons, List.length_cons, ih]
section
variable {Ω : Type} {X : Cx} {W : Wd Ω} {K : PySem.W.Frag} {B F G H : Hp} {w : Ω} {e : Expr} {pa : DE Ω} {p p2 pos pos2 : Pos} {j k : Nat}
/-- tuples of ints that stand become what never changes -/
theorem HR.addT {out : List V} {l : List (Int × Int)} (h : OutT H out l) : ∀ {F : Hp}, HR W B F G H w → ∃ F2, HR W B F2 G H w ∧ Same F F2 ∧ DrL K F2 out (l.map dS) := by
  induction h with
  | nil => exact fun {F} r => ⟨F, r, Same.refl _, .nil⟩
  | @cons v s out l h1 h2 ih =>
    intro F r
    obtain ⟨t, rfl, ht⟩ := h1
    have key : ∃ F1, HR W B F1 G H w ∧ Same F F1 ∧ F1 t = some (.tup [.int s.1, .int s.2]) := by
      cases q : F t with
      | none => exact ⟨_, r.tupF ht rfl q, sameUpd q, upd_same⟩
      | some u =>
        have := r.f _ _ q
        rw [ht] at this
        cases this
        exact ⟨F, r, Same.refl _, q⟩
    obtain ⟨F1, r1, e1, q1⟩ := key
    obtain ⟨F2, r2, e2, d2⟩ := ih r1
    exact ⟨F2, r2, e1.trans e2, .cons (.tup (e2 _ _ q1) (.cons (.int _) (.cons (.int _) .nil))) d2⟩
theorem HR.later {H' : Hp} (r : HR W B F G H w) (e : Same H H') : HR W B F G H' w := ⟨fun a o h => ⟨e _ _ (r.b a o h).1, (r.b a o h).2⟩, r.f.trans e, r.g.trans e, r.d, r.w, r.k⟩
end
end Ck
namespace Ck
open PySem PySem.Spec PyProof.Rows L2 GenW
/-! ### for x in each_shape(e), over data -/
section
variable {Ω : Type} {X : Cx} {W : Wd Ω} {e tgE : Expr} {pa : DE Ω} {p : DS Ω} {p2 pos pos2 : Pos} {j k : Nat} {g : TG} {tg : Tg} {body : List Stmt}
def wShp (pa : DE Ω) : DI Ω := fun sl w C => pa sl w fun d _ w' => ∃ n : Int, d = .int n ∧ 1 ≤ n ∧ n ≤ 60 ∧ C ((shapes n).map dS) w'
theorem SR.pair {K : PySem.W.Frag} {B F G H H' : Hp} {w : Ω} {σ : L2.St} {sl : Sl} (r : SR K W B F G H w σ sl) (e : Same H H') {x : V} {s : Int × Int} (h : isPair H' x s) : ∃ F2, SR K W B F2 G H' w σ sl ∧ Same F F2 ∧ Dr K F2 x (dS s) := by
  obtain ⟨F2, r2, e2, d2⟩ := HR.addT (K := K) (OutT.cons h .nil) (r.hr.toRest.2.later e)
  cases d2 with
  | cons q _ => exact ⟨F2, r.back r2 e2, e2, q⟩
end
end Ck
namespace PySem.W
open Lean Elab Tactic Meta PySem PySem.Calls PyProof.Rows
end PySem.W
namespace Ck
open PySem PySem.Spec PyProof.Rows L2
/-! ### own classes, at the hand's level -/
/-- a def of a class -/
structure HasM (K : PySem.W.Frag) (C : Addr) (m qual : Str) (st : Stmt) : Prop where
  ex : ∃ (f : Addr) (fd : FuncData), L2.Fun K m qual st f fd ∧ Meth K C m f
end Ck
namespace Ck
open PySem PySem.Spec PyProof.Rows L2
/-! ### own classes over data: instances that are changed no more -/
section
variable {Ω : Type} {P : Program} {wd : World} {K : PySem.W.Frag} {mg : Str → Option Value} {base : Heap} {k : Nat} {C : Addr} {m qual : Str} {ps N : List Str} {W : Wd Ω} {S : SpcX Ω} {st : Stmt} {B0 F0 : Hp}
structure MethX (P : Program) (wd : World) (K : PySem.W.Frag) (mg : Str → Option Value) (base : Heap) (k : Nat) (C : Addr) (m : Str) (ps : List Str) (W : Wd Ω) (S : SpcX Ω) : Prop where
  ex : ∃ (f : Addr) (fd : FuncData), FnG P wd K mg base (L2.CX P wd) k f fd ps (spXOf K mg W S) ∧ Meth K C m f ∧ Binds K fd ps []
theorem MethX.at (c : MethX P wd K mg base k C m ps W S) : MethX P wd K mg base k C m ps (W.at B0 F0) S := by
  obtain ⟨f, fd, g, h1, h2⟩ := c.ex
  exact ⟨f, fd, g.imp fun _ _ _ _ z => spX_at z, h1, h2⟩
theorem MethX.mk' (h : HasM K C m qual st) (sc : FnScope N ps (defScope st))
    (hbd : ∀ (kV doc pm : Value) (an : Option Addr) (cdv ct : Value) (us : List Value), us.length = ps.length → bindArgs (PySem.W.fnOf m qual (defArgs st) (defBody st) (defScope st) .none kV doc pm an cdv ct) ⟨us, []⟩ = pure (ps.zip us))
    (len : ∀ ds w C E, S.run ds w C E → ds.length = ps.length) (p : Er Ω → DS Ω)
    (hb : ∀ (f : Addr) (cdv : Value) (A : Around) (outer : List Env) (s : Shared) (H : Hp) (E : XK) (B0 F0 : Hp) (er : Er Ω), A.guards = some [] → Room k (A.deeper (envOfC qual (defScope st) s.heap.objs.size f cdv)) →
      Lk (cxOf (L2.CX P wd) P wd K mg base N qual (defScope st) f cdv A outer s H E) W B0 F0 er (fun cls d _ H' => E cls d H') →
      PDB (cxOf (L2.CX P wd) P wd K mg base N qual (defScope st) f cdv A outer s H E) (W.at B0 F0) (defBody st) (p er))
    (mm : ∀ ds w C E, S.run ds w C E → p (fun x _ w' => E x w') (endD C) (startD N.length ds) w) : MethX P wd K mg base (k + 1) C m ps W S := by
  obtain ⟨f, fd, F, hm⟩ := h.ex
  exact ⟨f, fd, FnG.bodyX F sc len fun cdv A outer s H E hgu hr B0 F0 Ex lk => ⟨_, hb f cdv A outer s H E B0 F0 _ hgu hr lk, fun ds w C z => mm ds w C Ex z⟩, hm, F.binds hbd⟩
end
theorem lookup_zip {n : Str} : ∀ {ns : List Str} {vs : List V}, n ∉ ns → (ns.zip vs).lookup n = none
  | [], _, _ => rfl
  | _ :: _, [], _ => rfl
  | a :: ns, v :: vs, h => by
    have h1 : (n == a) = false := beq_eq_false_iff_ne.mpr fun z => h (z ▸ List.mem_cons_self)
    simp only [List.zip_cons_cons, List.lookup, h1]
    exact lookup_zip fun z => h (List.mem_cons_of_mem _ z)
section
variable {Ω : Type} {X : Cx} {W : Wd Ω} {er : Er Ω} {U : WX} {B0 F0 : Hp} {S : SpcX Ω} {k j : Nat} {C p : Addr} {n m : Str} {ps : List Str} {o e a b : Expr} {es : List Expr} {pos apos : Pos} {po pe pb : DE Ω} {pa : DL Ω}
/-! methods -/
/-! properties -/
structure PropX (P : Program) (wd : World) (K : PySem.W.Frag) (mg : Str → Option Value) (base : Heap) (k : Nat) (C : Addr) (n : Str) (W : Wd Ω) (S : SpcX Ω) : Prop where
  ex : ∃ (p g : Addr) (fd : FuncData) (ps : List Str), FnG P wd K mg base (L2.CX P wd) k g fd ps (spXOf K mg W S) ∧ PropOf K C n p g ∧ Binds K fd ps []
end
end Ck
namespace Ck
open PySem PySem.Spec PyProof.Rows L2
/-! ### operators by own defs -/
/-- a thing of a built-in class -/
inductive VT (K : PySem.W.Frag) (H : Hp) : V → String → Prop
  | non : VT K H .non "NoneType"
  | bl (b : Bool) : VT K H (.bl b) "bool"
  | int (i : Int) : VT K H (.int i) "int"
  | str (x : Str) : VT K H (.str x) "str"
  | tup {a : Addr} {vs : List V} : H a = some (.tup vs) → VT K H (.ref a) "tuple"
  | lst {a : Addr} {vs : List V} : H a = some (.lst vs) → VT K H (.ref a) "list"
  | tupK {a : Addr} {vs : List V} : SqK K H a vs → VT K H (.ref a) "tuple"
theorem VT.looks {X : Cx} {pins : List (Addr × Obj)} {σ : L2.St} {H : Hp} {s : Shared} {y : V} {u : Value} {T : String} {M : Model} (I : L2.Inv X pins σ H s) (h : VT X.K H y T) (r : RelV y u) : PySem.W.Looks M s.heap (typeOf u) (.type T) := by
  cases h with
  | non => cases (show u = Value.none from r); exact .of_pure rfl
  | bl b => cases (show u = Value.bool b from r); exact .of_pure rfl
  | int i => obtain ⟨t, q⟩ := (show ∃ t, u = Value.int i t from r); cases q; exact .of_pure rfl
  | str x => obtain ⟨t, q⟩ := (show ∃ t, u = Value.str x t from r); cases q; exact .of_pure rfl
  | @tup a vs e =>
    cases (show u = Value.ref a from r)
    obtain ⟨_, _, _, o, h1, h2, _⟩ := (show ObjOk X.prog X.w H s.heap a (.tup vs) from I.hok a _ e)
    exact h2 ▸ (PySem.W.Looks.ld h1).andThen .now
  | @lst a vs e =>
    cases (show u = Value.ref a from r)
    obtain ⟨_, _, n, _, h1⟩ := (show ObjOk X.prog X.w H s.heap a (.lst vs) from I.hok a _ e)
    exact (PySem.W.Looks.ld h1).andThen .now
  | @tupK a vs e =>
    cases (show u = Value.ref a from r)
    obtain ⟨_, _, ⟨o, h1, h2, _⟩, _⟩ := I.tuple e.t
    exact h2 ▸ (PySem.W.Looks.ld h1).andThen .now
end Ck
namespace Ck
open PySem PySem.Spec PyProof.Rows L2
/-! ### two worlds beside one another -/
def Wd.sep {Ω1 Ω2 : Type} (W1 : Wd Ω1) (W2 : Wd Ω2) : Wd (Ω1 × Ω2) where
  ok := fun w F G => ∃ G1 G2 : Hp, W1.ok w.1 F G1 ∧ W2.ok w.2 F G2 ∧ Same G1 G ∧ Same G2 G ∧ ∀ a o, G1 a = some o → G2 a = none ∨ IsTp o
  bk := fun B => W1.bk B ∧ W2.bk B
  monoF := fun w F F' G e ⟨G1, G2, h1, h2, h3⟩ => ⟨G1, G2, W1.monoF _ _ _ _ e h1, W2.monoF _ _ _ _ e h2, h3⟩
  monoB := fun B B' e h => ⟨W1.monoB _ _ e h.1, W2.monoB _ _ e h.2⟩
def joinH (G1 G2 : Hp) : Hp := fun a => match G1 a with
  | some o => some o
  | none => G2 a
theorem joinH_eq {G1 G2 : Hp} {a : Addr} {o : HO} (h : joinH G1 G2 a = some o) : G1 a = some o ∨ (G1 a = none ∧ G2 a = some o) := by
  unfold joinH at h
  split at h
  · rename_i u e
    cases h
    exact .inl e
  · rename_i e
    exact .inr ⟨e, h⟩
def Spc.left {Ω1 Ω2 : Type} (S : Spc Ω1) : Spc (Ω1 × Ω2) := ⟨fun ds w C => S.run ds w.1 fun d w' => C d (w', w.2), fun ds w C C' h z => S.mono _ _ _ _ (fun d w' => h _ _) z⟩
def SpcX.left {Ω1 Ω2 : Type} (S : SpcX Ω1) : SpcX (Ω1 × Ω2) := ⟨fun ds w C E => S.run ds w.1 (fun d w' => C d (w', w.2)) fun x w' => E x (w', w.2), fun ds w C C' E E' h k z => S.mono _ _ _ _ _ _ (fun d w' => h _ _) (fun x w' => k _ _) z⟩
section
variable {Ω1 Ω2 : Type} {W1 : Wd Ω1} {W2 : Wd Ω2} {K : PySem.W.Frag} {B F F' G G1 G2 G1' H H' : Hp} {w : Ω1 × Ω2} {w1 : Ω1}
/-- the left world alone -/
theorem HR.fst (r : HR (W1.sep W2) B F G H w) (h1 : W1.ok w.1 F G1) (e1 : Same G1 G) : HR W1 B F G1 H w.1 := by
  refine ⟨fun a o h => ?_, r.f, e1.trans r.g, fun a o h => ?_, h1, r.k.1⟩
  · obtain ⟨q1, q2, q3⟩ := r.b a o h
    exact ⟨q1, q2, q3.imp (fun z => e1.free z) id⟩
  · exact (r.d a o h).imp (fun z => e1.free z) id
/-- back from where the left world worked alone -/
theorem HR.backL (r : HR (W1.sep W2) B F G H w) (h1 : W1.ok w.1 F G1) (h2 : W2.ok w.2 F G2) (e1 : Same G1 G) (e2 : Same G2 G) (hd : ∀ a o, G1 a = some o → G2 a = none ∨ IsTp o) (r' : HR W1 (rest F G1 H) F' G1' H' w1) (e : Same F F') :
    HR (W1.sep W2) B F' (joinH G1' G2) H' (w1, w.2) := by
  have rl := r.fst h1 e1
  have key : ∀ a o, G2 a = some o → H' a = some o ∧ (F' a = none ∨ IsTp o) ∧ (G1' a = none ∨ IsTp o) := fun a o h => by
    have hG := e2 _ _ h
    have hH := r.g _ _ hG
    refine r'.b a o (rest_eq.mpr ⟨hH, ?_⟩)
    by_cases ht : IsTp o
    · exact .inr ht
    · refine .inl ⟨?_, ?_⟩
      · cases q : F a with
        | none => rfl
        | some u =>
          rcases r.d a u q with z | z
          · rw [hG] at z
            cases z
          · have := r.f _ _ q
            rw [hH] at this
            cases this
            exact absurd z ht
      · cases q : G1 a with
        | none => rfl
        | some u =>
          rcases hd a u q with z | z
          · rw [h] at z
            cases z
          · have := e1 _ _ q
            rw [hG] at this
            cases this
            exact absurd z ht
  refine ⟨fun a o h => ?_, r'.f, fun a o h => ?_, fun a o h => ?_, ⟨G1', G2, r'.w, W2.monoF _ _ _ _ e h2, fun a o h => ?_, fun a o h => ?_, fun a o h => ?_⟩, r.k⟩
  · obtain ⟨q1, q2, q3⟩ := r'.b a o (rl.toRest.1 _ _ h)
    refine ⟨q1, q2, ?_⟩
    rcases q3 with q3 | q3
    · cases z : joinH G1' G2 a with
      | none => exact .inl rfl
      | some u =>
        rcases joinH_eq z with k | ⟨_, k⟩
        · rw [q3] at k
          cases k
        · have hG := e2 _ _ k
          obtain ⟨p1, p2, p3⟩ := r.b a o h
          rcases p3 with p3 | p3
          · rw [hG] at p3
            cases p3
          · exact .inr p3
    · exact .inr q3
  · rcases joinH_eq h with k | ⟨_, k⟩
    · exact r'.g _ _ k
    · exact (key a o k).1
  · cases z : joinH G1' G2 a with
    | none => exact .inl rfl
    | some u =>
      rcases joinH_eq z with k | ⟨_, k⟩
      · rcases r'.d a o h with q | q
        · rw [q] at k
          cases k
        · exact .inr q
      · obtain ⟨p1, p2, _⟩ := key a u k
        rcases p2 with p2 | p2
        · rw [h] at p2
          cases p2
        · have := r'.f _ _ h
          rw [p1] at this
          cases this
          exact .inr p2
  · show joinH G1' G2 a = some o
    unfold joinH
    rw [h]
  · show joinH G1' G2 a = some o
    unfold joinH
    cases z : G1' a with
    | none => exact h
    | some u =>
      have q1 := r'.g _ _ z
      have q2 := (key a o h).1
      rw [q1] at q2
      exact q2
  · cases z : G2 a with
    | none => exact .inl rfl
    | some u =>
      obtain ⟨p1, _, p3⟩ := key a u z
      have q1 := r'.g _ _ h
      rw [p1] at q1
      cases q1
      rcases p3 with p3 | p3
      · rw [h] at p3
        cases p3
      · exact .inr p3
theorem sp_left {S : Spc Ω1} {vs : List V} {Q : VK} {E : XK} (h : spOf K (W1.sep W2) S.left vs H Q E) : spOf K W1 S vs H Q E := by
  obtain ⟨B, F, G, w, ds, r, hd, hs⟩ := h
  obtain ⟨G1, G2, h1, h2, e1, e2, hdj⟩ := id r.w
  exact ⟨rest F G1 H, F, G1, w.1, ds, (r.fst h1 e1).toRest.2, hd, S.mono _ _ _ _ (fun d w' z v F' G' H' r' e q => z v F' _ H' (r.backL h1 h2 e1 e2 hdj r' e) e q) hs⟩
theorem spX_left {mg : Str → Option Value} {S : SpcX Ω1} {vs : List V} {Q : VK} {E : XK} (h : spXOf K mg (W1.sep W2) S.left vs H Q E) : spXOf K mg W1 S vs H Q E := by
  obtain ⟨B, F, G, w, ds, r, hd, hs⟩ := h
  obtain ⟨G1, G2, h1, h2, e1, e2, hdj⟩ := id r.w
  exact ⟨rest F G1 H, F, G1, w.1, ds, (r.fst h1 e1).toRest.2, hd, S.mono _ _ _ _ _ _ (fun d w' z v F' G' H' r' e q => z v F' _ H' (r.backL h1 h2 e1 e2 hdj r' e) e q) (fun x w' z cls d F' G' H' r' e q => z cls d F' _ H' (r.backL h1 h2 e1 e2 hdj r' e) e q) hs⟩
variable {P : Program} {wd : World} {mg : Str → Option Value} {base : Heap} {k : Nat} {x : Str} {ps : List Str}
theorem Callee.left {S : Spc Ω1} (c : Callee P wd K mg base k x ps W1 S) : Callee P wd K mg base k x ps (W1.sep W2) S.left := by
  obtain ⟨f, fd, g, h1, h2, h3⟩ := c.ex
  exact ⟨f, fd, g.imp fun _ _ _ _ z => sp_left z, h1, h2, h3⟩
theorem CalleeX.left {S : SpcX Ω1} (c : CalleeX P wd K mg base k x ps W1 S) : CalleeX P wd K mg base k x ps (W1.sep W2) S.left := by
  obtain ⟨f, fd, g, h1, h2, h3⟩ := c.ex
  exact ⟨f, fd, g.imp fun _ _ _ _ z => spX_left z, h1, h2, h3⟩
end
end Ck
namespace Ck
open PySem PySem.Spec PyProof.Rows L2
/-! ### own operators over data -/
section
variable {Ω : Type} {X : Cx} {W : Wd Ω} {er : Er Ω} {U : WX} {B0 F0 : Hp} {S : SpcX Ω} {k j : Nat} {C : Addr} {m : Str} {ps : List Str} {a b e : Expr} {es : List Expr} {pos : Pos} {pa pb po : DE Ω} {op : Operator} {Ts : List String}
def rightD (C : Addr) (Ts : List String) : Dt → Prop
  | .ins c _ _ => c = C
  | .non => "NoneType" ∈ Ts
  | .bl _ => "bool" ∈ Ts
  | .int _ => "int" ∈ Ts
  | .str _ => "str" ∈ Ts
  | .tup _ => "tuple" ∈ Ts
  | .lst _ => "list" ∈ Ts
  | _ => False
theorem Dr.right {K : PySem.W.Frag} {F H : Hp} {v : V} {y : Dt} (e : Same F H) (h : Dr K F v y) (z : rightD C Ts y) : (∃ b dx fs, v = .ref b ∧ H b = some (.ins C dx fs)) ∨ ∃ T ∈ Ts, VT K H v T := by
  cases h with
  | non => exact .inr ⟨_, z, .non⟩
  | bl b => exact .inr ⟨_, z, .bl b⟩
  | int b => exact .inr ⟨_, z, .int b⟩
  | str b => exact .inr ⟨_, z, .str b⟩
  | tup q _ => exact .inr ⟨_, z, .tup (e _ _ q)⟩
  | tupK q _ _ => exact .inr ⟨_, z, .tupK (q.mono e)⟩
  | tpx _ _ _ => exact z.elim
  | lst q _ => exact .inr ⟨_, z, .lst (e _ _ q)⟩
  | ins q _ _ _ => exact .inl ⟨_, _, _, rfl, by rw [← (show _ = C from z)]; exact e _ _ q⟩
  | emp _ => exact z.elim
  | opq _ => exact z.elim
  | dic _ _ _ => exact z.elim
/-! ### isinstance of an own class -/
structure IsOwn (K : PySem.W.Frag) (C : Addr) (Ts : List String) : Prop where
  cl : Cls K C
  ca : PySem.W.findIn K (.ref C) "__class__" = some (some (.builtin "object.__class__"))
  cg : PySem.W.specialIn K (.builtin "object.__class__") "__get__" = some (some (.builtin "getset_descriptor.__get__"))
  ct : PySem.W.takesIn K (.builtin "object.__class__") = some true
  cm : PySem.W.mroIn K C (.type "object") = some true
  me : PySem.W.kitOne K (.ref C) (.ref C) = some true
  ot : (Ts.all fun T => PySem.W.kitOne K (.type T) (.ref C) == some false) = true
def isInsC (C : Addr) (Ts : List String) : Dt → Bool → Prop
  | .ins c _ _, b => c = C ∧ b = true
  | .non, b => "NoneType" ∈ Ts ∧ b = false
  | .bl _, b => "bool" ∈ Ts ∧ b = false
  | .int _, b => "int" ∈ Ts ∧ b = false
  | .str _, b => "str" ∈ Ts ∧ b = false
  | .tup _, b => "tuple" ∈ Ts ∧ b = false
  | _, _ => False
theorem IsOwn.ty {K : PySem.W.Frag} {F H : Hp} {v : V} {d : Dt} {b : Bool} (O : IsOwn K C Ts) (e : Same F H) (h : Dr K F v d) (z : isInsC C Ts d b) : ∃ t, TyX K H v t ∧ PySem.W.kitOne K t (.ref C) = some b := by
  have ot : ∀ T, T ∈ Ts ∧ b = false → PySem.W.kitOne K (.type T) (.ref C) = some b := fun T z => by
    rw [z.2]
    exact beq_iff_eq.mp (List.all_eq_true.mp O.ot T z.1)
  cases h with
  | non => exact ⟨_, .base .non, ot _ z⟩
  | bl x => exact ⟨_, .base (.bl x), ot _ z⟩
  | int x => exact ⟨_, .base (.int x), ot _ z⟩
  | str x => exact ⟨_, .base (.str x), ot _ z⟩
  | tup q _ => exact ⟨_, .base (.tup (e _ _ q)), ot _ z⟩
  | tupK q _ _ =>
    rcases q with ⟨o, its, n, k1, k2, _⟩ | ⟨o, q⟩
    · exact ⟨_, .kTuple k1 k2, ot _ z⟩
    · exact ⟨_, .fTuple (e _ _ q), ot _ z⟩
  | tpx _ _ _ => exact z.elim
  | ins q _ _ _ =>
    obtain ⟨z1, z2⟩ := z
    subst z1 z2
    exact ⟨_, .base (.ins (e _ _ q) O.cl O.ca O.cg O.ct O.cm), O.me⟩
  | lst q _ => exact z.elim
  | emp _ => exact z.elim
  | opq _ => exact z.elim
  | dic _ _ _ => exact z.elim
end
end Ck
namespace Ck
open PySem PySem.Spec PyProof.Rows L2
/-! ### an instance while it is made -/
end Ck
namespace Ck
open PySem PySem.Spec PyProof.Rows L2
/-! ### C(..): an instance is made by its __init__ and changed no more -/
def spInit {Ω : Type} (K : PySem.W.Frag) (mg : Str → Option Value) (W : Wd Ω) (C : Addr) (S : SpcX Ω) : Sp := fun vs H Q E => ∃ (x dx : Addr) (us : List V) (B F G : Hp) (w : Ω) (ds : List Dt), vs = .ref x :: us ∧ H x = some (.ins C dx []) ∧ H dx = some (.own x) ∧ dx ≠ x ∧ (B x = none ∧ B dx = none) ∧ (F x = none ∧ F dx = none) ∧ (G x = none ∧ G dx = none) ∧
  HR W B F G H w ∧ DrL K F us ds ∧ S.run ds w (fun d w' => ∀ F' G' H', HR W B F' G' H' w' → Same F F' → Dr K F' (.ref x) d → Q .non H') fun e w' => ∀ cls d F' G' H', HR W B F' G' H' w' → Same F F' → ExR K mg F' cls d e → E cls d H'
section
variable {Ω : Type} {P : Program} {wd : World} {K : PySem.W.Frag} {mg : Str → Option Value} {base : Heap} {k : Nat} {C f : Addr} {fd : FuncData} {s0 qual : Str} {ps N : List Str} {W : Wd Ω} {S : SpcX Ω} {st : Stmt} {B0 F0 : Hp}
structure MkD (P : Program) (wd : World) (K : PySem.W.Frag) (mg : Str → Option Value) (base : Heap) (k : Nat) (C : Addr) (ps : List Str) (W : Wd Ω) (S : SpcX Ω) : Prop where
  ex : ∃ (f : Addr) (fd : FuncData), FnG P wd K mg base (L2.CX P wd) k f fd ps (spInit K mg W C S) ∧ Mk K C f ∧ Binds K fd ps []
theorem spInit_at {vs : List V} {H : Hp} {Q : VK} {E : XK} (h : spInit K mg (W.at B0 F0) C S vs H Q E) : spInit K mg W C S vs H Q E := by
  obtain ⟨x, dx, us, B, F, G, w, ds, q0, q1, q2, q3, q4, q5, q6, q7, q8, q9⟩ := h
  refine ⟨x, dx, us, B, F, G, w, ds, q0, q1, q2, q3, q4, q5, q6, q7.un, q8, S.mono _ _ _ _ _ _ (fun d w' c F' G' H' r' e' k' => ?_) (fun y w' c cls d F' G' H' r' e' k' => ?_) q9⟩
  · exact c F' G' H' (r'.at' (q7.w.2.trans e') q7.k.2) e' k'
  · exact c cls d F' G' H' (r'.at' (q7.w.2.trans e') q7.k.2) e' k'
theorem MkD.at {ps : List Str} (c : MkD P wd K mg base k C ps W S) : MkD P wd K mg base k C ps (W.at B0 F0) S := by
  obtain ⟨f, fd, g, h1, h2⟩ := c.ex
  exact ⟨f, fd, g.imp fun _ _ _ _ z => spInit_at z, h1, h2⟩
end
end Ck
namespace Ck
open PySem PySem.Spec PyProof.Rows L2
/-! ### list(x) by an own __iter__ that gives the iterator of a field's list -/
end Ck
namespace Ck
open PySem PySem.Spec PyProof.Rows L2
end Ck
namespace Ck
open PySem PySem.Spec PyProof.Rows L2
/-! ### list(x) of an own class, over data -/
end Ck
namespace Ck
open PySem PySem.Spec PyProof.Rows L2
/-! ### __init__ with a default value -/
section
variable {Ω : Type} {P : Program} {wd : World} {K : PySem.W.Frag} {mg : Str → Option Value} {base : Heap} {k : Nat} {C f : Addr} {fd : FuncData} {s0 qual : Str} {ps N : List Str} {W : Wd Ω} {S : SpcX Ω} {st : Stmt} {B0 F0 : Hp}
/-- C(..) with the last parameter left to its default, an empty tuple -/
structure MkDf (P : Program) (wd : World) (K : PySem.W.Frag) (mg : Str → Option Value) (base : Heap) (k : Nat) (C T0 : Addr) (ps : List Str) (W : Wd Ω) (S : SpcX Ω) : Prop where
  ex : ∃ (f : Addr) (fd : FuncData), FnG P wd K mg base (L2.CX P wd) k f fd ps (spInit K mg W C S) ∧ Mk K C f ∧ L2.Binds K fd ps [.ref T0] ∧ KT0 K T0
theorem MkDf.at {T0 : Addr} {ps : List Str} (c : MkDf P wd K mg base k C T0 ps W S) : MkDf P wd K mg base k C T0 ps (W.at B0 F0) S := by
  obtain ⟨f, fd, g, h1, h2⟩ := c.ex
  exact ⟨f, fd, g.imp fun _ _ _ _ z => spInit_at z, h1, h2⟩
end
end Ck
namespace Ck
open PySem PySem.Spec PyProof.Rows L2
open LamX (CodeO TabB LamS lamEnv lamCx)
/-! ### a lambda is made -/
section
variable {X : Cx} {pins : List (Addr × Obj)} {σ : L2.St} {H : Hp} {s : Shared}
/-! ### .. and called by the def that got it; what is raised is wished for at the slots there -/
end
end Ck
namespace Ck
open PySem PySem.Spec PyProof.Rows L2
open LamX (CodeO TabB LamS lamEnv lamCx)
/-! ### the table of a maker's lambdas, as a world of its own -/
def TabW (P : Addr) (q : Str) : Wd Unit where
  ok := fun _ F G => ∃ ps : Array Value, G P = some (.tbl ps) ∧ TriplesOk ps.toList ∧ ∀ (pos : Pos) (cv : Value), codeAmong pos ps.toList = some cv → ∃ c, cv = .ref c ∧ F c = some (CodeO c q)
  bk := fun _ => True
  monoF := fun _ _ _ _ e ⟨ps, h1, h2, h3⟩ => ⟨ps, h1, h2, fun pos cv hc => let ⟨c, e1, e2⟩ := h3 pos cv hc; ⟨c, e1, e _ _ e2⟩⟩
  monoB := fun _ _ _ h => h
/-! ### a lambda handed to a def that calls it -/
abbrev Lam (Ω : Type) := Ω → (Dt → Ω → Prop) → (Exn → Ω → Prop) → Prop
def LamMono {Ω : Type} (L : Lam Ω) : Prop := ∀ (w : Ω) (C C' : Dt → Ω → Prop) (E E' : Exn → Ω → Prop), (∀ d w', C d w' → C' d w') → (∀ x w', E x w' → E' x w') → L w C E → L w C' E'
structure SpcL (Ω : Type) where
  run : Lam Ω → Ω → (Dt → Ω → Prop) → Prop
  mono : ∀ (L : Lam Ω) w (C C' : Dt → Ω → Prop), LamMono L → (∀ d w', C d w' → C' d w') → run L w C → run L w C'
end Ck
namespace Ck
open PySem PySem.Spec PyProof.Rows L2
open LamX (TabB)
/-! ### a law whose own def makes lambdas: its code object c, the table P of that -/
end Ck
namespace Ck
open PySem PySem.Spec PyProof.Rows L2
/-! ### an own class without fields over ValueError, as the law's head finds it -/
structure Ecl0 (K : PySem.W.Frag) (mg : Str → Option Value) (x : Str) (C : Addr) : Prop where
  g : mg x = some (.ref C)
  k : PySem.W.keepIn K (.ref C) = true
  q : PySem.W.excIn K C [.type "ValueError", .type "Exception", .type "BaseException", .type "object"] "ValueError.__new__" = true
  e : PySem.W.subIn K (.ref C) (.type "BaseException") = some true
  ty : PySem.W.typeIn K (.ref C) = some (.type "type")
  ic : PySem.W.isClsIn K C = true
  sc : PySem.W.subIn K (.ref C) (.ref C) = some true
theorem exm_self {K : PySem.W.Frag} {S : Addr} (h1 : PySem.W.subIn K (.ref S) (.type "BaseException") = some true) (h2 : PySem.W.isClsIn K S = true) (h3 : PySem.W.typeIn K (.ref S) = some (.type "type")) (h4 : PySem.W.subIn K (.ref S) (.ref S) = some true) :
    PySem.W.exmOne K (.ref S) (.ref S) = some true := by
  have e2 : ((PySem.W.clsIn K S).isSome && PySem.W.typeIn K (.ref S) == some (.type "type")) = true := by rw [show (PySem.W.clsIn K S).isSome = true from h2, h3] <;> rfl
  unfold PySem.W.exmOne
  rw [h1, if_pos (by rfl)]
  unfold PySem.W.kitCls
  first | (rw [if_pos e2]; exact h4) | (simp only [e2, if_true]; exact h4)
theorem Ecl0.own {K : PySem.W.Frag} {mg : Str → Option Value} {x : Str} {C : Addr} (T : Ecl0 K mg x C) : PySem.W.exmOne K (.ref C) (.ref C) = some true := exm_self T.e T.ic T.ty T.sc
/-! ### whether what is handed in raises just this: try: call(); return False / except x: return True -/
/-! ### a call in a lambda, its arguments plain names -/
def ArgM {Ω : Type} (pa : DL Ω) : Prop := ∀ (sl : Sl) (w : Ω) (C C' : List Dt → Ω → Prop), (∀ l w', C l w' → C' l w') → pa sl w C → pa sl w C'
theorem callX_m {Ω : Type} {pa : DL Ω} {S : SpcX Ω} (m : ArgM pa) : ∀ (er : Er Ω) (sl : Sl) (w : Ω) (C C' : Dt → Fl → Ω → Prop), (∀ d fl w', C d fl w' → C' d fl w') → wCallX S er pa sl w C → wCallX S er pa sl w C' :=
  fun er sl w C C' h z => m _ _ _ _ (fun ds w1 q => S.mono _ _ _ _ _ _ (fun d w2 => h _ _ _) (fun _ _ k => k) q) z
theorem callX_e {Ω : Type} {pa : DL Ω} {S : SpcX Ω} (m : ArgM pa) : ∀ (er er' : Er Ω) (sl : Sl) (w : Ω) (C : Dt → Fl → Ω → Prop), (∀ x sl w, er x sl w → er' x sl w) → wCallX S er pa sl w C → wCallX S er' pa sl w C :=
  fun er er' sl w C h z => m _ _ _ _ (fun ds w1 q => S.mono _ _ _ _ _ _ (fun _ _ k => k) (fun x w2 => h _ _ _) q) z
end Ck
namespace PySem
namespace CkE
open PySem.W PySem.Calls PyProof.Rows PySem.HandSPX Builtin Builtin.ObjectAttr
/-! ### own exception classes over any built-in one: self.f = v where there is no dict yet -/
end CkE
end PySem
namespace Ck
open PySem PySem.Spec PyProof.Rows L2
end Ck
namespace Ck
open PySem PySem.Spec PyProof.Rows L2
/-! ### x, a, b, c = [..], e1, e2, e3: the first one a list of one's own -/
section
variable {Ω : Type} {X : Cx} {W : Wd Ω} {pl pa : DL Ω} {a : Expr} {es ts : List Expr} {pos : Pos}
def wPar3 (i j l : Nat) (pa : DL Ω) : DS Ω := fun D sl w => pa sl w fun ds w' => ∃ d e f, ds = [d, e, f] ∧ D.nx (((sl.set i (some (.dat d))).set j (some (.dat e))).set l (some (.dat f))) w'
theorem ds_par3 {i j l : Nat} {x y z : Str} {a b c : Expr} {px py pz pt : Pos} {kt k2 pt2} (hc : X.calm = true) (hN : X.N.Nodup) (hi : X.N[i]? = some x) (hj : X.N[j]? = some y) (hl : X.N[l]? = some z) (hij : i ≠ j) (hil : i ≠ l) (hjl : j ≠ l)
    (hx : X.env.scope.names.lookup x = some .local) (hy : X.env.scope.names.lookup y = some .local) (hz : X.env.scope.names.lookup z = some .local) (ha : PDA X W [a, b, c] pa)
    (hw : swappedStores [.Tuple [.Name x px, .Name y py, .Name z pz] kt pt] (.Tuple [a, b, c] k2 pt2) X.env = pure (some [x, y, z]))
    (hs : swapsWithSole [.Tuple [.Name x px, .Name y py, .Name z pz] kt pt] (.Tuple [a, b, c] k2 pt2) pos.line X.env = pure false := by rfl) :
    PDS X W (.Assign [.Tuple [.Name x px, .Name y py, .Name z pz] kt pt] (.Tuple [a, b, c] k2 pt2) pos) (wPar3 i j l pa) := by
  refine ⟨ps_imp (ps_par3 hc hN hi hj hl hij hil hjl hx hy hz ha.run hw hs) fun D σ H ⟨B, F, G, w, sl, r, z⟩ => ?_, fun D D' l sl w z => ha.mono _ _ _ _ (fun ds w1 ⟨d, e, f, z1, z2⟩ => ⟨d, e, f, z1, l.nx _ _ z2⟩) z⟩
  refine ⟨B, F, G, w, sl, r, ha.mono _ _ _ _ (fun ds w1 ⟨d, e, f, z1, z2⟩ vs F1 G1 H1 r1 e1 f1 => ?_) z⟩
  subst z1
  cases f1 with
  | cons f1 f2 =>
    cases f2 with
    | cons f2 f3 =>
      cases f3 with
      | cons f3 f4 =>
        cases f4
        exact ⟨_, _, _, rfl, z2 _ F1 G1 H1 (((r1.dat i f1).dat j f2).dat l f3) e1⟩
end
end Ck
namespace Ck
open PySem PySem.Spec PyProof.Rows L2
/-! ### try: .. except C as e: .. within a def, over data -/
section
variable {Ω : Type} {X : Cx} {W : Wd Ω}
def exD (p : DS Ω) : DS Ω := fun D sl w => ∃ D0 : DD Ω, D0.Le D ∧ p D0 sl w
theorem DD.Le.tr {D1 D2 D3 : DD Ω} (h : D1.Le D2) (k : D2.Le D3) : D1.Le D3 := ⟨fun _ _ z => k.nx _ _ (h.nx _ _ z), fun _ _ z => k.rt _ _ (h.rt _ _ z), fun _ _ z => k.bk _ _ (h.bk _ _ z), fun _ _ z => k.ct _ _ (h.ct _ _ z)⟩
theorem exD_mono {p : DS Ω} : ∀ (D D' : DD Ω), D.Le D' → ∀ sl w, exD p D sl w → exD p D' sl w := fun D D' l sl w ⟨D0, h, z⟩ => ⟨D0, h.tr l, z⟩
theorem PDB.ex {st : List Stmt} {p : DS Ω} (h : PDB X W st p) : PDB X W st (exD p) :=
  ⟨pss_imp h.run fun D σ H ⟨B, F, G, w, sl, r, D0, l, z⟩ => ⟨B, F, G, w, sl, r, h.mono _ _ l _ _ z⟩, exD_mono⟩
end
end Ck
namespace Ck
open PySem PySem.Spec PyProof.Rows L2
section
variable {Ω : Type} {P : Program} {wd : World} {K : PySem.W.Frag} {mg : Str → Option Value} {base : Heap} {k : Nat} {C : Addr} {n : Str} {W : Wd Ω} {S : SpcX Ω} {B0 F0 : Hp}
theorem PropX.at (c : PropX P wd K mg base k C n W S) : PropX P wd K mg base k C n (W.at B0 F0) S := by
  obtain ⟨p, g, fd, ps, G, hp, hb⟩ := c.ex
  exact ⟨p, g, fd, ps, G.imp fun _ _ _ _ z => spX_at z, hp, hb⟩
end
end Ck
namespace Ck
open PySem PySem.Spec PyProof.Rows L2
/-! ### an own class as the law's head finds it -/
structure HasP (K : PySem.W.Frag) (C : Addr) (n qual : Str) (st : Stmt) : Prop where
  ex : ∃ (p g : Addr) (fd : FuncData), L2.Fun K n qual st g fd ∧ PropOf K C n p g
section
variable {Ω : Type} {P : Program} {wd : World} {K : PySem.W.Frag} {mg : Str → Option Value} {base : Heap} {k : Nat} {C T0 : Addr} {n qual s0 : Str} {ps N : List Str} {W : Wd Ω} {S : SpcX Ω} {st : Stmt} {B0 F0 : Hp}
theorem PropX.mk' (h : HasP K C n qual st) (sc : FnScope N ps (defScope st))
    (hbd : ∀ (kV doc pm : Value) (an : Option Addr) (cdv ct : Value) (us : List Value), us.length = ps.length → bindArgs (PySem.W.fnOf n qual (defArgs st) (defBody st) (defScope st) .none kV doc pm an cdv ct) ⟨us, []⟩ = pure (ps.zip us))
    (len : ∀ ds w C E, S.run ds w C E → ds.length = ps.length) (p : Er Ω → DS Ω)
    (hb : ∀ (f : Addr) (cdv : Value) (A : Around) (outer : List Env) (s : Shared) (H : Hp) (E : XK) (B0 F0 : Hp) (er : Er Ω), A.guards = some [] → Room k (A.deeper (envOfC qual (defScope st) s.heap.objs.size f cdv)) →
      Lk (cxOf (L2.CX P wd) P wd K mg base N qual (defScope st) f cdv A outer s H E) W B0 F0 er (fun cls d _ H' => E cls d H') →
      PDB (cxOf (L2.CX P wd) P wd K mg base N qual (defScope st) f cdv A outer s H E) (W.at B0 F0) (defBody st) (p er))
    (mm : ∀ ds w C E, S.run ds w C E → p (fun x _ w' => E x w') (endD C) (startD N.length ds) w) : PropX P wd K mg base (k + 1) C n W S := by
  obtain ⟨pp, f, fd, F, hm⟩ := h.ex
  exact ⟨pp, f, fd, ps, FnG.bodyX F sc len fun cdv A outer s H E hgu hr B0 F0 Ex lk => ⟨_, hb f cdv A outer s H E B0 F0 _ hgu hr lk, fun ds w C z => mm ds w C Ex z⟩, hm, F.binds hbd⟩
end
end Ck
namespace Ck
open PySem PySem.Spec PyProof.Rows L2
/-! ### try with many clauses, each with or without a name: the hand's level -/
structure Clau where
  c : Value
  i : Option Nat
  ts : Addr → Value → Option Addr → TS
inductive HdsN (X : Cx) : List ExceptHandler → List Clau → Prop
  | nil : HdsN X [] []
  | cons {x : Str} {c : Value} {ts : Addr → Value → Option Addr → TS} {b₀ : Stmt} {suite : List Stmt} {np pos' : Pos} {hds : List ExceptHandler} {l : List Clau} (hc : Names X x c)
      (hsu : ∀ (a : Addr) (oe : Obj) (cls : Value) (d : Option Addr) (pn : List (Addr × Obj)), Zc cls d oe → (∃ vs, oe.data = .fields vs) → PSs (X.suite a ((a, oe) :: pn)) (b₀ :: suite) (ts a cls d)) (r : HdsN X hds l) :
      HdsN X (.ExceptHandler (some (.Name x np)) none (b₀ :: suite) pos' :: hds) (⟨c, none, ts⟩ :: l)
  | consN {x n : Str} {i : Nat} {c : Value} {ts : Addr → Value → Option Addr → TS} {b₀ : Stmt} {suite : List Stmt} {np pos' : Pos} {hds : List ExceptHandler} {l : List Clau} (hN : X.N.Nodup) (hi : X.N[i]? = some n) (hln : X.env.kindOf n = some .local) (hc : Names X x c)
      (hsu : ∀ (a : Addr) (oe : Obj) (cls : Value) (d : Option Addr) (pn : List (Addr × Obj)), Zc cls d oe → (∃ vs, oe.data = .fields vs) → PSs (X.suite a ((a, oe) :: pn)) (b₀ :: suite) (ts a cls d)) (r : HdsN X hds l) :
      HdsN X (.ExceptHandler (some (.Name x np)) (some n) (b₀ :: suite) pos' :: hds) (⟨c, some i, ts⟩ :: l)
/-! ### .. over data -/
section
variable {Ω : Type} {X : Cx} {W : Wd Ω} {er : Er Ω} {U : WX} {B0 F0 : Hp}
/-- a clause over data: the classes that it takes, its name's slot, its suite -/
structure ClD (Ω : Type) where
  sub : Str → Option Bool
  i : Option Nat
  ps : Exn → Addr → DS Ω
def endD' (i : Option Nat) (D : DD Ω) : DD Ω := match i with
  | none => D
  | some i => noSlot i D
def setD' (i : Option Nat) (sl : Sl) (a : Addr) : Sl := match i with
  | none => sl
  | some i => sl.set i (some (.dat (.opq (.ref a))))
def wPick (er : Er Ω) (D : DD Ω) : List (ClD Ω) → Exn → Sl → Ω → Prop
  | [], x, sl, w => er x sl w
  | c :: r, x, sl, w => ∃ b, c.sub x.cls = some b ∧ if b = true then ∀ a, c.ps x a (endD' c.i D) (setD' c.i sl a) w else wPick er D r x sl w
theorem endD'_le {i : Option Nat} {D D' : DD Ω} (l : D.Le D') : (endD' i D).Le (endD' i D') := by
  cases i with
  | none => exact l
  | some i => exact noSlot_le l
/-- what the suites do -/
def tsD (K : PySem.W.Frag) (mg : Str → Option Value) (W : Wd Ω) (ps : Exn → Addr → DS Ω) : Addr → Value → Option Addr → TS := fun a cls d D σ H => ∃ x B1 F1 G w sl, ExR K mg F1 cls d x ∧ SR K W B1 F1 G H w σ sl ∧ ps x a (up K W B1 F1 D) sl w
inductive HdsD (X : Cx) (W : Wd Ω) : List ExceptHandler → List (ClD Ω) → List Clau → Prop
  | nil : HdsD X W [] [] []
  | cons {x : Str} {c : Value} {sub : Str → Option Bool} {ps : Exn → Addr → DS Ω} {b₀ : Stmt} {suite : List Stmt} {np pos' : Pos} {hds : List ExceptHandler} {l : List (ClD Ω)} {m : List Clau} (hc : Names X x c) (hsub : SubOk X c sub)
      (hsu : ∀ (a : Addr) (oe : Obj) (cls : Value) (d : Option Addr) (pn : List (Addr × Obj)) (x : Exn) (B1 F1 : Hp), Zc cls d oe → (∃ vs, oe.data = .fields vs) → ExR X.K X.mg F1 cls d x → PDB (X.suite a ((a, oe) :: pn)) (W.at B1 F1) (b₀ :: suite) (ps x a)) (r : HdsD X W hds l m) :
      HdsD X W (.ExceptHandler (some (.Name x np)) none (b₀ :: suite) pos' :: hds) (⟨sub, none, fun x a => exD (ps x a)⟩ :: l) (⟨c, none, tsD X.K X.mg W fun x a => exD (ps x a)⟩ :: m)
  | consN {x n : Str} {i : Nat} {c : Value} {sub : Str → Option Bool} {ps : Exn → Addr → DS Ω} {b₀ : Stmt} {suite : List Stmt} {np pos' : Pos} {hds : List ExceptHandler} {l : List (ClD Ω)} {m : List Clau} (hN : X.N.Nodup) (hi : X.N[i]? = some n) (hln : X.env.kindOf n = some .local) (hc : Names X x c) (hsub : SubOk X c sub)
      (hsu : ∀ (a : Addr) (oe : Obj) (cls : Value) (d : Option Addr) (pn : List (Addr × Obj)) (x : Exn) (B1 F1 : Hp), Zc cls d oe → (∃ vs, oe.data = .fields vs) → ExR X.K X.mg F1 cls d x → PDB (X.suite a ((a, oe) :: pn)) (W.at B1 F1) (b₀ :: suite) (ps x a)) (r : HdsD X W hds l m) :
      HdsD X W (.ExceptHandler (some (.Name x np)) (some n) (b₀ :: suite) pos' :: hds) (⟨sub, some i, fun x a => exD (ps x a)⟩ :: l) (⟨c, some i, tsD X.K X.mg W fun x a => exD (ps x a)⟩ :: m)
theorem ts_run {ps : Exn → Addr → DS Ω} {b₀ : Stmt} {suite : List Stmt} (hsu : ∀ (a : Addr) (oe : Obj) (cls : Value) (d : Option Addr) (pn : List (Addr × Obj)) (x : Exn) (B1 F1 : Hp), Zc cls d oe → (∃ vs, oe.data = .fields vs) → ExR X.K X.mg F1 cls d x → PDB (X.suite a ((a, oe) :: pn)) (W.at B1 F1) (b₀ :: suite) (ps x a)) :
    ∀ (a : Addr) (oe : Obj) (cls : Value) (d : Option Addr) (pn : List (Addr × Obj)), Zc cls d oe → (∃ vs, oe.data = .fields vs) → PSs (X.suite a ((a, oe) :: pn)) (b₀ :: suite) (tsD X.K X.mg W (fun x a => exD (ps x a)) a cls d) :=
  fun a oe cls d pn hz ho => ⟨fun pins s σ H D I ⟨x, B1, F1, G, w, sl, q, r, z⟩ => ((hsu a oe cls d pn x B1 F1 hz ho q).ex).run.run pins s σ H D I ⟨B1, F1, G, w, sl, r.at' (Same.refl _) (Same.refl _), exD_mono _ _ up_at _ _ z⟩⟩
theorem HdsD.n {hds : List ExceptHandler} {l : List (ClD Ω)} {m : List Clau} (h : HdsD X W hds l m) : HdsN X hds m := by
  induction h with
  | nil => exact .nil
  | cons hc hsub hsu r ih => exact .cons hc (ts_run hsu) ih
  | consN hN hi hln hc hsub hsu r ih => exact .consN hN hi hln hc (ts_run hsu) ih
theorem HdsD.mono {hds : List ExceptHandler} {l : List (ClD Ω)} {m : List Clau} (h : HdsD X W hds l m) {D D' : DD Ω} (le : D.Le D') {x : Exn} {sl : Sl} {w : Ω} : wPick er D l x sl w → wPick er D' l x sl w := by
  induction h with
  | nil => exact id
  | cons hc hsub hsu r ih =>
    rintro ⟨b, e1, e2⟩
    refine ⟨b, e1, ?_⟩
    cases b with
    | true => exact fun a => exD_mono _ _ (endD'_le le) _ _ (e2 a)
    | false => exact ih e2
  | consN hN hi hln hc hsub hsu r ih =>
    rintro ⟨b, e1, e2⟩
    refine ⟨b, e1, ?_⟩
    cases b with
    | true => exact fun a => exD_mono _ _ (endD'_le le) _ _ (e2 a)
    | false => exact ih e2
end
end Ck
namespace Ck
open PySem PySem.Spec PyProof.Rows L2
/-! ### len(x), x[i], y in x, str(x), x != y by own defs, wherever the instance is kept -/
/-- things that are instances of C -/
def Rcv {Ω : Type} (K : PySem.W.Frag) (W : Wd Ω) (C : Addr) (P : Ω → Dt → Prop) : Prop := ∀ (B F G H : Hp) (w : Ω) (v : V) (d : Dt), HR W B F G H w → P w d → Dr K F v d → ∃ a dx fs, v = .ref a ∧ H a = some (.ins C dx fs)
section
variable {Ω : Type} {K : PySem.W.Frag} {W : Wd Ω} {C : Addr} {P : Ω → Dt → Prop} {B0 F0 : Hp}
theorem Rcv.at (h : Rcv K W C P) : Rcv K (W.at B0 F0) C P := fun B F G H w v d r z q => h B F G H w v d r.un z q
end
end Ck
namespace PySem.W
open PySem PySem.Calls PyProof.Rows Builtin
end PySem.W
namespace Ck
open PySem PySem.Spec PyProof.Rows L2
/-! ### .. over data -/
section
variable {Ω : Type} {X : Cx} {W : Wd Ω} {S : SpcX Ω} {k j : Nat} {C : Addr} {ps : List Str} {a b e : Expr} {pos p : Pos} {pa pb pe : DE Ω} {n : Str} {P : Ω → Dt → Prop}
/-- a def of a class that x[i] finds -/
structure GetX (P : Program) (wd : World) (K : PySem.W.Frag) (mg : Str → Option Value) (base : Heap) (k : Nat) (C : Addr) (m : Str) (ps : List Str) (W : Wd Ω) (S : SpcX Ω) : Prop where
  ex : ∃ (f : Addr) (fd : FuncData), FnG P wd K mg base (L2.CX P wd) k f fd ps (spXOf K mg W S) ∧ Meth K C m f ∧ Binds K fd ps [] ∧ PySem.W.fnIn K f = true
theorem GetX.at {P : Program} {wd : World} {K : PySem.W.Frag} {mg : Str → Option Value} {base : Heap} {m : Str} {B0 F0 : Hp} (c : GetX P wd K mg base k C m ps W S) : GetX P wd K mg base k C m ps (W.at B0 F0) S := by
  obtain ⟨f, fd, g, h1, h2, h3⟩ := c.ex
  exact ⟨f, fd, g.imp fun _ _ _ _ z => spX_at z, h1, h2, h3⟩
end
end Ck
namespace Ck
open PySem PySem.Spec PyProof.Rows L2 ClX
/-! ### C.m(..), m a classmethod; cls(..) within it -/
section
variable {Ω : Type} {X : Cx} {W : Wd Ω} {er : Er Ω} {U : WX} {B0 F0 : Hp} {S : SpcX Ω} {k j i : Nat} {C : Addr} {mc : Value} {ps : List Str} {n m : Str} {o e : Expr} {es : List Expr} {np pos apos : Pos} {pa : DL Ω} {po : DE Ω} {pl : Sem Bool}
structure CmX (P : Program) (wd : World) (K : PySem.W.Frag) (mg : Str → Option Value) (base : Heap) (k : Nat) (C : Addr) (mc : Value) (m : Str) (ps : List Str) (W : Wd Ω) (S : SpcX Ω) : Prop where
  ex : ∃ (p g : Addr) (fd : FuncData), FnG P wd K mg base (L2.CX P wd) k g fd ps (spXOf K mg W S) ∧ CRead K C mc ∧ CMet K C mc m p g ∧ Binds K fd ps []
end
end Ck
namespace Ck
open PySem PySem.Spec PyProof.Rows L2
/-! ### texts over data -/
section
variable {Ω : Type} {X : Cx} {W : Wd Ω} {o e tg : Expr} {po pe : DE Ω} {apos pos p : Pos}
/-- the parts of an f-string -/
inductive PJD (X : Cx) (W : Wd Ω) : List Expr → List (DE Ω) → Prop
  | nil : PJD X W [] []
  | cons {e : Expr} {p : DE Ω} {es : List Expr} {ps : List (DE Ω)} (h : PD X W e p) (r : PJD X W es ps) : PJD X W (e :: es) (p :: ps)
def wJs : List (DE Ω) → Str → DE Ω
  | [], acc => fun _ w C => C (.str acc) .cl w
  | p :: ps, acc => fun sl w C => p sl w fun d _ w1 => ∃ y : Str, d = .str y ∧ (acc ++ y).length ≤ sizeLine ∧ wJs ps (acc ++ y) sl w1 C
theorem PJD.pj {es : List Expr} {ps : List (DE Ω)} (h : PJD X W es ps) : PJ X es (ps.map (lft X.K W)) := by
  induction h with
  | nil => exact .nil
  | cons h r ih => exact .cons h.run ih
theorem PJD.mono {es : List Expr} {ps : List (DE Ω)} (h : PJD X W es ps) : ∀ (acc : Str) (sl : Sl) (w : Ω) (C C' : Dt → Fl → Ω → Prop), (∀ d fl w', C d fl w' → C' d fl w') → wJs ps acc sl w C → wJs ps acc sl w C' := by
  induction h with
  | nil => exact fun acc sl w C C' hC z => hC _ _ _ z
  | cons h r ih => exact fun acc sl w C C' hC z => h.mono _ _ _ _ (fun d fl w1 ⟨y, q1, q2, q3⟩ => ⟨y, q1, q2, ih _ _ _ _ _ hC q3⟩) z
theorem PJD.imp {es : List Expr} {ps : List (DE Ω)} (h : PJD X W es ps) : ∀ (acc : Str) (σ : L2.St) (H : Hp) (Q : VK) (B F G : Hp) (w : Ω) (sl : Sl), SR X.K W B F G H w σ sl →
    (wJs ps acc sl w fun d fl w' => ∀ v F' G' H', SR X.K W B F' G' H' w' σ sl → Same F F' → FlOk X.K F' σ sl v d fl → Q v H') → tJs (ps.map (lft X.K W)) acc σ H fun out H1 => Q (.str out) H1 := by
  induction h with
  | nil => exact fun acc σ H Q B F G w sl r z => z (.str acc) F G H r (Same.refl _) (.str acc)
  | cons h r ih =>
    intro acc σ H Q B F G w sl r z
    refine ⟨B, F, G, w, sl, r, h.mono _ _ _ _ (fun d fl w1 ⟨y, q1, q2, q3⟩ v F1 G1 H1 r1 e1 f1 => ?_) z⟩
    subst q1
    have := (f1.da r1).str; subst this
    refine ⟨y, rfl, q2, ih _ _ _ _ B F1 G1 w1 sl r1 (PJD.mono ‹_› _ _ _ _ _ (fun d fl w' c v F' G' H' r' e' f' => c v F' G' H' r' (e1.trans e') f') q3)⟩
end
end Ck
namespace Ck
open PySem PySem.Spec PyProof.Rows L2 ClX
/-! ### facts of the head: classmethods, subscripts, an __init__ that raises -/
structure HasC (K : PySem.W.Frag) (C : Addr) (m qual : Str) (st : Stmt) : Prop where
  ex : ∃ (p g : Addr) (fd : FuncData), L2.Fun K m qual st g fd ∧ CRead K C (.type "type") ∧ CMet K C (.type "type") m p g
section
variable {K : PySem.W.Frag} {C p g : Addr} {m qual : Str} {st : Stmt} {oc kV doc pm cdv ct : Value} {od an : Option Addr} {osl : Array (Option Value)} {rest : List Value}
theorem fnIn_of {fd : FuncData} (l : K.lookup g = some ⟨oc, od, .func fd, osl⟩) : PySem.W.fnIn K g = true := by
  unfold PySem.W.fnIn
  rw [l]
end
section
variable {Ω : Type} {P : Program} {wd : World} {K : PySem.W.Frag} {mg : Str → Option Value} {base : Heap} {k : Nat} {C T0 : Addr} {n qual s0 : Str} {ps N : List Str} {W : Wd Ω} {S : SpcX Ω} {st : Stmt} {B0 F0 : Hp}
theorem CmX.mk' (h : HasC K C n qual st) (sc : FnScope N ps (defScope st))
    (hbd : ∀ (kV doc pm : Value) (an : Option Addr) (cdv ct : Value) (us : List Value), us.length = ps.length → bindArgs (PySem.W.fnOf n qual (defArgs st) (defBody st) (defScope st) .none kV doc pm an cdv ct) ⟨us, []⟩ = pure (ps.zip us))
    (len : ∀ ds w C E, S.run ds w C E → ds.length = ps.length) (p : Er Ω → DS Ω)
    (hb : ∀ (f : Addr) (cdv : Value) (A : Around) (outer : List Env) (s : Shared) (H : Hp) (E : XK) (B0 F0 : Hp) (er : Er Ω), A.guards = some [] → Room k (A.deeper (envOfC qual (defScope st) s.heap.objs.size f cdv)) →
      Lk (cxOf (L2.CX P wd) P wd K mg base N qual (defScope st) f cdv A outer s H E) W B0 F0 er (fun cls d _ H' => E cls d H') →
      PDB (cxOf (L2.CX P wd) P wd K mg base N qual (defScope st) f cdv A outer s H E) (W.at B0 F0) (defBody st) (p er))
    (mm : ∀ ds w C E, S.run ds w C E → p (fun x _ w' => E x w') (endD C) (startD N.length ds) w) : CmX P wd K mg base (k + 1) C (.type "type") n ps W S := by
  obtain ⟨pp, g, fd, F, rd, cm⟩ := h.ex
  exact ⟨pp, g, fd, FnG.bodyX F sc len fun cdv A outer s H E hgu hr B0 F0 Ex lk => ⟨_, hb g cdv A outer s H E B0 F0 _ hgu hr lk, fun ds w C z => mm ds w C Ex z⟩, rd, cm, F.binds hbd⟩
theorem GetX.mk' (h : HasM K C n qual st) (sc : FnScope N ps (defScope st))
    (hbd : ∀ (kV doc pm : Value) (an : Option Addr) (cdv ct : Value) (us : List Value), us.length = ps.length → bindArgs (PySem.W.fnOf n qual (defArgs st) (defBody st) (defScope st) .none kV doc pm an cdv ct) ⟨us, []⟩ = pure (ps.zip us))
    (len : ∀ ds w C E, S.run ds w C E → ds.length = ps.length) (p : Er Ω → DS Ω)
    (hb : ∀ (f : Addr) (cdv : Value) (A : Around) (outer : List Env) (s : Shared) (H : Hp) (E : XK) (B0 F0 : Hp) (er : Er Ω), A.guards = some [] → Room k (A.deeper (envOfC qual (defScope st) s.heap.objs.size f cdv)) →
      Lk (cxOf (L2.CX P wd) P wd K mg base N qual (defScope st) f cdv A outer s H E) W B0 F0 er (fun cls d _ H' => E cls d H') →
      PDB (cxOf (L2.CX P wd) P wd K mg base N qual (defScope st) f cdv A outer s H E) (W.at B0 F0) (defBody st) (p er))
    (mm : ∀ ds w C E, S.run ds w C E → p (fun x _ w' => E x w') (endD C) (startD N.length ds) w) : GetX P wd K mg base (k + 1) C n ps W S := by
  obtain ⟨f, fd, F, hm⟩ := h.ex
  have hfn : PySem.W.fnIn K f = true := by
    obtain ⟨oc, od, kV, doc, pm, an, cdv, ct, osl, rfl, l, _⟩ := F.ex
    exact fnIn_of l
  exact ⟨f, fd, FnG.bodyX F sc len fun cdv A outer s H E hgu hr B0 F0 Ex lk => ⟨_, hb f cdv A outer s H E B0 F0 _ hgu hr lk, fun ds w C z => mm ds w C Ex z⟩, hm, F.binds hbd, hfn⟩
end
end Ck
namespace Ck
open PySem PySem.Spec PyProof.Rows L2
/-! ### objects that change: a world of them -/
inductive Fv where
  | dat (d : Dt) | own (p : Addr) (l : List Dt)
structure Ob where
  C : Addr
  dx : Addr
  fs : List (Str × Fv)
abbrev Om := Addr → Option Ob
def updM (m : Om) (a : Addr) (o : Ob) : Om := fun b => if b = a then some o else m b
theorem updM_same {m : Om} {a : Addr} {o : Ob} : updM m a o a = some o := by unfold updM; rw [if_pos rfl]
theorem updM_ne {m : Om} {a b : Addr} {o : Ob} (h : b ≠ a) : updM m a o b = m b := by unfold updM; rw [if_neg h]
inductive FvR (K : PySem.W.Frag) (F G : Hp) : V → Fv → Prop
  | dat {v : V} {d : Dt} (h : Dr K F v d) : FvR K F G v (.dat d)
  | own {p : Addr} {us : List V} {l : List Dt} (h : G p = some (.lst us)) (hl : DrL K F us l) : FvR K F G (.ref p) (.own p l)
inductive FvL (K : PySem.W.Frag) (F G : Hp) : List V → List (Str × Fv) → Prop
  | nil : FvL K F G [] []
  | cons {v : V} {vs : List V} {n : Str} {x : Fv} {l : List (Str × Fv)} (h : FvR K F G v x) (r : FvL K F G vs l) : FvL K F G (v :: vs) ((n, x) :: l)
def fldO (n : Str) (fs : List (Str × Fv)) : Option Fv := fs.lookup n
def putO (n : Str) (x : Fv) : List (Str × Fv) → List (Str × Fv)
  | [] => [(n, x)]
  | (g, y) :: r => if g = n then (g, x) :: r else (g, y) :: putO n x r
section
variable {K : PySem.W.Frag} {F F' G G' : Hp} {n : Str} {x : Fv} {v : V}
theorem FvR.mono (e : Same F F') (h : FvR K F G v x) : FvR K F' G v x := by
  cases h with
  | dat h => exact .dat (h.mono e)
  | own h hl => exact .own h (hl.mono e)
theorem FvL.mono (e : Same F F') : ∀ {vs : List V} {fs : List (Str × Fv)}, FvL K F G vs fs → FvL K F' G vs fs
  | _, _, .nil => .nil
  | _, _, .cons h r => .cons (h.mono e) (FvL.mono e r)
theorem FvL.len : ∀ {vs : List V} {fs : List (Str × Fv)}, FvL K F G vs fs → fs.length = vs.length
  | _, _, .nil => rfl
  | _, _, .cons _ r => by rw [List.length_cons, List.length_cons, FvL.len r]
/-- what the lists stand at may not change -/
theorem FvL.to : ∀ {vs : List V} {fs : List (Str × Fv)}, (∀ n p l, (n, Fv.own p l) ∈ fs → ∀ o, G p = some o → G' p = some o) → FvL K F G vs fs → FvL K F G' vs fs
  | _, _, _, .nil => .nil
  | _, _, k, .cons h r => by
    refine .cons ?_ (FvL.to (fun n p l q => k n p l (List.mem_cons_of_mem _ q)) r)
    cases h with
    | dat h => exact .dat h
    | own h hl => exact .own (k _ _ _ List.mem_cons_self _ h) hl
theorem FvL.read : ∀ {vs : List V} {fs : List (Str × Fv)}, FvL K F G vs fs → fldO n fs = some x → ∃ v, ((fs.map (·.1)).zip vs).lookup n = some v ∧ FvR K F G v x
  | _, _, .nil, h => nomatch h
  | _, _, .cons (n := g) (x := y) (l := l) (vs := vs) (v := v) h r, e => by
    unfold fldO at e
    rw [List.lookup_cons] at e
    by_cases q : (n == g) = true
    · simp only [q] at e
      cases e
      refine ⟨v, ?_, h⟩
      show List.lookup n ((g, v) :: (l.map (·.1)).zip vs) = some v
      rw [List.lookup_cons, q]
    · simp only [q] at e
      obtain ⟨u, h1, h2⟩ := FvL.read r e
      refine ⟨u, ?_, h2⟩
      show List.lookup n ((g, v) :: (l.map (·.1)).zip vs) = some u
      rw [List.lookup_cons]
      simp only [q]
      exact h1
theorem FvL.own_at : ∀ {vs : List V} {fs : List (Str × Fv)} {p : Addr} {l : List Dt}, FvL K F G vs fs → (n, Fv.own p l) ∈ fs → ∃ us, G p = some (.lst us) ∧ DrL K F us l
  | _, _, _, _, .nil, h => nomatch h
  | _, _, p, l, .cons h r, e => by
    rcases List.mem_cons.mp e with e | e
    · cases e
      cases h with
      | own h hl => exact ⟨_, h, hl⟩
    · exact FvL.own_at r e
theorem FvL.put : ∀ {vs : List V} {fs : List (Str × Fv)}, FvL K F G vs fs → FvR K F G v x → ∃ vs', putF n v ((fs.map (·.1)).zip vs) = ((putO n x fs).map (·.1)).zip vs' ∧ FvL K F G vs' (putO n x fs)
  | _, _, .nil, h => ⟨[v], rfl, .cons h .nil⟩
  | _, _, .cons (n := g) (x := y) (l := l) (vs := vs) (v := u) h r, hx => by
    by_cases q : g = n
    · refine ⟨v :: vs, ?_, ?_⟩
      · show putF n v ((g, u) :: (l.map (·.1)).zip vs) = ((putO n x ((g, y) :: l)).map (·.1)).zip (v :: vs)
        unfold putF putO
        rw [if_pos q, if_pos q]
        rfl
      · unfold putO
        rw [if_pos q]
        exact .cons hx r
    · obtain ⟨vs', h1, h2⟩ := FvL.put r hx
      refine ⟨u :: vs', ?_, ?_⟩
      · show putF n v ((g, u) :: (l.map (·.1)).zip vs) = ((putO n x ((g, y) :: l)).map (·.1)).zip (u :: vs')
        unfold putF putO
        rw [if_neg q, if_neg q, h1]
        rfl
      · unfold putO
        rw [if_neg q]
        exact .cons h h2
theorem fldO_mem : ∀ {fs : List (Str × Fv)}, fldO n fs = some x → (n, x) ∈ fs
  | [], h => nomatch h
  | (g, y) :: l, e => by
    unfold fldO at e
    rw [List.lookup_cons] at e
    by_cases q : (n == g) = true
    · simp only [q] at e
      cases e
      rw [beq_iff_eq.mp q]
      exact List.mem_cons_self
    · simp only [q] at e
      exact List.mem_cons_of_mem _ (fldO_mem e)
theorem putO_mem {g : Str} {y : Fv} : ∀ {fs : List (Str × Fv)}, (g, y) ∈ putO n x fs → (g = n ∧ y = x) ∨ (g, y) ∈ fs
  | [], h => by
    cases List.mem_singleton.mp h
    exact .inl ⟨rfl, rfl⟩
  | (f, z) :: l, h => by
    unfold putO at h
    by_cases q : f = n
    · rw [if_pos q] at h
      rcases List.mem_cons.mp h with e | e
      · cases e
        exact .inl ⟨q, rfl⟩
      · exact .inr (List.mem_cons_of_mem _ e)
    · rw [if_neg q] at h
      rcases List.mem_cons.mp h with e | e
      · cases e
        exact .inr List.mem_cons_self
      · exact (putO_mem e).imp id (List.mem_cons_of_mem _)
theorem putO_names {g : Str} : ∀ {fs : List (Str × Fv)}, g ∈ (putO n x fs).map (·.1) → g = n ∨ g ∈ fs.map (·.1)
  | fs, h => by
    obtain ⟨⟨a, b⟩, h1, rfl⟩ := List.mem_map.mp h
    rcases putO_mem h1 with ⟨e, _⟩ | e
    · exact .inl e
    · exact .inr (List.mem_map.mpr ⟨_, e, rfl⟩)
theorem putO_nd : ∀ {fs : List (Str × Fv)}, (fs.map (·.1)).Nodup → ((putO n x fs).map (·.1)).Nodup
  | [], _ => by
    show [n].Nodup
    simp
  | (f, z) :: l, h => by
    obtain ⟨h1, h2⟩ := List.nodup_cons.mp h
    unfold putO
    by_cases q : f = n
    · rw [if_pos q]
      exact h
    · rw [if_neg q]
      refine List.nodup_cons.mpr ⟨fun z => ?_, putO_nd h2⟩
      rcases putO_names z with e | e
      · exact q e
      · exact h1 e
/-- the field n itself stands there once -/
theorem putO_own {g : Str} {y : Fv} {fs : List (Str × Fv)} (hn : (fs.map (·.1)).Nodup) (h : (g, y) ∈ putO n x fs) : (g = n ∧ y = x) ∨ (g ≠ n ∧ (g, y) ∈ fs) := by
  induction fs with
  | nil =>
    cases List.mem_singleton.mp h
    exact .inl ⟨rfl, rfl⟩
  | cons a l ih =>
    obtain ⟨f, z⟩ := a
    obtain ⟨h1, h2⟩ := List.nodup_cons.mp hn
    unfold putO at h
    by_cases q : f = n
    · rw [if_pos q] at h
      rcases List.mem_cons.mp h with e | e
      · cases e
        exact .inl ⟨q, rfl⟩
      · refine .inr ⟨fun z => h1 ?_, List.mem_cons_of_mem _ e⟩
        show f ∈ l.map (·.1)
        rw [q, ← z]
        exact List.mem_map.mpr ⟨_, e, rfl⟩
    · rw [if_neg q] at h
      rcases List.mem_cons.mp h with e | e
      · cases e
        exact .inr ⟨q, List.mem_cons_self⟩
      · exact (ih h2 e).imp id fun ⟨a, b⟩ => ⟨a, List.mem_cons_of_mem _ b⟩
end
structure ObOk (K : PySem.W.Frag) (m : Om) (F G : Hp) : Prop where
  at_ : ∀ a ob, m a = some ob → ∃ vs, FvL K F G vs ob.fs ∧ G a = some (.ins ob.C ob.dx ((ob.fs.map (·.1)).zip vs)) ∧ G ob.dx = some (.own a)
  nd : ∀ a ob, m a = some ob → (ob.fs.map (·.1)).Nodup ∧ ob.fs.length ≤ 900
  ap : ∀ a ob n p l, m a = some ob → (n, Fv.own p l) ∈ ob.fs → ∀ a' ob' n' l', m a' = some ob' → (n', Fv.own p l') ∈ ob'.fs → a = a' ∧ n = n'
section
variable {K : PySem.W.Frag} {m : Om} {F F' G : Hp} {a p : Addr} {ob : Ob} {n : Str} {v : V} {d : Dt} {us : List V} {l : List Dt}
theorem ObOk.mono (e : Same F F') (h : ObOk K m F G) : ObOk K m F' G := ⟨fun a ob q => let ⟨vs, h1, h2⟩ := h.at_ a ob q; ⟨vs, h1.mono e, h2⟩, h.nd, h.ap⟩
theorem ObOk.more {o : HO} (h : ObOk K m F G) (hp : G p = none) : ObOk K m F (upd G p o) := by
  refine ⟨fun a ob q => ?_, h.nd, h.ap⟩
  obtain ⟨vs, h1, h2, h3⟩ := h.at_ a ob q
  exact ⟨vs, h1.to fun n p' l _ o' e => by rw [upd_ne (ne_of_none e hp)]; exact e, by rw [upd_ne (ne_of_none h2 hp)]; exact h2, by rw [upd_ne (ne_of_none h3 hp)]; exact h3⟩
/-- a field becomes data, or a list that nobody of the world holds -/
theorem ObOk.put {x : Fv} (h : ObOk K m F G) (ha : m a = some ob) (hl : ob.fs.length < 900) (hx : FvR K F G v x) (hf : ∀ q r, x = .own q r → ∀ b o g r', m b = some o → (g, Fv.own q r') ∈ o.fs → b = a ∧ g = n) :
    ∃ fs0, G a = some (.ins ob.C ob.dx fs0) ∧ fs0.length < 900 ∧ ObOk K (updM m a { ob with fs := putO n x ob.fs }) F (upd G a (.ins ob.C ob.dx (putF n v fs0))) := by
  obtain ⟨vs, h1, h2, h3⟩ := h.at_ a ob ha
  obtain ⟨hnd, _⟩ := h.nd a ob ha
  have nl : ∀ {q : Addr} {us : List V}, G q = some (.lst us) → q ≠ a := fun e z => by rw [z, h2] at e; cases e
  have hFv : ∀ {vs : List V} {fs : List (Str × Fv)} {o : HO}, FvL K F G vs fs → FvL K F (upd G a o) vs fs := fun h => h.to fun n p l hm o e => by
    obtain ⟨us, q, _⟩ := h.own_at hm
    rw [upd_ne (nl q)]
    exact e
  obtain ⟨vs', k1, k2⟩ := h1.put (n := n) hx
  have klen : (putO n x ob.fs).length ≤ 900 := by
    have := k2.len
    have : ∀ fs : List (Str × Fv), (putO n x fs).length ≤ fs.length + 1 := by
      intro fs
      induction fs with
      | nil => exact Nat.le_refl _
      | cons y r ih =>
        obtain ⟨g, z⟩ := y
        unfold putO
        split
        · exact Nat.le_succ _
        · rw [List.length_cons, List.length_cons]
          omega
    have := this ob.fs
    omega
  refine ⟨_, h2, by rw [List.length_zip, List.length_map, ← h1.len, Nat.min_self]; exact hl, ⟨fun b o hb => ?_, fun b o hb => ?_, fun b o g q r hb hm b' o' g' r' hb' hm' => ?_⟩⟩
  · by_cases e : b = a
    · subst e
      rw [updM_same] at hb
      cases hb
      refine ⟨vs', hFv k2, ?_, ?_⟩
      · rw [upd_same, k1]
      · rw [upd_ne fun z => by
          have z : ob.dx = b := z
          rw [z, h2] at h3
          cases h3]
        exact h3
    · rw [updM_ne e] at hb
      obtain ⟨ws, j1, j2, j3⟩ := h.at_ b o hb
      exact ⟨ws, hFv j1, by rw [upd_ne e]; exact j2, by rw [upd_ne fun z => by rw [z, h2] at j3; cases j3]; exact j3⟩
  · by_cases e : b = a
    · subst e
      rw [updM_same] at hb
      cases hb
      exact ⟨putO_nd hnd, klen⟩
    · rw [updM_ne e] at hb
      exact h.nd b o hb
  · -- no list stands at two places
    have key : ∀ {b : Addr} {o : Ob} {g : Str} {r : List Dt}, updM m a { ob with fs := putO n x ob.fs } b = some o → (g, Fv.own q r) ∈ o.fs → (b = a ∧ g = n ∧ Fv.own q r = x) ∨ ((b ≠ a ∨ g ≠ n) ∧ ∃ o1, m b = some o1 ∧ (g, Fv.own q r) ∈ o1.fs) := fun {b o g r} hb hm => by
      by_cases e : b = a
      · subst e
        rw [updM_same] at hb
        cases hb
        rcases putO_own hnd hm with ⟨z1, z2⟩ | ⟨z1, z2⟩
        · exact .inl ⟨rfl, z1, z2⟩
        · exact .inr ⟨.inr z1, ob, ha, z2⟩
      · rw [updM_ne e] at hb
        exact .inr ⟨.inl e, o, hb, hm⟩
    rcases key hb hm with ⟨z1, z2, z3⟩ | ⟨z1, o1, z2, z3⟩ <;> rcases key hb' hm' with ⟨y1, y2, y3⟩ | ⟨y1, o2, y2, y3⟩
    · exact ⟨z1.trans y1.symm, z2.trans y2.symm⟩
    · obtain ⟨w1, w2⟩ := hf _ _ z3.symm _ _ _ _ y2 y3
      rcases y1 with y1 | y1
      · exact absurd w1 y1
      · exact absurd w2 y1
    · obtain ⟨w1, w2⟩ := hf _ _ y3.symm _ _ _ _ z2 z3
      rcases z1 with z1 | z1
      · exact absurd w1 z1
      · exact absurd w2 z1
    · exact h.ap _ _ _ _ _ z2 z3 _ _ _ _ y2 y3
/-- the list of a field is changed -/
theorem ObOk.list {us' : List V} {l' : List Dt} (h : ObOk K m F G) (ha : m a = some ob) (hf : fldO n ob.fs = some (.own p l)) (hd : DrL K F us' l') :
    ∃ us, G p = some (.lst us) ∧ DrL K F us l ∧ ObOk K (updM m a { ob with fs := putO n (.own p l') ob.fs }) F (upd G p (.lst us')) := by
  obtain ⟨vs, h1, h2, h3⟩ := h.at_ a ob ha
  obtain ⟨hnd, hle⟩ := h.nd a ob ha
  have hm := fldO_mem hf
  obtain ⟨us, q1, q2⟩ := h1.own_at hm
  refine ⟨us, q1, q2, ?_⟩
  have na : a ≠ p := fun z => by rw [z, q1] at h2; cases h2
  -- the values stay
  have stay : ∀ {vs : List V} {fs : List (Str × Fv)}, (fs.map (·.1)).Nodup → fldO n fs = some (.own p l) → FvL K F G vs fs → (∀ g q r, (g, Fv.own q r) ∈ fs → g ≠ n → q ≠ p) → FvL K F (upd G p (.lst us')) vs (putO n (.own p l') fs) ∧ (putO n (.own p l') fs).map (·.1) = fs.map (·.1) := by
    intro vs fs hn hf hv hk
    induction hv with
    | nil => cases hf
    | @cons v vs g x r hx hr ih =>
      obtain ⟨n1, n2⟩ := List.nodup_cons.mp hn
      unfold fldO at hf
      rw [List.lookup_cons] at hf
      by_cases q : g = n
      · subst q
        rw [beq_self_eq_true] at hf
        cases hf
        unfold putO
        rw [if_pos rfl]
        cases hx with
        | own hx hl =>
          refine ⟨.cons (.own upd_same hd) (hr.to fun g' q' r' hm' o e => ?_), rfl⟩
          rw [upd_ne (hk g' q' r' (List.mem_cons_of_mem _ hm') fun z => n1 (z ▸ List.mem_map.mpr ⟨_, hm', rfl⟩))]
          exact e
      · have qb : (n == g) = false := beq_eq_false_iff_ne.mpr (Ne.symm q)
        simp only [qb] at hf
        unfold putO
        rw [if_neg q]
        obtain ⟨i1, i2⟩ := ih n2 hf fun g' q' r' hm' => hk g' q' r' (List.mem_cons_of_mem _ hm')
        refine ⟨.cons ?_ i1, by rw [List.map_cons, List.map_cons, i2]⟩
        cases hx with
        | dat hx => exact .dat hx
        | own hx hl => exact .own (by rw [upd_ne (hk g _ _ List.mem_cons_self q)]; exact hx) hl
  obtain ⟨s1, s2⟩ := stay hnd hf h1 fun g q r hm' hg e => by
    subst e
    exact hg (h.ap a ob g q r ha hm' a ob n l ha hm).2
  refine ⟨fun b o hb => ?_, fun b o hb => ?_, fun b o g q r hb hm1 b' o' g' r' hb' hm2 => ?_⟩
  · by_cases e : b = a
    · subst e
      rw [updM_same] at hb
      cases hb
      refine ⟨vs, s1, ?_, ?_⟩
      · rw [upd_ne na, s2]
        exact h2
      · rw [upd_ne fun z => by
          have z : ob.dx = p := z
          rw [z, q1] at h3
          cases h3]
        exact h3
    · rw [updM_ne e] at hb
      obtain ⟨ws, j1, j2, j3⟩ := h.at_ b o hb
      refine ⟨ws, j1.to fun g q r hm' o' e' => ?_, by rw [upd_ne fun z => by rw [z, q1] at j2; cases j2]; exact j2, by rw [upd_ne fun z => by rw [z, q1] at j3; cases j3]; exact j3⟩
      rw [upd_ne fun z => e (by
        subst z
        exact (h.ap b o g q r hb hm' a ob n l ha hm).1)]
      exact e'
  · by_cases e : b = a
    · subst e
      rw [updM_same] at hb
      cases hb
      refine ⟨by rw [s2]; exact hnd, ?_⟩
      have := congrArg List.length s2
      rw [List.length_map, List.length_map] at this
      show (putO n (.own p l') ob.fs).length ≤ 900
      omega
    · rw [updM_ne e] at hb
      exact h.nd b o hb
  · have back : ∀ {b : Addr} {o : Ob} {g : Str} {r : List Dt}, updM m a { ob with fs := putO n (.own p l') ob.fs } b = some o → (g, Fv.own q r) ∈ o.fs → ∃ o1 r1, m b = some o1 ∧ (g, Fv.own q r1) ∈ o1.fs := fun {b o g r} hb hm' => by
      by_cases e : b = a
      · subst e
        rw [updM_same] at hb
        cases hb
        rcases putO_own hnd hm' with ⟨z1, z2⟩ | ⟨z1, z2⟩
        · cases z2
          exact ⟨ob, l, ha, z1 ▸ hm⟩
        · exact ⟨ob, r, ha, z2⟩
      · rw [updM_ne e] at hb
        exact ⟨o, r, hb, hm'⟩
    obtain ⟨o1, r1, z1, z2⟩ := back hb hm1
    obtain ⟨o2, r2, y1, y2⟩ := back hb' hm2
    exact h.ap _ _ _ _ _ z1 z2 _ _ _ _ y1 y2
/-- a new object -/
theorem ObOk.make {x dx C : Addr} (h : ObOk K m F G) (hx : G x = none) (hd : G dx = none) (ne : dx ≠ x) : ObOk K (updM m x ⟨C, dx, []⟩) F (upd (upd G dx (.own x)) x (.ins C dx [])) := by
  have g0 : ∀ b o, G b = some o → upd (upd G dx (.own x)) x (.ins C dx []) b = some o := fun b o e => by rw [upd_ne (ne_of_none e hx), upd_ne (ne_of_none e hd)]; exact e
  refine ⟨fun b o hb => ?_, fun b o hb => ?_, fun b o g q r hb hm1 b' o' g' r' hb' hm2 => ?_⟩
  · by_cases e : b = x
    · subst e
      rw [updM_same] at hb
      cases hb
      exact ⟨[], .nil, upd_same, by rw [upd_ne ne]; exact upd_same⟩
    · rw [updM_ne e] at hb
      obtain ⟨ws, j1, j2, j3⟩ := h.at_ b o hb
      exact ⟨ws, j1.to fun _ _ _ _ o e => g0 _ _ e, g0 _ _ j2, g0 _ _ j3⟩
  · by_cases e : b = x
    · subst e
      rw [updM_same] at hb
      cases hb
      exact ⟨List.nodup_nil, Nat.zero_le _⟩
    · rw [updM_ne e] at hb
      exact h.nd b o hb
  · have back : ∀ {b : Addr} {o : Ob} {g : Str} {r : List Dt}, updM m x ⟨C, dx, []⟩ b = some o → (g, Fv.own q r) ∈ o.fs → m b = some o := fun {b o g r} hb hm' => by
      by_cases e : b = x
      · subst e
        rw [updM_same] at hb
        cases hb
        cases hm'
      · rw [updM_ne e] at hb
        exact hb
    exact h.ap _ _ _ _ _ (back hb hm1) hm1 _ _ _ _ (back hb' hm2) hm2
end
def ObW (K : PySem.W.Frag) : Wd Om := ⟨fun m F G => ObOk K m F G, fun _ => True, fun _ _ _ _ e h => h.mono e, fun _ _ _ h => h⟩
/-- a world that holds a world of objects -/
structure ObIn {Ω1 : Type} (K : PySem.W.Frag) (W : Wd (Ω1 × Om)) : Prop where
  sub : ∀ (w : Ω1 × Om) (F G : Hp), W.ok w F G → ∃ G2, Same G2 G ∧ ObOk K w.2 F G2
  step : ∀ (w : Ω1 × Om) (F G G' : Hp) (m' : Om), W.ok w F G → (∀ G2, Same G2 G → ObOk K w.2 F G2 → ∃ G2', ObOk K m' F G2' ∧ Same G2' G' ∧ ∀ a o, G a = some o → (G2 a = none ∨ IsTp o) → G' a = some o ∧ (G2' a = none ∨ IsTp o)) → W.ok (w.1, m') F G'
theorem ObIn.sep {Ω1 : Type} {K : PySem.W.Frag} {W1 : Wd Ω1} : ObIn K (W1.sep (ObW K)) := by
  refine ⟨fun w F G ⟨G1, G2, h1, h2, e1, e2, hd⟩ => ⟨G2, e2, h2⟩, fun w F G G' m' ⟨G1, G2, h1, h2, e1, e2, hd⟩ k => ?_⟩
  obtain ⟨G2', k1, k2, k3⟩ := k G2 e2 h2
  exact ⟨G1, G2', h1, k1, fun a o e => (k3 a o (e1 _ _ e) (hd a o e)).1, k2, fun a o e => (k3 a o (e1 _ _ e) (hd a o e)).2⟩
theorem ObIn.at {Ω1 : Type} {K : PySem.W.Frag} {W : Wd (Ω1 × Om)} {B0 F0 : Hp} (h : ObIn K W) : ObIn K (W.at B0 F0) :=
  ⟨fun w F G z => h.sub w F G z.1, fun w F G G' m' z k => ⟨h.step w F G G' m' z.1 k, z.2⟩⟩
end Ck
namespace Ck
open PySem PySem.Spec PyProof.Rows L2
/-! ### objects that change: the heap's steps -/
section
variable {Ω1 : Type} {K : PySem.W.Frag} {W : Wd (Ω1 × Om)} {B F G H : Hp} {w : Ω1 × Om} {m' : Om} {σ : L2.St} {sl : Sl} {a p : Addr} {o o' op : HO}
/-- a slot's own is given away -/
theorem SR.drop (r : SR K W B F G H w σ sl) (i : Nat) : SR K W B F G H w σ (sl.set i none) := by
  have key : ∀ (j : Nat) (x : Sv), (sl.set i none)[j]? = some (some x) → sl[j]? = some (some x) := fun j x h => by
    rw [List.getElem?_set] at h
    by_cases e : i = j
    · rw [if_pos e] at h
      split at h <;> cases h
    · rw [if_neg e] at h
      exact h
  exact ⟨r.hr, by rw [List.length_set]; exact r.len, fun j x h => r.s j x (key j x h), fun j k v l m h1 h2 => r.o j k v l m (key j _ h1) (key k _ h2)⟩
/-- a new object of the world's -/
theorem HR.make {x dx C : Addr} (io : ObIn K W) (r : HR W B F G H w) (hx : H x = none) (hd : H dx = none) (ne : dx ≠ x) :
    HR W B F (upd (upd G dx (.own x)) x (.ins C dx [])) (upd (upd H dx (.own x)) x (.ins C dx [])) (w.1, updM w.2 x ⟨C, dx, []⟩) := by
  have b0 : ∀ {b o}, B b = some o → b ≠ x ∧ b ≠ dx := fun e => ⟨ne_of_none (r.b _ _ e).1 hx, ne_of_none (r.b _ _ e).1 hd⟩
  have f0 : ∀ {b o}, F b = some o → b ≠ x ∧ b ≠ dx := fun e => ⟨ne_of_none (r.f _ _ e) hx, ne_of_none (r.f _ _ e) hd⟩
  have g0 : ∀ {b o}, G b = some o → b ≠ x ∧ b ≠ dx := fun e => ⟨ne_of_none (r.g _ _ e) hx, ne_of_none (r.g _ _ e) hd⟩
  have up : ∀ {G1 G2 : Hp}, Same G1 G2 → Same (upd (upd G1 dx (.own x)) x (.ins C dx [])) (upd (upd G2 dx (.own x)) x (.ins C dx [])) := fun e b u q => by
    by_cases z : b = x
    · subst z
      rw [upd_same] at q ⊢
      exact q
    · rw [upd_ne z] at q ⊢
      by_cases z2 : b = dx
      · subst z2
        rw [upd_same] at q ⊢
        exact q
      · rw [upd_ne z2] at q ⊢
        exact e b u q
  refine ⟨fun b u e => ?_, fun b u e => ?_, up r.g, fun b u e => ?_, io.step w F G _ _ r.w fun G2 e2 ok => ⟨_, ok.make (e2.free (r.g.free hx)) (e2.free (r.g.free hd)) ne, up e2, fun b u e z => ?_⟩, r.k⟩
  · obtain ⟨n1, n2⟩ := b0 e
    rw [upd_ne n1, upd_ne n1, upd_ne n2, upd_ne n2]
    exact r.b b u e
  · obtain ⟨n1, n2⟩ := f0 e
    rw [upd_ne n1, upd_ne n2]
    exact r.f b u e
  · obtain ⟨n1, n2⟩ := f0 e
    rw [upd_ne n1, upd_ne n2]
    exact r.d b u e
  · obtain ⟨n1, n2⟩ := g0 e
    rw [upd_ne n1, upd_ne n1, upd_ne n2, upd_ne n2]
    exact ⟨e, z⟩
theorem HR.ins (io : ObIn K W) (r : HR W B F G H w) {ob : Ob} (ha : w.2 a = some ob) : ∃ fs0, H a = some (.ins ob.C ob.dx fs0) ∧ ∀ n, n ∉ ob.fs.map (·.1) → fs0.lookup n = none := by
  obtain ⟨G2, e2, ok⟩ := io.sub w F G r.w
  obtain ⟨vs, h1, h2, h3⟩ := ok.at_ a ob ha
  exact ⟨_, r.g _ _ (e2 _ _ h2), fun n hn => lookup_zip hn⟩
/-- the list p stands there, somebody's field -/
def HoldsL (m : Om) (p : Addr) (l : List Dt) : Prop := ∃ a ob n, m a = some ob ∧ (n, Fv.own p l) ∈ ob.fs
theorem HR.holds (io : ObIn K W) (r : HR W B F G H w) {l : List Dt} (h : HoldsL w.2 p l) : ∃ us, H p = some (.lst us) ∧ DrL K F us l := by
  obtain ⟨a, ob, n, h1, h2⟩ := h
  obtain ⟨G2, e2, ok⟩ := io.sub w F G r.w
  obtain ⟨vs, k1, _⟩ := ok.at_ a ob h1
  obtain ⟨us, q1, q2⟩ := k1.own_at h2
  exact ⟨us, r.g _ _ (e2 _ _ q1), q2⟩
end
end Ck
namespace Ck
open PySem PySem.Spec PyProof.Rows L2
/-! ### objects that change: rules over data -/
/-- the classes Cs have no attribute n of their own -/
def FldOk (K : PySem.W.Frag) (Cs : Addr → Prop) (n : Str) : Prop := ∀ C, Cs C → Cls K C ∧ NoAttr K C n
section
variable {Ω1 : Type} {X : Cx} {W : Wd (Ω1 × Om)} {Cs : Addr → Prop} {n s x : Str} {i j : Nat} {o e b : Expr} {p p1 p2 pos apos cpos spos : Pos} {po pe pb : DE (Ω1 × Om)} {pl : DL (Ω1 × Om)}
/-! ### a list that is a field -/
abbrev DF (Ω : Type) := Sl → Ω → (Addr → List Dt → Ω → Prop) → Prop
theorem HR.da {K : PySem.W.Frag} {W : Wd (Ω1 × Om)} {B F G H : Hp} {w : Ω1 × Om} {q : Addr} {l : List Dt} (io : ObIn K W) (r : HR W B F G H w) (h : HoldsL w.2 q l) : Da K F H (.ref q) (.lst l) :=
  let ⟨us, h1, h2⟩ := r.holds io h
  .inr ⟨q, us, l, rfl, rfl, h1, h2⟩
theorem DrL.snoc {K : PySem.W.Frag} {F : Hp} {l : List Dt} {d : Dt} {us : List V} (h : DrL K F us (l ++ [d])) : ∃ vs v, us = vs ++ [v] ∧ DrL K F vs l ∧ Dr K F v d := by
  induction l generalizing us with
  | nil =>
    cases h with
    | cons h1 h2 =>
      cases h2
      exact ⟨[], _, rfl, .nil, h1⟩
  | cons x l ih =>
    cases h with
    | cons h1 h2 =>
      obtain ⟨vs, v, rfl, h3, h4⟩ := ih h2
      exact ⟨_ :: vs, v, rfl, .cons h1 h3, h4⟩
end
end Ck
namespace Ck
open PySem PySem.Spec PyProof.Rows L2
/-! ### methods, properties, making: receivers by what is known of them -/
section
variable {Ω : Type} {X : Cx} {W : Wd Ω} {er : Er Ω} {U : WX} {B0 F0 : Hp} {S : SpcX Ω} {k j : Nat} {C p : Addr} {n m : Str} {ps : List Str} {o e a b : Expr} {es : List Expr} {pos apos : Pos} {po pe pb : DE Ω} {pa : DL Ω} {R : Ω → Dt → Prop}
/-! properties -/
end
end Ck
namespace Ck
open PySem PySem.Spec PyProof.Rows L2
/-! ### C(..): an object of the world's is made -/
/-- __init__ seen as a def of the new object -/
structure MkO {Ω : Type} (P : Program) (wd : World) (K : PySem.W.Frag) (mg : Str → Option Value) (base : Heap) (k : Nat) (C : Addr) (ps : List Str) (W : Wd Ω) (S : SpcX Ω) : Prop where
  ex : ∃ (f : Addr) (fd : FuncData), FnG P wd K mg base (L2.CX P wd) k f fd ps (spXOf K mg W S) ∧ Mk K C f ∧ Binds K fd ps []
section
variable {Ω : Type} {P : Program} {wd : World} {K : PySem.W.Frag} {mg : Str → Option Value} {base : Heap} {k : Nat} {C : Addr} {qual : Str} {ps N : List Str} {W : Wd Ω} {S : SpcX Ω} {st : Stmt} {B0 F0 : Hp}
theorem MkO.at (c : MkO P wd K mg base k C ps W S) : MkO P wd K mg base k C ps (W.at B0 F0) S := by
  obtain ⟨f, fd, g, h1, h2⟩ := c.ex
  exact ⟨f, fd, g.imp fun _ _ _ _ z => spX_at z, h1, h2⟩
theorem MkO.mk' (h : ∃ (f : Addr) (fd : FuncData), L2.Fun K "__init__" qual st f fd ∧ Mk K C f) (sc : FnScope N ps (defScope st))
    (hbd : ∀ (kV doc pm : Value) (an : Option Addr) (cdv ct : Value) (us : List Value), us.length = ps.length → bindArgs (PySem.W.fnOf "__init__" qual (defArgs st) (defBody st) (defScope st) .none kV doc pm an cdv ct) ⟨us, []⟩ = pure (ps.zip us))
    (len : ∀ ds w C E, S.run ds w C E → ds.length = ps.length) (p : Er Ω → DS Ω)
    (hb : ∀ (f : Addr) (cdv : Value) (A : Around) (outer : List Env) (s : Shared) (H : Hp) (E : XK) (B0 F0 : Hp) (er : Er Ω), A.guards = some [] → Room k (A.deeper (envOfC qual (defScope st) s.heap.objs.size f cdv)) →
      Lk (cxOf (L2.CX P wd) P wd K mg base N qual (defScope st) f cdv A outer s H E) W B0 F0 er (fun cls d _ H' => E cls d H') →
      PDB (cxOf (L2.CX P wd) P wd K mg base N qual (defScope st) f cdv A outer s H E) (W.at B0 F0) (defBody st) (p er))
    (mm : ∀ ds w C E, S.run ds w C E → p (fun x _ w' => E x w') (endD C) (startD N.length ds) w) : MkO P wd K mg base (k + 1) C ps W S := by
  obtain ⟨f, fd, F, hm⟩ := h
  exact ⟨f, fd, FnG.bodyX F sc len fun cdv A outer s H E hgu hr B0 F0 Ex lk => ⟨_, hb f cdv A outer s H E B0 F0 _ hgu hr lk, fun ds w C z => mm ds w C Ex z⟩, hm, F.binds hbd⟩
end
section
variable {Ω1 : Type} {X : Cx} {W : Wd (Ω1 × Om)} {er : Er (Ω1 × Om)} {U : WX} {B0 F0 : Hp} {S : SpcX (Ω1 × Om)} {k j : Nat} {C : Addr} {ps : List Str} {n : Str} {e : Expr} {es : List Expr} {p pos : Pos} {pa : DL (Ω1 × Om)}
theorem SR.make {B F G H : Hp} {w : Ω1 × Om} {σ : L2.St} {sl : Sl} {x dx : Addr} (io : ObIn X.K W) (r : SR X.K W B F G H w σ sl) (hx : H x = none) (hd : H dx = none) (ne : dx ≠ x) :
    SR X.K W B F (upd (upd G dx (.own x)) x (.ins C dx [])) (upd (upd H dx (.own x)) x (.ins C dx [])) (w.1, updM w.2 x ⟨C, dx, []⟩) σ sl := by
  refine r.to (r.hr.make (C := C) io hx hd ne) (Same.refl _) fun i l c us h1 h2 h3 h4 h5 h6 _ => ?_
  have hn1 : c ≠ x := fun q => by rw [q, hx] at h3; cases h3
  have hn2 : c ≠ dx := fun q => by rw [q, hd] at h3; cases h3
  rw [upd_ne hn1, upd_ne hn1, upd_ne hn2, upd_ne hn2]
  exact ⟨h3, h5, h6⟩
end
end Ck
namespace Ck
open PySem PySem.Spec PyProof.Rows L2
/-! ### ranges with a step, texts of the module -/
end Ck
namespace Ck
open PySem PySem.Spec PyProof.Rows L2
/-! ### objects that change: the beginning, facts of the head -/
theorem FldOk.one {K : PySem.W.Frag} {C : Addr} {n : Str} (c : Cls K C) (h : NoAttr K C n) : FldOk K (fun D => D = C) n := fun D e => by
  subst e
  exact ⟨c, h⟩
end Ck
namespace Ck
open PySem PySem.Spec PyProof.Rows L2
/-! ### x.startswith(y), list(range(a, b, c)), {..}[x], a row of stores at once -/
section
variable {Ω : Type} {X : Cx} {W : Wd Ω} {o e e2 e3 : Expr} {po pe pe2 pe3 : DE Ω} {name : Str} {apos cpos pos p p2 pos2 : Pos}
/-! list(range(a, b, c)) -/
end
end Ck
namespace Ck
open PySem PySem.Spec PyProof.Rows L2
/-! ### {'a': 1, ..}[x]: a table of texts, looked up at once -/
/-! ### a, b, c, .. = e1, e2, e3, ..: things and lists of one's own mixed -/
inductive Mx where
  | d (x : Dt) | o (l : List Dt)
def MxL (K : PySem.W.Frag) (F G H : Hp) (σ : L2.St) (sl : Sl) : Hp → List V → List Mx → Prop
  | _, [], [] => True
  | B, v :: vs, .d d :: ms => Dr K F v d ∧ MxL K F G H σ sl B vs ms
  | B, v :: vs, .o l :: ms => ∃ q us, v = .ref q ∧ B q = none ∧ NoOwn σ sl q ∧ H q = some (.lst us) ∧ F q = none ∧ G q = none ∧ DrL K F us l ∧ MxL K F G H σ sl (upd B q (.lst us)) vs ms
  | _, _, _ => False
abbrev DMx (Ω : Type) := Sl → Ω → (List Mx → Ω → Prop) → Prop
def setMx : List Nat → List Mx → Sl → Option Sl
  | [], [], sl => some sl
  | i :: is, .d d :: ms, sl => setMx is ms (sl.set i (some (.dat d)))
  | i :: is, .o l :: ms, sl => setMx is ms (sl.set i (some (.own l)))
  | _, _, _ => none
section
variable {Ω : Type} {X : Cx} {W : Wd Ω} {K : PySem.W.Frag} {e : Expr} {es ts : List Expr} {pe : DE Ω} {pl : DL Ω} {pm : DMx Ω} {pos p p2 : Pos}
def wMN : DMx Ω := fun _ w C => C [] w
def wMD (pe : DE Ω) (pm : DMx Ω) : DMx Ω := fun sl w C => pe sl w fun d fl w1 => fl = .cl ∧ pm sl w1 fun l w2 => C (.d d :: l) w2
def wMO (pl : DL Ω) (pm : DMx Ω) : DMx Ω := fun sl w C => pl sl w fun l w1 => pm sl w1 fun r w2 => C (.o l :: r) w2
theorem MxL.len : ∀ {B F G H : Hp} {σ : L2.St} {sl : Sl} {vs : List V} {ms : List Mx}, MxL K F G H σ sl B vs ms → vs.length = ms.length
  | _, _, _, _, _, _, [], [], _ => rfl
  | _, _, _, _, _, _, _ :: vs, .d _ :: ms, h => by rw [List.length_cons, List.length_cons, MxL.len h.2]
  | _, _, _, _, _, _, _ :: vs, .o _ :: ms, ⟨_, _, _, _, _, _, _, _, _, h⟩ => by rw [List.length_cons, List.length_cons, MxL.len h]
theorem MxL.more {F G H : Hp} {σ : L2.St} {sl : Sl} {t : Addr} {u : HO} (ht : H t = none) : ∀ {B : Hp} {vs : List V} {ms : List Mx}, MxL K F G H σ sl B vs ms → MxL K F G (upd H t u) σ sl B vs ms
  | _, [], [], _ => trivial
  | _, _ :: _, .d _ :: _, h => ⟨h.1, MxL.more ht h.2⟩
  | _, _ :: _, .o _ :: _, ⟨q, us, h0, h1, h2, h3, h4, h5, h6, h7⟩ => ⟨q, us, h0, h1, h2, by rw [upd_ne (ne_of_none h3 ht)]; exact h3, h4, h5, h6, MxL.more ht h7⟩
  | _, [], _ :: _, h => by cases ‹Mx› <;> exact h.elim
  | _, _ :: _, [], h => h.elim
def wMx (is : List Nat) (pm : DMx Ω) : DS Ω := fun D sl w => pm sl w fun ms w' => ms.length ≤ sizeLine ∧ ∃ sl', setMx is ms sl = some sl' ∧ D.nx sl' w'
end
end Ck
namespace Ck
open PySem PySem.Spec PyProof.Rows L2
/-! ### a dict with a text key that is looked at by isinstance alone: its place is known -/
def PinW : Wd (List Addr) := ⟨fun ps F _ => ∀ a ∈ ps, ∃ kvs, F a = some (.dK kvs), fun _ => True, fun _ _ _ _ e h a ha => let ⟨k, q⟩ := h a ha; ⟨k, e _ _ q⟩, fun _ _ _ h => h⟩
structure PinIn {Ω0 : Type} (W : Wd ((Ω0 × List Addr) × Om)) : Prop where
  get : ∀ (w : (Ω0 × List Addr) × Om) (F G : Hp), W.ok w F G → ∀ a ∈ w.1.2, ∃ kvs, F a = some (.dK kvs)
  add : ∀ (w : (Ω0 × List Addr) × Om) (F G : Hp) (a : Addr) (kvs : List (Key × V)), W.ok w F G → F a = some (.dK kvs) → W.ok ((w.1.1, a :: w.1.2), w.2) F G
theorem PinIn.sep {Ω0 : Type} {W0 : Wd Ω0} {K : PySem.W.Frag} : PinIn ((W0.sep PinW).sep (ObW K)) := by
  refine ⟨fun w F G ⟨G1, G2, ⟨G3, G4, h3, h4, _⟩, _⟩ => h4, fun w F G a kvs ⟨G1, G2, ⟨G3, G4, h3, h4, h5⟩, q⟩ e => ⟨G1, G2, ⟨G3, G4, h3, fun b hb => ?_, h5⟩, q⟩⟩
  rcases List.mem_cons.mp hb with rfl | hb
  · exact ⟨kvs, e⟩
  · exact h4 b hb
theorem PinIn.at {Ω0 : Type} {W : Wd ((Ω0 × List Addr) × Om)} {B0 F0 : Hp} (h : PinIn W) : PinIn (W.at B0 F0) := ⟨fun w F G z => h.get w F G z.1, fun w F G a k z e => ⟨h.add w F G a k z.1 e, z.2⟩⟩
section
variable {Ω0 : Type} {X : Cx} {W : Wd ((Ω0 × List Addr) × Om)} {e v : Expr} {pe : DE ((Ω0 × List Addr) × Om)} {pos : Pos}
theorem SR.world {Ω : Type} {W : Wd Ω} {K : PySem.W.Frag} {B F G H : Hp} {w w' : Ω} {σ : L2.St} {sl : Sl} (r : SR K W B F G H w σ sl) (h : W.ok w' F G) : SR K W B F G H w' σ sl := ⟨⟨r.hr.b, r.hr.f, r.hr.g, r.hr.d, h, r.hr.k⟩, r.len, r.s, r.o⟩
end
end Ck
namespace Ck
open PySem PySem.Spec PyProof.Rows L2
/-! ### x[i] = v by an own __setitem__ -/
end Ck
namespace Ck
open PySem PySem.Spec PyProof.Rows L2
/-! ### lists that stand by themselves and are changed by who is handed them: a world of them -/
abbrev Lm := Addr → Option (List Dt)
def updL (m : Lm) (a : Addr) (l : List Dt) : Lm := fun b => if b = a then some l else m b
theorem updL_same {m : Lm} {a : Addr} {l : List Dt} : updL m a l a = some l := by unfold updL; rw [if_pos rfl]
theorem updL_ne {m : Lm} {a b : Addr} {l : List Dt} (h : b ≠ a) : updL m a l b = m b := by unfold updL; rw [if_neg h]
def LsOk (K : PySem.W.Frag) (m : Lm) (F G : Hp) : Prop := ∀ a l, m a = some l → ∃ us, G a = some (.lst us) ∧ DrL K F us l
def LsW (K : PySem.W.Frag) : Wd Lm := ⟨fun m F G => LsOk K m F G, fun _ => True, fun _ _ _ _ e h a l q => let ⟨us, h1, h2⟩ := h a l q; ⟨us, h1, h2.mono e⟩, fun _ _ _ h => h⟩
theorem LsOk.set {K : PySem.W.Frag} {m : Lm} {F G : Hp} {p : Addr} {us : List V} {l : List Dt} (h : LsOk K m F G) (hd : DrL K F us l) : LsOk K (updL m p l) F (upd G p (.lst us)) := fun a l' q => by
  by_cases e : a = p
  · subst e
    rw [updL_same] at q
    cases q
    exact ⟨us, upd_same, hd⟩
  · rw [updL_ne e] at q
    rw [upd_ne e]
    exact h a l' q
/-- a world that holds a part of some kind -/
structure CompIn {Ω M : Type} (W : Wd Ω) (get : Ω → M) (put : Ω → M → Ω) (Ok : M → Hp → Hp → Prop) : Prop where
  sub : ∀ (w : Ω) (F G : Hp), W.ok w F G → ∃ G2, Same G2 G ∧ Ok (get w) F G2
  step : ∀ (w : Ω) (F G G' : Hp) (m' : M), W.ok w F G → (∀ G2, Same G2 G → Ok (get w) F G2 → ∃ G2', Ok m' F G2' ∧ Same G2' G' ∧ ∀ a o, G a = some o → (G2 a = none ∨ IsTp o) → G' a = some o ∧ (G2' a = none ∨ IsTp o)) → W.ok (put w m') F G'
abbrev LsIn {Ω0 : Type} (K : PySem.W.Frag) (W : Wd ((Ω0 × Lm) × Om)) : Prop := CompIn W (fun w => w.1.2) (fun w m => ((w.1.1, m), w.2)) (LsOk K)
theorem CompIn.at {Ω M : Type} {W : Wd Ω} {get : Ω → M} {put : Ω → M → Ω} {Ok : M → Hp → Hp → Prop} {B0 F0 : Hp} (h : CompIn W get put Ok) : CompIn (W.at B0 F0) get put Ok :=
  ⟨fun w F G z => h.sub w F G z.1, fun w F G G' m' z k => ⟨h.step w F G G' m' z.1 k, z.2⟩⟩
theorem LsIn.sep {Ω0 : Type} {W0 : Wd Ω0} {K : PySem.W.Frag} : LsIn K ((W0.sep (LsW K)).sep (ObW K)) := by
  refine ⟨fun w F G ⟨G1, G2, ⟨G3, G4, h3, h4, e3, e4, d⟩, h2, e1, e2, hd⟩ => ⟨G4, e4.trans e1, h4⟩, fun w F G G' m' ⟨G1, G2, ⟨G3, G4, h3, h4, e3, e4, d⟩, h2, e1, e2, hd⟩ k => ?_⟩
  obtain ⟨G4', k1, k2, k3⟩ := k G4 (e4.trans e1) h4
  have k3' : ∀ a o, G3 a = some o → G' a = some o ∧ (G4' a = none ∨ IsTp o) := fun a o h => k3 a o (e1 _ _ (e3 _ _ h)) (d a o h)
  have k2' : ∀ a o, G2 a = some o → G' a = some o ∧ (G4' a = none ∨ IsTp o) := fun a o h => by
    refine k3 a o (e2 _ _ h) ?_
    cases q : G4 a with
    | none => exact .inl rfl
    | some u =>
      rcases hd a u (e4 _ _ q) with z | z
      · rw [h] at z; cases z
      · have h1 := e1 _ _ (e4 _ _ q)
        rw [e2 _ _ h] at h1
        cases h1
        exact .inr z
  refine ⟨joinH G3 G4', G2, ⟨G3, G4', h3, k1, fun a o h => ?_, fun a o h => ?_, fun a o h => (k3' a o h).2⟩, h2, fun a o h => ?_, fun a o h => (k2' a o h).1, fun a o h => ?_⟩
  · unfold joinH
    rw [h]
  · unfold joinH
    cases q : G3 a with
    | none => exact h
    | some u =>
      obtain ⟨z1, _⟩ := k3' a u q
      have z2 := k2 _ _ h
      rw [z1] at z2
      exact z2
  · rcases joinH_eq h with q | ⟨_, q⟩
    · exact (k3' a o q).1
    · exact k2 _ _ q
  · cases q : G2 a with
    | none => exact .inl rfl
    | some u =>
      obtain ⟨z1, z2⟩ := k2' a u q
      rcases joinH_eq h with g | ⟨_, g⟩
      · rcases hd a o (e3 _ _ g) with y | y
        · rw [q] at y; cases y
        · exact .inr y
      · have y := k2 _ _ g
        rw [z1] at y
        cases y
        rcases z2 with z2 | z2
        · rw [g] at z2; cases z2
        · exact .inr z2
end Ck
namespace Ck
open PySem PySem.Spec PyProof.Rows L2
/-! ### free lists: the heap's steps -/
section
variable {Ω M : Type} {K : PySem.W.Frag} {W : Wd Ω} {get : Ω → M} {put : Ω → M → Ω} {Ok : M → Hp → Hp → Prop} {B F G H : Hp} {w : Ω} {m' : M} {σ : L2.St} {sl : Sl} {a p : Addr} {o o' op : HO}
theorem HR.noB' (r : HR W B F G H w) (h : G a = some o) (ht : ¬ IsTp o) : B a = none := by
  cases q : B a with
  | none => rfl
  | some u =>
    obtain ⟨q1, _, q3⟩ := r.b a u q
    have := r.g _ _ h
    rw [q1] at this
    cases this
    rcases q3 with q3 | q3
    · rw [h] at q3; cases q3
    · exact absurd q3 ht
theorem HR.noF' (r : HR W B F G H w) (h : G a = some o) (ht : ¬ IsTp o) : F a = none := by
  cases q : F a with
  | none => rfl
  | some u =>
    rcases r.d a u q with z | z
    · rw [h] at z; cases z
    · have h1 := r.f _ _ q
      have h2 := r.g _ _ h
      rw [h1] at h2
      cases h2
      exact absurd z ht
theorem HR.cset (io : CompIn W get put Ok) (r : HR W B F G H w) (hG : G a = some o) (ht : ¬ IsTp o) (key : ∀ G2, Same G2 G → Ok (get w) F G2 → G2 a = some o ∧ Ok m' F (upd G2 a o')) : HR W B F (upd G a o') (upd H a o') (put w m') := by
  have hB := r.noB' hG ht
  have hF := r.noF' hG ht
  refine ⟨fun b x e => ?_, fun b x e => ?_, fun b x e => ?_, fun b x e => ?_, io.step w F G _ m' r.w fun G2 e2 ok => ⟨upd G2 a o', (key G2 e2 ok).2, fun b x e => ?_, fun b x e z => ?_⟩, r.k⟩
  · have hn : b ≠ a := ne_of_none e hB
    rw [upd_ne hn, upd_ne hn]
    exact r.b b x e
  · rw [upd_ne (ne_of_none e hF)]
    exact r.f b x e
  · by_cases q : b = a
    · subst q
      rw [upd_same] at e ⊢
      exact e
    · rw [upd_ne q] at e ⊢
      exact r.g b x e
  · rw [upd_ne (ne_of_none e hF)]
    exact r.d b x e
  · by_cases q : b = a
    · subst q
      rw [upd_same] at e ⊢
      exact e
    · rw [upd_ne q] at e ⊢
      exact e2 b x e
  · have hn : b ≠ a := fun q => by
      subst q
      rcases z with z | z
      · rw [(key G2 e2 ok).1] at z; cases z
      · rw [hG] at e; cases e; exact ht z
    rw [upd_ne hn, upd_ne hn]
    exact ⟨e, z⟩
theorem SR.cset (io : CompIn W get put Ok) (r : SR K W B F G H w σ sl) (hG : G a = some o) (ht : ¬ IsTp o) (key : ∀ G2, Same G2 G → Ok (get w) F G2 → G2 a = some o ∧ Ok m' F (upd G2 a o')) : SR K W B F (upd G a o') (upd H a o') (put w m') σ sl := by
  refine r.to (r.hr.cset io hG ht key) (Same.refl _) fun i l c us h1 h2 h3 h4 h5 h6 _ => ?_
  have hn : c ≠ a := fun q => by rw [q, hG] at h6; cases h6
  rw [upd_ne hn, upd_ne hn]
  exact ⟨h3, h5, h6⟩
/-- a thing that was one's own becomes the world's -/
theorem HR.cnew (io : CompIn W get put Ok) (r : HR W B F G H w) (hp : H p = some op) (ht : ¬ IsTp op) (pB : B p = none) (pF : F p = none) (pG : G p = none) (key : ∀ G2, Same G2 G → Ok (get w) F G2 → Ok m' F (upd G2 p op)) : HR W B F (upd G p op) H (put w m') := by
  refine ⟨fun b x e => ?_, fun b x e => ?_, fun b x e => ?_, fun b x e => ?_, io.step w F G _ m' r.w fun G2 e2 ok => ⟨upd G2 p op, key G2 e2 ok, fun b x e => ?_, fun b x e z => ?_⟩, r.k⟩
  · have hn : b ≠ p := ne_of_none e pB
    rw [upd_ne hn]
    exact r.b b x e
  · exact r.f b x e
  · by_cases q : b = p
    · subst q
      rw [upd_same] at e
      cases e
      exact hp
    · rw [upd_ne q] at e
      exact r.g b x e
  · rw [upd_ne (ne_of_none e pF)]
    exact r.d b x e
  · by_cases q : b = p
    · subst q
      rw [upd_same] at e ⊢
      exact e
    · rw [upd_ne q] at e ⊢
      exact e2 b x e
  · have hn : b ≠ p := ne_of_none e pG
    rw [upd_ne hn, upd_ne hn]
    exact ⟨e, z⟩
theorem SR.cnew (io : CompIn W get put Ok) (r : SR K W B F G H w σ sl) (hp : H p = some op) (ht : ¬ IsTp op) (pB : B p = none) (pF : F p = none) (pG : G p = none) (hn : NoOwn σ sl p) (key : ∀ G2, Same G2 G → Ok (get w) F G2 → Ok m' F (upd G2 p op)) : SR K W B F (upd G p op) H (put w m') σ sl := by
  refine r.to (r.hr.cnew io hp ht pB pF pG key) (Same.refl _) fun i l c us h1 h2 h3 h4 h5 h6 _ => ?_
  have hc : c ≠ p := fun q => by rw [q] at h2; exact hn i l h1 h2
  rw [upd_ne hc]
  exact ⟨h3, h5, h6⟩
end
end Ck
namespace Ck
open PySem PySem.Spec PyProof.Rows L2
/-! ### free lists: rules over data -/
section
variable {Ω0 : Type} {X : Cx} {W : Wd ((Ω0 × Lm) × Om)} {n s x : Str} {i j : Nat} {o e b : Expr} {p p1 p2 pos apos cpos spos : Pos} {po pe pb : DE ((Ω0 × Lm) × Om)} {pl : DL ((Ω0 × Lm) × Om)}
abbrev DFl (Ω : Type) := Sl → Ω → (Addr → List Dt → Ω → Prop) → Prop
end
end Ck
namespace Ck
open PySem PySem.Spec PyProof.Rows L2
/-! ### x[i] of lists that change; extend of a free list -/
end Ck
namespace Ck
open PySem PySem.Spec PyProof.Rows L2
/-! ### for k, v in d.items(), d a dict that is changed no more, its keys tuples -/
/-! ### .. over data: a tuple that stands may become known before the new one -/
def Ext2 (K : PySem.W.Frag) (F H F' H' : Hp) (v : V) (d : Dt) : Prop := ∃ F2, (F2 = F ∨ ∃ p o, H p = some o ∧ IsTp o ∧ F p = none ∧ F2 = upd F p o) ∧ Ext K F2 H F' H' v d
theorem Ext2.use {Ω : Type} {K : PySem.W.Frag} {W : Wd Ω} {B F F' G H H' : Hp} {w : Ω} {σ : L2.St} {sl : Sl} {v : V} {d : Dt} (r : SR K W B F G H w σ sl) (x : Ext2 K F H F' H' v d) : SR K W B F' G H' w σ sl ∧ Same F F' ∧ Dr K F' v d := by
  obtain ⟨F2, rfl | ⟨p, o, hp, ht, hF, rfl⟩, x⟩ := x
  · exact x.use r
  · obtain ⟨r2, e2, d2⟩ := x.use (r.tupF hp ht hF)
    exact ⟨r2, (sameUpd hF).trans e2, d2⟩
end Ck
namespace Ck
open PySem PySem.Spec PyProof.Rows L2
/-! ### note(table, key, e, y): table a dict of the caller's own that is changed there -/
end Ck
namespace Ck
open PySem PySem.Spec PyProof.Rows L2
/-! ### {k: v}, k a tuple -/
theorem wp_dict_one {prog : Program} {w : World} {A : Around} {E : Value → Shared → Prop} {s : Shared} {env : Env} {k v : Expr} {pos : Pos} {Q : Value → Shared → Prop}
    (h : wpAny (model prog w) A (eval k env) (fun kv s1 => wpAny (model prog w) A (eval v env) (fun vv s2 => wpAny (model prog w) A (dictSet s.heap.objs.size kv vv) (fun _ s3 => Q (.ref s.heap.objs.size) s3) E s2) E s1) E { s with heap := s.heap.push { cls := .type "dict", data := .dict #[] } }) :
    wpAny (model prog w) A (eval (.Dict [some k] [v] pos) env) Q E s := by
  rw [arm_eval_Dict, zip_pairTrees [some k] [v] env pos rfl rfl, dictDisplay_pairs (pairTrees [some k] [v] env pos) (fun z => nomatch z) (by show 1 < 17; decide)]
  refine wpAny_bind (wpAny_standAt (wpAny_bind ?_))
  unfold subDict
  refine wpAny_bind (wpAny_alloc (wpAny_bind (wpAny_holding ?_)))
  rw [if_pos (show (pairTrees [some k] [v] env pos).length ≤ 15 from by show 1 ≤ 15; decide)]
  refine wpAny_bind (pairTrees_cons_walk (wpAny_mono h (fun kv s1 h1 => wpAny_mono h1 (fun vv s2 h2 => pairTrees_nil_walk ?_) fun _ _ e => e) fun _ _ e => e))
  refine wpAny_holding ?_
  rw [List.forIn_cons]
  refine wpAny_bind (wpAny_bind ?_)
  show wpAny _ _ (dictSet s.heap.objs.size kv vv >>= fun _ => pure (ForInStep.yield PUnit.unit)) _ _ _
  refine wpAny_bind (wpAny_mono h2 (fun _ s3 h3 => wpAny_pure ?_) fun _ _ e => e)
  exact wpAny_pure (wpAny_pure (wpAny_pure (wpAny_pure h3)))
/-! over data -/
end Ck
namespace Ck
open PySem PySem.Spec PyProof.Rows L2
/-! ### dicts whose keys are nested tuples: the hand layer -/
mutual
def nkD : Dt → Option NestedKey
  | .non => some .none
  | .bl b => some (.num (if b = true then 1 else 0))
  | .int i => some (.num i)
  | .str x => some (.text x)
  | .tup l => (nkL l).map .tup
  | _ => none
def nkL : List Dt → Option (List NestedKey)
  | [] => some []
  | d :: l => (nkD d).bind fun k => (nkL l).map fun r => k :: r
end
/-- what a key is: a tuple of ints, texts, None and such tuples -/
def keyN (d : Dt) : Option NestedKey := match d with
  | .tup l => (nkL l).bind fun ks => if (NestedKey.tup ks).depth ≤ 8 then some (.tup ks) else none
  | _ => none
section
variable {X : Cx} {pins : List (Addr × Obj)} {σ : L2.St} {H : Hp} {s : Shared}
mutual
theorem Dr.nk (I : Inv X pins σ H s) : ∀ (d : Dt) {v : V} {u : Value} {k : NestedKey}, Dr X.K H v d → nkD d = some k → RelV v u → NestedIs s.heap k u
  | .non, _, _, _, h, e, r => by
    simp only [nkD, Option.some.injEq] at e
    subst e
    cases h
    cases (show _ = Value.none from r)
    exact .none
  | .bl b, _, _, _, h, e, r => by
    simp only [nkD, Option.some.injEq] at e
    subst e
    cases h
    cases (show _ = Value.bool b from r)
    exact .bool rfl
  | .int i, _, _, _, h, e, r => by
    simp only [nkD, Option.some.injEq] at e
    subst e
    cases h
    obtain ⟨t, rfl⟩ := r
    exact .int i t
  | .str x, _, _, _, h, e, r => by
    simp only [nkD, Option.some.injEq] at e
    subst e
    cases h
    obtain ⟨t, rfl⟩ := r
    exact .text x t
  | .tup l, _, _, _, h, e, r => by
    simp only [nkD, Option.map_eq_some_iff] at e
    obtain ⟨ks, e1, rfl⟩ := e
    cases h with
    | tup hs ha =>
      cases r
      obtain ⟨its, rv, ⟨o, ho, hc, n, hd⟩, _⟩ := I.tuple (SqT.of hs)
      exact .tup ho hc hd (DrL.nk I l ha e1 (by simpa using rv))
    | tupK hs ha _ =>
      cases r
      obtain ⟨its, rv, ⟨o, ho, hc, n, hd⟩, _⟩ := I.tuple hs.t
      exact .tup ho hc hd (DrL.nk I l ha e1 (by simpa using rv))
  | .lst _, _, _, _, _, e, _ => by simp only [nkD] at e; cases e
  | .emp, _, _, _, _, e, _ => by simp only [nkD] at e; cases e
  | .opq _, _, _, _, _, e, _ => by simp only [nkD] at e; cases e
  | .tpx _, _, _, _, _, e, _ => by simp only [nkD] at e; cases e
  | .dic _ _, _, _, _, _, e, _ => by simp only [nkD] at e; cases e
  | .ins _ _ _, _, _, _, _, e, _ => by simp only [nkD] at e; cases e
theorem DrL.nk (I : Inv X pins σ H s) : ∀ (l : List Dt) {vs : List V} {us : List Value} {ks : List NestedKey}, DrL X.K H vs l → nkL l = some ks → Vals vs us → NestedAll s.heap ks us
  | [], _, _, _, h, e, r => by
    simp only [nkL, Option.some.injEq] at e
    subst e
    cases h
    cases r
    exact .nil
  | d :: l, _, _, _, h, e, r => by
    simp only [nkL, Option.bind_eq_some_iff, Option.map_eq_some_iff] at e
    obtain ⟨k, e1, ks, e2, rfl⟩ := e
    cases h with
    | cons h1 h2 =>
      cases r with
      | cons r1 r2 => exact .cons (Dr.nk I d h1 e1 r1) (DrL.nk I l h2 e2 r2)
end
/-- the tuple at b is the key k -/
def KyOk (K : PySem.W.Frag) (H : Hp) (b : Addr) (k : NestedKey) : Prop := ∃ kd, Dr K H (.ref b) kd ∧ keyN kd = some k
theorem KyOk.mono {K : PySem.W.Frag} {F F' : Hp} {b : Addr} {k : NestedKey} (e : Same F F') (h : KyOk K F b k) : KyOk K F' b k := let ⟨kd, h1, h2⟩ := h; ⟨kd, h1.mono e, h2⟩
theorem KyOk.is {b : Addr} {k : NestedKey} (h : KyOk X.K H b k) (I : Inv X pins σ H s) : (nestedKind X.prog X.w).is s.heap k b := by
  obtain ⟨kd, h1, h2⟩ := h
  cases kd with
  | tup l =>
    simp only [keyN, Option.bind_eq_some_iff] at h2
    obtain ⟨ks, e1, e2⟩ := h2
    split at e2
    · rename_i hd
      cases e2
      exact ⟨Dr.nk I (.tup l) h1 (by simp only [nkD, e1]; rfl) rfl, hd⟩
    · cases e2
  | _ => simp only [keyN] at h2; cases h2
end
abbrev NE := NestedKey × Addr × V
/-- entries as the machine has them -/
abbrev NV : List NE → List (NestedKey × Addr × Value) → Prop := Paired fun p q => p.1 = q.1 ∧ p.2.1 = q.2.1 ∧ RelV p.2.2 q.2.2
def DkP (P : Program) (w : World) (a : Addr) (us : List NE) (h : Heap) : Prop :=
  us.length ≤ sizeLine ∧ (a == sysModules) = false ∧ ∃ xs : List (NestedKey × Addr × Value), NV us xs ∧ ∃ o es ep, h.get? a = some o ∧ o.ExactDict ∧ o.data = .dict es ep ∧ es.toList = xs.map (entryOfKey (nestedKind P w)) ∧ (xs.map (·.1)).Nodup
abbrev DkO (P : Program) (w : World) (a : Addr) (us : List NE) : HO := .ext (DkP P w a us)
theorem DkP.stay {P : Program} {w : World} {a : Addr} {us : List NE} : ∀ h1 h2 : Heap, DkP P w a us h1 → (∀ o, h1.get? a = some o → h2.get? a = some o) → DkP P w a us h2 := by
  rintro h1 h2 ⟨z1, z2, xs, z3, o, es, ep, z4, z5⟩ k
  exact ⟨z1, z2, xs, z3, o, es, ep, k _ z4, z5⟩
theorem DkP.ok {P : Program} {w : World} {a : Addr} {us : List NE} {H : Hp} {h : Heap} (z : DkP P w a us h) : ObjOk P w H h a (DkO P w a us) := by
  obtain ⟨_, _, xs, _, o, es, ep, z4, _⟩ := id z
  exact ⟨z, ⟨o, z4⟩, DkP.stay⟩
def UsOk (K : PySem.W.Frag) (H : Hp) (us : List NE) : Prop := ∀ x ∈ us, KyOk K H x.2.1 x.1
theorem NV.is {X : Cx} {pins : List (Addr × Obj)} {σ : L2.St} {H : Hp} {s : Shared} (I : Inv X pins σ H s) : ∀ {us : List NE} {xs : List (NestedKey × Addr × Value)}, NV us xs → UsOk X.K H us → ∀ x ∈ xs, (nestedKind X.prog X.w).is s.heap x.1 x.2.1 := by
  intro us xs r
  induction r with
  | nil => intro _ x hx; exact nomatch hx
  | @cons p q ps qs h t ih =>
    intro ok x hx
    rcases List.mem_cons.mp hx with rfl | hx
    · rw [← h.1, ← h.2.1]
      exact (ok p List.mem_cons_self).is I
    · exact ih (fun y hy => ok y (List.mem_cons_of_mem _ hy)) x hx
def valU (us : List NE) (k : NestedKey) : Option V := (us.find? fun x => decide (x.1 = k)).map (·.2.2)
def putU (us : List NE) (k : NestedKey) (b : Addr) (v : V) : List NE := if (valU us k).isSome = true then us.map (fun x => if x.1 = k then (x.1, x.2.1, v) else x) else us ++ [(k, b, v)]
theorem length_putU (us : List NE) (k : NestedKey) (b : Addr) (v : V) : (putU us k b v).length ≤ us.length + 1 := by
  unfold putU
  split
  · rw [List.length_map]; omega
  · rw [List.length_append, List.length_cons, List.length_nil]; omega
theorem NV.val {us : List NE} {xs : List (NestedKey × Addr × Value)} (r : NV us xs) (k : NestedKey) : RelO (valU us k) ((atKey xs k).map (·.2)) := by
  induction r with
  | nil => exact True.intro
  | @cons p q ps qs h t ih =>
    obtain ⟨h1, _, h2⟩ := h
    by_cases e : p.1 = k
    · have e' : q.1 = k := h1.symm.trans e
      have b1 : valU (p :: ps) k = some p.2.2 := by simp [valU, List.find?_cons, e]
      have b : atKey (q :: qs) k = some q.2 := by simp [atKey, List.find?_cons, e']
      rw [b1, b]; exact h2
    · have e' : ¬ q.1 = k := fun z => e (h1.trans z)
      have b1 : valU (p :: ps) k = valU ps k := by simp [valU, List.find?_cons, e]
      have b : atKey (q :: qs) k = atKey qs k := by simp [atKey, List.find?_cons, e']
      rw [b1, b]; exact ih
theorem NV.repl {us : List NE} {xs : List (NestedKey × Addr × Value)} (r : NV us xs) (k : NestedKey) {y : V} {u : Value} (ry : RelV y u) : NV (us.map fun x => if x.1 = k then (x.1, x.2.1, y) else x) (xs.map (putAt k u)) := by
  induction r with
  | nil => exact .nil
  | @cons p q ps qs h t ih =>
    rw [List.map_cons, List.map_cons]
    refine .cons ?_ ih
    obtain ⟨h1, h2, h3⟩ := h
    unfold putAt
    by_cases e : p.1 = k
    · rw [if_pos e, if_pos (h1.symm.trans e)]; exact ⟨h1, h2, ry⟩
    · rw [if_neg e, if_neg (fun z => e (h1.trans z))]; exact ⟨h1, h2, h3⟩
theorem NV.put {us : List NE} {xs : List (NestedKey × Addr × Value)} (r : NV us xs) (k : NestedKey) {b : Addr} {y : V} {u : Value} (ry : RelV y u) : NV (putU us k b y) (storedH xs k b u) := by
  have e : (valU us k).isSome = (atKey xs k).isSome := by rw [(r.val k).isSome_eq, Option.isSome_map]
  unfold putU storedH
  rw [e]
  by_cases q : (atKey xs k).isSome = true
  · rw [if_pos q, if_pos q]; exact r.repl k ry
  · rw [if_neg q, if_neg q]; exact Paired.snoc r ⟨rfl, rfl, ry⟩
section
variable {X : Cx} {pins : List (Addr × Obj)} {σ : L2.St} {H : Hp} {s : Shared} {a : Addr} {us : List NE}
theorem dn_rd (I : Inv X pins σ H s) (e : Rd H a (DkO X.prog X.w a us)) (ok : UsOk X.K H us) : us.length ≤ sizeLine ∧ (a == sysModules) = false ∧ ∃ xs, NV us xs ∧ s.heap.DictOfH (nestedKind X.prog X.w) a xs := by
  obtain ⟨⟨z, y, xs, r, o, es, ep, h1, h2, h3, h4, h5⟩, _⟩ := (show ObjOk X.prog X.w H s.heap a (DkO X.prog X.w a us) from rd_of I.hok e)
  exact ⟨z, y, xs, r, o, es, ep, h1, h2, h3, h4, r.is I ok, h5⟩
/-- the dict that may be read at a as us -/
structure DnAt (X : Cx) (H : Hp) (a : Addr) (us : List NE) : Prop where
  rd : Rd H a (DkO X.prog X.w a us)
  ok : UsOk X.K H us
theorem DnAt.ty (d : DnAt X H a us) (I : Inv X pins σ H s) : s.TypeIs (.ref a) "dict" := let ⟨_, _, _, _, dd⟩ := dn_rd I d.rd d.ok; dd.typeIs
theorem DnAt.noDict (d : DnAt X H a us) (I : Inv X pins σ H s) : ∀ b, Value.ref a = .ref b → ∃ ob, s.heap.get? b = some ob ∧ ob.dict = none := fun b q => by
  cases q
  obtain ⟨_, _, xs, _, ob, _, _, h1, h2, _⟩ := dn_rd I d.rd d.ok
  exact ⟨ob, h1, h2.2.1⟩
theorem room_nk {A : Around} (hu : A.units + 32 < cLine) : (nestedKind X.prog X.w).room A.in1 := by
  show A.units + 1 + 8 < cLine
  omega
def tNGet (X : Cx) (td ty : TE) : TE := fun σ H Q => td σ H fun x H1 => ty σ H1 fun y H2 => ∃ a us b k v, x = .ref a ∧ DnAt X H2 a us ∧ y = .ref b ∧ KyOk X.K H2 b k ∧ valU us k = some v ∧ Q v H2
def tNIn (X : Cx) (ng : Bool) (ty td : TE) : TE := fun σ H Q => ty σ H fun y H1 => td σ H1 fun x H2 => ∃ a us b k, x = .ref a ∧ DnAt X H2 a us ∧ y = .ref b ∧ KyOk X.K H2 b k ∧ Q (.bl (ng != (valU us k).isSome)) H2
def tNGetD (X : Cx) (td ty tx : TE) : TE := fun σ H Q => td σ H fun x H1 => ∃ a, x = .ref a ∧ (∃ us, DnAt X H1 a us) ∧ ty σ H1 fun y H2 => tx σ H2 fun z H3 => ∃ us b k, DnAt X H3 a us ∧ y = .ref b ∧ KyOk X.K H3 b k ∧ Q ((valU us k).getD z) H3
def sNPut (X : Cx) (td ty tv : TE) : TS := fun D σ H => tv σ H fun v H1 => td σ H1 fun x H2 => ty σ H2 fun y H3 => ∃ a us b k, x = .ref a ∧ H3 a = some (DkO X.prog X.w a us) ∧ UsOk X.K H3 us ∧ y = .ref b ∧ KyOk X.K H3 b k ∧ us.length < sizeLine ∧ D.nx σ (upd H3 a (DkO X.prog X.w a (putU us k b v)))
def tNNew (X : Cx) : TE := fun _ H Q => ∀ p, H p = none → Q (.ref p) (upd H p (DkO X.prog X.w p []))
section
variable {o i e value : Expr} {pos pos' : Pos} {td ty tv tx : TE}
theorem pe_nget (hu : X.A.units + 64 < cLine) (ho : PE X o td) (hi : PE X i ty) (hs : NoSl i) : PE X (.Subscript o i pos) (tNGet X td ty) := by
  refine ⟨fun pins s σ H Q I h => ?_⟩
  refine subD_of PySem.F.slot_dict_getitem.lookup hs (thn (ho.run pins s σ H _ I h) fun u s1 ⟨x, H1, I1, rx, q1⟩ => thn (hi.run pins s1 σ H1 _ I1 q1) fun iv s2 ⟨y, H2, I2, ry, a, us, b, k, v, ex, g, ey, gk, l, q2⟩ => ?_)
  subst ex ey
  obtain rfl : u = Value.ref a := rx
  obtain rfl : iv = Value.ref b := ry
  refine ⟨g.ty I2, ?_⟩
  obtain ⟨z, hd, xs, rel, dd⟩ := dn_rd I2 g.rd g.ok
  obtain ⟨w', hw, rw'⟩ := RelO.some_of (v := v) (o := (atKey xs k).map (·.2)) (by rw [← l]; exact rel.val k)
  obtain ⟨p, hp, hp2⟩ := Option.map_eq_some_iff.mp hw
  refine wpAny_getItem_heap (room_nk (by omega)) (gk.is I2) dd hp ?_
  rw [hp2]
  exact ⟨v, H2, I2.tok _, rw', q2⟩
theorem pc_nin (hu : X.A.units + 64 < cLine) (hi : PE X i ty) (ho : PE X o td) : PC X .In i o (tNIn X false ty td) := by
  refine ⟨fun pins s σ H Q I h => ?_⟩
  refine thn (hi.run pins s σ H _ I h) fun iv s1 ⟨y, H1, I1, ry, q1⟩ => thn (ho.run pins s1 σ H1 _ I1 q1) fun u s2 ⟨x, H2, I2, rx, a, us, b, k, ex, g, ey, gk, q2⟩ => ?_
  subst ex ey
  obtain rfl : u = Value.ref a := rx
  obtain rfl : iv = Value.ref b := ry
  obtain ⟨z, hd, xs, rel, dd⟩ := dn_rd I2 g.rd g.ok
  refine wpAny_in_heap (room_nk (by omega)) (gk.is I2) hd dd ?_
  have q := (rel.val k).isSome_eq
  rw [Option.isSome_map] at q
  rw [← q]
  exact ⟨_, H2, I2.tok _, by simp only [Bool.false_bne]; rfl, q2⟩
theorem pc_nnin (hu : X.A.units + 64 < cLine) (hi : PE X i ty) (ho : PE X o td) : PC X .NotIn i o (tNIn X true ty td) := by
  refine ⟨fun pins s σ H Q I h => ?_⟩
  refine thn (hi.run pins s σ H _ I h) fun iv s1 ⟨y, H1, I1, ry, q1⟩ => thn (ho.run pins s1 σ H1 _ I1 q1) fun u s2 ⟨x, H2, I2, rx, a, us, b, k, ex, g, ey, gk, q2⟩ => ?_
  subst ex ey
  obtain rfl : u = Value.ref a := rx
  obtain rfl : iv = Value.ref b := ry
  obtain ⟨z, hd, xs, rel, dd⟩ := dn_rd I2 g.rd g.ok
  refine wpAny_notIn_heap (room_nk (by omega)) (gk.is I2) hd dd ?_
  have q := (rel.val k).isSome_eq
  rw [Option.isSome_map] at q
  rw [← q]
  exact ⟨_, H2, I2.tok _, by simp only [Bool.true_bne]; rfl, q2⟩
theorem ps_nput (hu : X.A.units + 64 < cLine) (ho : PE X o td) (hi : PE X i ty) (hv : PE X value tv) (hs : swapsWith value (some (.Subscript o i pos')) pos.line X.env = pure false) :
    PS X (.Assign [.Subscript o i pos'] value pos) (sNPut X td ty tv) := by
  refine ⟨fun pins s σ H D I h => ?_⟩
  refine wpAny_Assign_Subscript (thn (hv.run pins s σ H _ I h) fun r s1 ⟨v, H1, I1, rv, q1⟩ => thn (ho.run pins s1 σ H1 _ I1 q1) fun u s2 ⟨x, H2, I2, rx, q2⟩ => thn (hi.run pins s2 σ H2 _ I2 q2) fun iv s3 ⟨y, H3, I3, ry, a, us, b, k, ex, g, gu, ey, gk, l, q3⟩ => ?_) hs
  subst ex ey
  obtain rfl : u = Value.ref a := rx
  obtain rfl : iv = Value.ref b := ry
  obtain ⟨z, hd, xs, rel, dd⟩ := dn_rd I3 (.inl g) gu
  have hz : xs.length ≤ sizeLine := by rw [← Paired.length rel]; exact z
  have hl : (putU us k b v).length ≤ sizeLine := by have := length_putU us k b v; omega
  refine wpAny_setItem_heap (hsz := hz) (room_nk (by omega)) (gk.is I3) dd fun h' dd' hs => ?_
  obtain ⟨q, es, ep, hq, h2, h3, h4, _, h5⟩ := dd'
  exact ⟨σ, _, d_write I3 (by rw [g]; exact True.intro) hs ⟨q, hq⟩ (DkP.ok ⟨hl, hd, _, rel.put k rv, q, es, ep, hq, h2, h3, h4, h5⟩), q3⟩
theorem pe_ngetD {apos cpos : Pos} {f : Expr} (hu : X.A.units + 64 < cLine) (ho : PE X o td) (he : PE X e ty) (hf : PE X f tx) (m : M2 X o "get" apos e f cpos) : PE X (.Call (.Attribute o "get" apos) [e, f] [] cpos) (tNGetD X td ty tx) := by
  refine ⟨fun pins s σ H Q I h => ?_⟩
  refine wpAny_Call_method m.base m.few m.line PySem.F.plainAttrs_dict PySem.F.slot_dict_get PySem.F.type_dict_get (thn (ho.run pins s σ H _ I h) fun u s1 ⟨x, H1, I1, rx, a, ex, ⟨us0, d⟩, q1⟩ => ?_)
  subst ex
  obtain rfl : u = Value.ref a := rx
  refine ⟨d.ty I1, d.noDict I1, ?_⟩
  rw [m.trees]
  refine Calls.callWith_builtin rfl (Calls.evalArgs_plain (Calls.spliced_cons (thn (he.run pins s1 σ H1 _ I1 q1) fun iv s2 ⟨y, H2, I2, ry, q2⟩ =>
    Calls.spliced_cons (thn (hf.run pins s2 σ H2 _ I2 q2) fun fv s3 ⟨z, H3, I3, rz, us, b, k, g, ey, gk, q3⟩ => Calls.spliced_nil ?_))))
  subst ey
  obtain rfl : iv = Value.ref b := ry
  obtain ⟨zz, hd, xs, rel, dd⟩ := dn_rd I3 g.rd g.ok
  exact call_meetsIn PySem.F.slot_dict_get dd.typeIs PySem.F.entry_dict_get (PySem.F.args_dict_get_3 _ _ _) (meetsH_dict_get_default (nestedKind X.prog X.w) a b hd fv) ⟨room_nk (by omega), k, xs, gk.is I3, dd, _, H3, I3.tok _, (rel.val k).getD rz, q3⟩
theorem pe_nnew : PE X (.Dict [] [] pos) (tNNew X) := ⟨fun pins s σ H Q I h =>
  wpAny_Dict_empty ⟨.ref s.heap.objs.size, _, I.laid (a := s.heap.objs.size) (o := DkO X.prog X.w s.heap.objs.size []) (t' := s.toks) (fun _ _ q => Heap.get?_push_of_some _ q) (Nat.le_refl _)
    (DkP.ok ⟨Nat.zero_le _, beq_eq_false_iff_ne.mpr (Ne.symm (Nat.ne_of_lt I.big)), [], .nil, _, #[], 0, Heap.get?_push_size _ rfl, ⟨rfl, rfl, rfl⟩, rfl, rfl, List.nodup_nil⟩), rfl, h _ (I.hok.fresh (Nat.le_refl _))⟩⟩
end
/-! ### its keys in order -/
theorem Inv.frzN {d : Addr} {o : Obj} (I : Inv X pins σ H s) (h : H d = some (.frz o (DkO X.prog X.w d us))) :
    (d == sysModules) = false ∧ s.heap.get? d = some o ∧ o.ExactDict ∧ ∃ (es : Array DictEntry) (ep : Nat), o.data = .dict es ep ∧ es.size = us.length ∧
      ∀ (i : Nat) (x : NE), us[i]? = some x → ∃ (en : DictEntry), es[i]? = some en ∧ en.key = .ref x.2.1 := by
  obtain ⟨hd, ⟨z, hs, xs, pr, o', es, ep, ho, hx, hdt, he, _⟩, _⟩ := I.hok d _ h
  rw [hd] at ho
  cases ho
  refine ⟨hs, hd, hx, es, ep, hdt, ?_, fun i x e => ?_⟩
  · have l1 : es.size = xs.length := size_of_entries he
    have l2 : us.length = xs.length := Paired.length pr
    omega
  · obtain ⟨b, hb, e1, e2, _⟩ := paired_get pr e
    have q := entry_at he i
    rw [hb] at q
    exact ⟨_, q, by rw [e2]; rfl⟩
def Itkn (P : Program) (w : World) (d : Addr) (o : Obj) (us : List NE) : It :=
  ⟨fun i H => H d = some (.frz o (DkO P w d us)) ∧ i < us.length, fun i H x H' => H' = H ∧ ∃ y, us[i]? = some y ∧ x = .ref y.2.1, fun i H => H d = some (.frz o (DkO P w d us)) ∧ us.length ≤ i⟩
theorem turn_keysN {P : Program} {w : World} {K : PySem.W.Frag} {tg : Expr} {d : Addr} {o : Obj} {es : Array DictEntry} {ep : Nat} (it : Addr) (hod : o.data = .dict es ep) : Turn P w K tg (Itkn P w d o us) [it] it (fun i h => h.IsKeyIter it d i us.length ep) where
  mem := by simp
  obj := fun i h st b hb => by
    have e : b = it := by simpa using hb
    subst e
    obtain ⟨oi, e, c, dd⟩ := st
    exact ⟨oi, e, fun v z => by rw [dd] at z; cases z⟩
  keep := fun i h h' st k => st.at fun oi e => k it (by simp) oi e
  item := by
    intro X hP hw hK hc i pins s σ H E I hf st hg
    subst hP hw hK
    obtain ⟨hd, hi⟩ := hg
    obtain ⟨f0, f1, f2, f3, f4, f5⟩ := hf it (by simp)
    obtain ⟨hs, hgd, hx, es', ep', hdt, hsz, ent⟩ := Inv.frzN I hd
    obtain ⟨rfl, rfl⟩ := dict_ep hod hdt
    obtain ⟨y, hy⟩ : ∃ p, us[i]? = some p := ⟨us[i], List.getElem?_eq_getElem hi⟩
    obtain ⟨en, hen, hkey⟩ := ent i y hy
    refine next_key_item st hgd hdt hsz hen fun h' st' sb => ?_
    have I1 : Inv X pins σ H { s with heap := h' } := I.turned (t' := s.toks) (fun b ob hb e => (sb.2 b hb).trans e) f0 f1 f3 f4 f5
    obtain ⟨oi, e, c, dd⟩ := id st'
    exact ⟨en.key, rfl, go_of (s := { s with heap := h' }) e c dd (by decide) ⟨.ref y.2.1, H, I1, hkey, ⟨rfl, y, hy, rfl⟩, st', fun b hb => (hf b hb).1⟩⟩
  done := by
    intro X hP hw hK hc i pins s σ H E I hf st hg
    subst hP hw hK
    obtain ⟨hd, hi⟩ := hg
    obtain ⟨f0, f1, f2, f3, f4, f5⟩ := hf it (by simp)
    obtain ⟨hs, hgd, hx, es', ep', hdt, hsz, ent⟩ := Inv.frzN I hd
    obtain ⟨rfl, rfl⟩ := dict_ep hod hdt
    exact next_key_end (I.ok.hd hc) st hgd hdt hsz hi fun h' eb => ⟨rfl, I.turned (t' := s.toks) (fun b ob hb e => eb b ob hb e) f0 f1 f3 f4 f5⟩
  self := fun A i s Q E st h => by
    refine wpAny_pyIter_slot st.typeIs F.slot_dict_keyiterator_iter (wpAny_call_entry F.slot_dict_keyiterator_iter st.typeIs F.entry_dict_keyiterator_iter ?_ (F.args_dict_keyiterator_iter_1 _))
    show wpAny _ _ (ret (.ref it)) _ _ s
    exact wpAny_pure ⟨_, rfl, "dict_keyiterator", _, st.typeIs, F.slot_dict_keyiterator_next.lookup, h⟩
/-- the dict is known from here on: it is changed no more -/
def iKeysN (X : Cx) (td : TE) : TI := fun σ H R => td σ H fun x H1 => ∃ d us, x = .ref d ∧ ((H1 d = some (DkO X.prog X.w d us) ∧ ∀ o, R (Itkn X.prog X.w d o us) (upd H1 d (.frz o (DkO X.prog X.w d us)))) ∨ ∃ o, H1 d = some (.frz o (DkO X.prog X.w d us)) ∧ R (Itkn X.prog X.w d o us) H1)
theorem pi_keysN {tg e : Expr} {td : TE} (he : PE X e td) : PI X tg e (iKeysN X td) := by
  refine ⟨fun pins s σ H R I h => ?_⟩
  refine thn (he.run pins s σ H _ I h) fun u s1 ⟨x, H1, I1, rx, d, us, ex, q⟩ => ?_
  subst ex
  obtain rfl : u = Value.ref d := rx
  have fin : ∀ o (H2 : Hp), Inv X pins σ H2 s1 → H2 d = some (.frz o (DkO X.prog X.w d us)) → R (Itkn X.prog X.w d o us) H2 → wpAny (model X.prog X.w) X.A (pyIter (.ref d)) (PIE X pins σ tg R) X.xe s1 := fun o H2 I2 hd q => by
    obtain ⟨hs, hgd, hx, es, ep, hdt, hsz, ent⟩ := Inv.frzN I2 hd
    refine iter_keys hs hgd hx hdt (pi_one (tk := s1.toks) I2 _ (turn_keysN _ hdt) ⟨_, Heap.get?_push_size _ rfl, rfl, ?_⟩ q)
    rw [hsz] <;> rfl
  rcases q with ⟨hd, q⟩ | ⟨o, hd, q⟩
  · obtain ⟨o, I2⟩ := I1.lock hd True.intro
    exact fin o _ I2 upd_same (q o)
  · exact fin o _ I1 hd q
end
end Ck
namespace Ck
open PySem PySem.Spec PyProof.Rows L2
/-! ### dicts whose keys are nested tuples: a world of them, rules over data -/
abbrev DEnt := List (Dt × Dt)
/-- whether it is changed no more, its entries -/
abbrev Dm := Addr → Option (Bool × DEnt)
def updN (m : Dm) (a : Addr) (x : Bool × DEnt) : Dm := fun b => if b = a then some x else m b
theorem updN_same {m : Dm} {a : Addr} {x : Bool × DEnt} : updN m a x a = some x := by unfold updN; rw [if_pos rfl]
theorem updN_ne {m : Dm} {a b : Addr} {x : Bool × DEnt} (h : b ≠ a) : updN m a x b = m b := by unfold updN; rw [if_neg h]
abbrev EnR (K : PySem.W.Frag) (F : Hp) : List NE → DEnt → Prop := Paired fun x y => Dr K F (.ref x.2.1) y.1 ∧ keyN y.1 = some x.1 ∧ Dr K F x.2.2 y.2
theorem EnR.mono {K : PySem.W.Frag} {F F' : Hp} {us : List NE} {kvs : DEnt} (e : Same F F') (h : EnR K F us kvs) : EnR K F' us kvs := Paired.mapP h fun _ _ ⟨a, b, c⟩ => ⟨a.mono e, b, c.mono e⟩
theorem EnR.us {K : PySem.W.Frag} {F : Hp} {us : List NE} {kvs : DEnt} (h : EnR K F us kvs) : UsOk K F us := by
  induction h with
  | nil => intro x hx; exact nomatch hx
  | @cons p q ps qs h t ih =>
    intro x hx
    rcases List.mem_cons.mp hx with rfl | hx
    · exact ⟨_, h.1, h.2.1⟩
    · exact ih x hx
def NkOk (P : Program) (wd : World) (K : PySem.W.Frag) (m : Dm) (F G : Hp) : Prop := ∀ a fz kvs, m a = some (fz, kvs) → ∃ us, EnR K F us kvs ∧ (fz = false → G a = some (DkO P wd a us)) ∧ (fz = true → ∃ o, F a = some (.frz o (DkO P wd a us)))
def NkW (P : Program) (wd : World) (K : PySem.W.Frag) : Wd Dm := ⟨fun m F G => NkOk P wd K m F G, fun _ => True,
  fun _ _ _ _ e h a fz kvs q => let ⟨us, h1, h2, h3⟩ := h a fz kvs q; ⟨us, h1.mono e, h2, fun z => let ⟨o, y⟩ := h3 z; ⟨o, e _ _ y⟩⟩, fun _ _ _ h => h⟩
/-! what it holds -/
def valN (kvs : DEnt) (kd : Dt) : Option Dt := (kvs.find? fun y => decide (keyN y.1 = keyN kd)).map (·.2)
def putN (kvs : DEnt) (kd d : Dt) : DEnt := if (valN kvs kd).isSome = true then kvs.map (fun y => if keyN y.1 = keyN kd then (y.1, d) else y) else kvs ++ [(kd, d)]
theorem valN_cons {y : Dt × Dt} {kvs : DEnt} {kd : Dt} : valN (y :: kvs) kd = if keyN y.1 = keyN kd then some y.2 else valN kvs kd := by
  unfold valN
  by_cases h : keyN y.1 = keyN kd
  · rw [List.find?_cons_of_pos (by simp [h]), if_pos h]
    rfl
  · rw [List.find?_cons_of_neg (by simp [h]), if_neg h]
theorem EnR.val {K : PySem.W.Frag} {F : Hp} {kd : Dt} {k : NestedKey} (e : keyN kd = some k) {us : List NE} {kvs : DEnt} (h : EnR K F us kvs) : (valU us k = none ∧ valN kvs kd = none) ∨ ∃ v d, valU us k = some v ∧ valN kvs kd = some d ∧ Dr K F v d := by
  induction h with
  | nil => exact .inl ⟨rfl, rfl⟩
  | @cons p q ps qs h t ih =>
    rw [valN_cons]
    by_cases z : p.1 = k
    · refine .inr ⟨p.2.2, q.2, by simp [valU, z], ?_, h.2.2⟩
      rw [if_pos (by rw [h.2.1, e, z])]
    · rw [if_neg (fun y => z (Option.some.inj (by rw [← h.2.1, y, e])))]
      have e1 : valU (p :: ps) k = valU ps k := by simp [valU, z]
      rw [e1]
      exact ih
theorem EnR.repl {K : PySem.W.Frag} {F : Hp} {kd d : Dt} {v : V} {k : NestedKey} (e : keyN kd = some k) (hv : Dr K F v d) {us : List NE} {kvs : DEnt} (h : EnR K F us kvs) :
    EnR K F (us.map fun x => if x.1 = k then (x.1, x.2.1, v) else x) (kvs.map fun y => if keyN y.1 = keyN kd then (y.1, d) else y) := by
  induction h with
  | nil => exact .nil
  | @cons p q ps qs h t ih =>
    rw [List.map_cons, List.map_cons]
    refine .cons ?_ ih
    by_cases z : p.1 = k
    · rw [if_pos z, if_pos (by rw [h.2.1, e, z])]
      exact ⟨h.1, h.2.1, hv⟩
    · rw [if_neg z, if_neg (fun y => z (Option.some.inj (by rw [← h.2.1, y, e])))]
      exact h
theorem EnR.put {K : PySem.W.Frag} {F : Hp} {kd d : Dt} {v : V} {b : Addr} {k : NestedKey} (e : keyN kd = some k) (hb : Dr K F (.ref b) kd) (hv : Dr K F v d) {us : List NE} {kvs : DEnt} (h : EnR K F us kvs) : EnR K F (putU us k b v) (putN kvs kd d) := by
  have es : (valU us k).isSome = (valN kvs kd).isSome := by
    rcases h.val e with ⟨a, b⟩ | ⟨_, _, a, b, _⟩ <;> rw [a, b] <;> rfl
  unfold putU putN
  rw [es]
  split
  · exact h.repl e hv
  · exact Paired.snoc h ⟨hb, e, hv⟩
section
variable {Ω : Type} {P : Program} {wd : World} {K : PySem.W.Frag} {W : Wd Ω} {get : Ω → Dm} {put : Ω → Dm → Ω} {B F G H : Hp} {w : Ω} {σ : L2.St} {sl : Sl} {a p : Addr} {fz : Bool} {kvs : DEnt}
theorem HR.nk (io : CompIn W get put (NkOk P wd K)) (r : HR W B F G H w) (h : get w a = some (fz, kvs)) : ∃ us, EnR K F us kvs ∧ Rd H a (DkO P wd a us) ∧ (fz = false → G a = some (DkO P wd a us) ∧ H a = some (DkO P wd a us)) ∧ (fz = true → ∃ o, F a = some (.frz o (DkO P wd a us))) := by
  obtain ⟨G2, e2, ok⟩ := io.sub w F G r.w
  obtain ⟨us, h1, h2, h3⟩ := ok a fz kvs h
  refine ⟨us, h1, ?_, fun z => ⟨e2 _ _ (h2 z), r.g _ _ (e2 _ _ (h2 z))⟩, h3⟩
  cases fz with
  | false => exact .inl (r.g _ _ (e2 _ _ (h2 rfl)))
  | true =>
    obtain ⟨o, z⟩ := h3 rfl
    exact .inr ⟨o, r.f _ _ z⟩
theorem NkOk.set {m : Dm} {us : List NE} (h : NkOk P wd K m F G) (hd : EnR K F us kvs) : NkOk P wd K (updN m a (false, kvs)) F (upd G a (DkO P wd a us)) := fun b fz' kvs' q => by
  by_cases e : b = a
  · subst e
    rw [updN_same] at q
    cases q
    exact ⟨us, hd, fun _ => upd_same, fun z => nomatch z⟩
  · rw [updN_ne e] at q
    obtain ⟨us', h1, h2, h3⟩ := h b fz' kvs' q
    exact ⟨us', h1, fun z => by rw [upd_ne e]; exact h2 z, h3⟩
/-- d[k] = v -/
theorem SR.nset (io : CompIn W get put (NkOk P wd K)) (r : SR K W B F G H w σ sl) (h : get w a = some (false, kvs)) {us' : List NE} {kvs' : DEnt} (hd : EnR K F us' kvs') : ∃ G', SR K W B F G' (upd H a (DkO P wd a us')) (put w (updN (get w) a (false, kvs'))) σ sl := by
  obtain ⟨us, h1, _, h3, _⟩ := r.hr.nk io h
  have hG := (h3 rfl).1
  refine ⟨_, r.cset (m' := updN (get w) a (false, kvs')) io hG (fun z => nomatch z) fun G2 e2 ok => ⟨?_, NkOk.set ok hd⟩⟩
  obtain ⟨us2, _, q2, _⟩ := ok a false kvs h
  have := e2 _ _ (q2 rfl)
  rw [hG] at this
  rw [this]
  exact q2 rfl
/-- a new one -/
theorem SR.nnew (io : CompIn W get put (NkOk P wd K)) {us : List NE} (r : SR K W B F G H w σ sl) (hp : H p = some (DkO P wd p us)) (hd : EnR K F us kvs) (pB : B p = none) (pF : F p = none) (pG : G p = none) (hn : NoOwn σ sl p) : ∃ G', SR K W B F G' H (put w (updN (get w) p (false, kvs))) σ sl :=
  ⟨_, r.cnew (m' := updN (get w) p (false, kvs)) io hp (fun z => nomatch z) pB pF pG hn fun G2 e2 ok => NkOk.set ok hd⟩
/-- from here on it is changed no more -/
theorem SR.nfrz (io : CompIn W get put (NkOk P wd K)) {us : List NE} (r : SR K W B F G H w σ sl) (h : get w a = some (false, kvs)) (hG : G a = some (DkO P wd a us)) (o : Obj) :
    ∃ G', SR K W B (upd F a (.frz o (DkO P wd a us))) G' (upd H a (.frz o (DkO P wd a us))) (put w (updN (get w) a (true, kvs))) σ sl := by
  have hnt : ¬ IsTp (DkO P wd a us) := fun z => nomatch z
  have hB := r.hr.noB' hG hnt
  have hF := r.hr.noF' hG hnt
  have eF : Same F (upd F a (.frz o (DkO P wd a us))) := sameUpd hF
  have hr : HR W B (upd F a (.frz o (DkO P wd a us))) (fun b => if b = a then none else G b) (upd H a (.frz o (DkO P wd a us))) (put w (updN (get w) a (true, kvs))) := by
    refine ⟨fun b x e => ?_, fun b x e => ?_, fun b x e => ?_, fun b x e => ?_, io.step w _ G _ _ (W.monoF _ _ _ _ eF r.hr.w) fun G2 e2 ok => ⟨fun b => if b = a then none else G2 b, fun b fz' kvs' q => ?_, fun b x e => ?_, fun b x e z => ?_⟩, r.hr.k⟩
    · have hn : b ≠ a := ne_of_none e hB
      rw [upd_ne hn, upd_ne hn, if_neg hn]
      exact r.hr.b b x e
    · by_cases q : b = a
      · subst q
        rw [upd_same] at e ⊢
        exact e
      · rw [upd_ne q] at e ⊢
        exact r.hr.f b x e
    · by_cases q : b = a
      · subst q
        simp at e
      · simp only [if_neg q] at e
        rw [upd_ne q]
        exact r.hr.g b x e
    · by_cases q : b = a
      · exact .inl (if_pos q)
      · rw [upd_ne q] at e
        simp only [if_neg q]
        exact r.hr.d b x e
    · by_cases z : b = a
      · subst z
        rw [updN_same] at q
        cases q
        obtain ⟨us2, q1, q2, _⟩ := ok b false kvs h
        refine ⟨us2, q1, (fun z => nomatch z), fun _ => ⟨o, ?_⟩⟩
        have e3 := e2 _ _ (q2 rfl)
        rw [hG] at e3
        have e4 := Option.some.inj e3
        rw [upd_same, ← e4]
      · rw [updN_ne z] at q
        obtain ⟨us2, q1, q2, q3⟩ := ok b fz' kvs' q
        exact ⟨us2, q1, fun y => by simp only [if_neg z]; exact q2 y, q3⟩
    · by_cases z : b = a
      · subst z
        simp at e
      · simp only [if_neg z] at e ⊢
        exact e2 b x e
    · have hn : b ≠ a := fun q => by
        subst q
        obtain ⟨us2, _, q2, _⟩ := ok b false kvs h
        rcases z with z | z
        · rw [q2 rfl] at z; cases z
        · rw [hG] at e; cases e; exact nomatch z
      simp only [if_neg hn]
      exact ⟨e, z⟩
  refine ⟨_, r.to hr eF fun i l c us h1 h2 h3 h4 h5 h6 _ => ?_⟩
  have hn : c ≠ a := fun q => by rw [q, hG] at h6; cases h6
  rw [upd_ne hn, upd_ne hn, if_neg hn]
  exact ⟨h3, h5, h6⟩
/-- what was known stays known -/
theorem SR.nfrz' (io : CompIn W get put (NkOk P wd K)) (r : SR K W B F G H w σ sl) (h : get w a = some (true, kvs)) : SR K W B F G H (put w (updN (get w) a (true, kvs))) σ sl := by
  refine r.to ⟨r.hr.b, r.hr.f, r.hr.g, r.hr.d, io.step w F G G _ r.hr.w fun G2 e2 ok => ⟨G2, fun b fz' kvs' q => ?_, e2, fun b x e z => ⟨e, z⟩⟩, r.hr.k⟩ (Same.refl F) fun i l c us h1 h2 h3 h4 h5 h6 _ => ⟨h3, h5, h6⟩
  by_cases z : b = a
  · subst z
    rw [updN_same] at q
    cases q
    exact ok b true kvs h
  · rw [updN_ne z] at q
    exact ok b fz' kvs' q
end
section
variable {Ω : Type} {X : Cx} {W : Wd Ω} {get : Ω → Dm} {put : Ω → Dm → Ω} {o ie fe e : Expr} {po pk pf pe : DE Ω} {pos : Pos}
abbrev NkIn (X : Cx) (W : Wd Ω) (get : Ω → Dm) (put : Ω → Dm → Ω) : Prop := CompIn W get put (NkOk X.prog X.w X.K)
theorem HR.dn {B F G H : Hp} {w : Ω} {a : Addr} {fz : Bool} {kvs : DEnt} (io : NkIn X W get put) (r : HR W B F G H w) (h : get w a = some (fz, kvs)) : ∃ us, EnR X.K F us kvs ∧ DnAt X H a us := by
  obtain ⟨us, h1, h2, _⟩ := r.nk io h
  exact ⟨us, h1, h2, (h1.mono r.f).us⟩
theorem keyN_ref {K : PySem.W.Frag} {F : Hp} {v : V} {kd : Dt} {k : NestedKey} (h : Dr K F v kd) (e : keyN kd = some k) : ∃ b, v = .ref b := by
  cases h with
  | tup _ _ => exact ⟨_, rfl⟩
  | tupK _ _ _ => exact ⟨_, rfl⟩
  | _ => simp only [keyN] at e; cases e
/-- {} -/
def wNNew (get : Ω → Dm) (put : Ω → Dm → Ω) : DE Ω := fun sl w C => ∀ q, get w q = none → C (.opq (.ref q)) .cl (put w (updN (get w) q (false, [])))
theorem d_nnew (io : NkIn X W get put) : PD X W (.Dict [] [] pos) (wNNew get put) := by
  refine ⟨pe_imp pe_nnew fun σ H Q ⟨B, F, G, w, sl, r, z⟩ p hp => ?_, fun sl w C C' hC z q hq => hC _ _ _ (z q hq)⟩
  have hq : get w p = none := by
    cases y : get w p with
    | none => rfl
    | some x =>
      obtain ⟨fz, kvs⟩ := x
      obtain ⟨us, _, y2, _⟩ := r.hr.nk io y
      rcases y2 with y2 | ⟨_, y2⟩ <;> · rw [hp] at y2; cases y2
  obtain ⟨G', k⟩ := (r.newOwn (o := DkO X.prog X.w p []) hp).nnew io upd_same .nil (r.fresh hp).1 (r.hr.f.free hp) (r.hr.g.free hp) (r.fresh hp).2
  exact z p hq (.ref p) F G' _ k (Same.refl F) (.opq _)
/-- d[k] -/
def wNGet (get : Ω → Dm) (po pk : DE Ω) : DE Ω := fun sl w C => po sl w fun d fl w1 => fl = .cl ∧ ∃ a, d = .opq (.ref a) ∧ pk sl w1 fun kd fl2 w2 => fl2 = .cl ∧ ∃ fz kvs v, get w2 a = some (fz, kvs) ∧ (keyN kd).isSome = true ∧ valN kvs kd = some v ∧ C v .cl w2
theorem d_nget (io : NkIn X W get put) (hu : X.A.units + 64 < cLine) (ho : PD X W o po) (hk : PD X W ie pk) (hs : NoSl ie) : PD X W (.Subscript o ie pos) (wNGet get po pk) := by
  refine ⟨pe_imp (pe_nget hu ho.run hk.run hs) fun σ H Q ⟨B, F, G, w, sl, r, z⟩ => ?_, fun sl w C C' hC z => ho.mono _ _ _ _ (fun d fl w1 ⟨z0, a, z1, z2⟩ => ⟨z0, a, z1, hk.mono _ _ _ _ (fun kd fl2 w2 ⟨y0, fz, kvs, v, y1, y2, y3, y4⟩ => ⟨y0, fz, kvs, v, y1, y2, y3, hC _ _ _ y4⟩) z2⟩) z⟩
  refine ⟨B, F, G, w, sl, r, ho.mono _ _ _ _ (fun d fl w1 ⟨z0, a, z1, z2⟩ v F1 G1 H1 r1 e1 f1 => ?_) z⟩
  subst z0 z1
  cases f1
  refine ⟨B, F1, G1, w1, sl, r1, hk.mono _ _ _ _ (fun kd fl2 w2 ⟨y0, fz, kvs, d, y1, y2, y3, y4⟩ u F2 G2 H2 r2 e2 f2 => ?_) z2⟩
  subst y0
  obtain ⟨k, ek⟩ := Option.isSome_iff_exists.mp y2
  have f2 : Dr X.K F2 u kd := f2
  obtain ⟨b, rfl⟩ := keyN_ref f2 ek
  obtain ⟨us, en, dn⟩ := r2.hr.dn io y1
  rcases en.val ek with ⟨_, q2⟩ | ⟨v, d', q1, q2, q3⟩
  · rw [y3] at q2; cases q2
  · rw [y3] at q2
    cases q2
    exact ⟨a, us, b, k, v, rfl, dn, rfl, ⟨kd, f2.mono r2.hr.f, ek⟩, q1, y4 v F2 G2 H2 r2 (e1.trans e2) q3⟩
/-- k in d, k not in d -/
def wNIn (get : Ω → Dm) (ng : Bool) (pk po : DE Ω) : DE Ω := fun sl w C => pk sl w fun kd fl w1 => fl = .cl ∧ po sl w1 fun d fl2 w2 => fl2 = .cl ∧ ∃ a fz kvs, d = .opq (.ref a) ∧ get w2 a = some (fz, kvs) ∧ (keyN kd).isSome = true ∧ C (.bl (ng != (valN kvs kd).isSome)) .cl w2
theorem imp_nin (io : NkIn X W get put) {ng : Bool} (hk : PD X W ie pk) (ho : PD X W o po) : ∀ σ H Q, lft X.K W (wNIn get ng pk po) σ H Q → tNIn X ng (lft X.K W pk) (lft X.K W po) σ H Q := by
  intro σ H Q ⟨B, F, G, w, sl, r, z⟩
  refine ⟨B, F, G, w, sl, r, hk.mono _ _ _ _ (fun kd fl w1 ⟨z0, z1⟩ v F1 G1 H1 r1 e1 f1 => ?_) z⟩
  subst z0
  refine ⟨B, F1, G1, w1, sl, r1, ho.mono _ _ _ _ (fun d fl2 w2 ⟨y0, a, fz, kvs, y1, y2, y3, y4⟩ u F2 G2 H2 r2 e2 f2 => ?_) z1⟩
  subst y0 y1
  cases f2
  obtain ⟨k, ek⟩ := Option.isSome_iff_exists.mp y3
  have f1 : Dr X.K F1 v kd := f1
  obtain ⟨b, rfl⟩ := keyN_ref f1 ek
  obtain ⟨us, en, dn⟩ := r2.hr.dn io y2
  refine ⟨a, us, b, k, rfl, dn, rfl, ⟨kd, (f1.mono e2).mono r2.hr.f, ek⟩, ?_⟩
  have es : (valU us k).isSome = (valN kvs kd).isSome := by
    rcases en.val ek with ⟨q1, q2⟩ | ⟨_, _, q1, q2, _⟩ <;> rw [q1, q2] <;> rfl
  rw [es]
  exact y4 (.bl _) F2 G2 H2 r2 (e1.trans e2) (.bl _)
theorem mono_nin {ng : Bool} (hk : PD X W ie pk) (ho : PD X W o po) : ∀ sl w (C C' : Dt → Fl → Ω → Prop), (∀ d fl w', C d fl w' → C' d fl w') → wNIn get ng pk po sl w C → wNIn get ng pk po sl w C' := fun sl w C C' hC z =>
  hk.mono _ _ _ _ (fun kd fl w1 ⟨z0, z1⟩ => ⟨z0, ho.mono _ _ _ _ (fun d fl2 w2 ⟨y0, a, fz, kvs, y1, y2, y3, y4⟩ => ⟨y0, a, fz, kvs, y1, y2, y3, hC _ _ _ y4⟩) z1⟩) z
/-- d.get(k, x) -/
def wNGetD (get : Ω → Dm) (po pk pf : DE Ω) : DE Ω := fun sl w C => po sl w fun d fl w1 => fl = .cl ∧ ∃ a fz0 kvs0, d = .opq (.ref a) ∧ get w1 a = some (fz0, kvs0) ∧ pk sl w1 fun kd fl2 w2 => fl2 = .cl ∧ (keyN kd).isSome = true ∧ pf sl w2 fun d0 fl3 w3 => fl3 = .cl ∧ ∃ fz kvs, get w3 a = some (fz, kvs) ∧ C ((valN kvs kd).getD d0) .cl w3
theorem d_ngetD {apos cpos : Pos} (io : NkIn X W get put) (hu : X.A.units + 64 < cLine) (ho : PD X W o po) (hk : PD X W ie pk) (hf : PD X W fe pf) (m : M2 X o "get" apos ie fe cpos) : PD X W (.Call (.Attribute o "get" apos) [ie, fe] [] cpos) (wNGetD get po pk pf) := by
  refine ⟨pe_imp (pe_ngetD hu ho.run hk.run hf.run m) fun σ H Q ⟨B, F, G, w, sl, r, z⟩ => ?_, fun sl w C C' hC z => ho.mono _ _ _ _ (fun d fl w1 ⟨z0, a, fz0, kvs0, z1, z2, z3⟩ => ⟨z0, a, fz0, kvs0, z1, z2, hk.mono _ _ _ _ (fun kd fl2 w2 ⟨y0, y1, y2⟩ => ⟨y0, y1, hf.mono _ _ _ _ (fun d0 fl3 w3 ⟨x0, fz, kvs, x1, x2⟩ => ⟨x0, fz, kvs, x1, hC _ _ _ x2⟩) y2⟩) z3⟩) z⟩
  refine ⟨B, F, G, w, sl, r, ho.mono _ _ _ _ (fun d fl w1 ⟨z0, a, fz0, kvs0, z1, z2, z3⟩ v F1 G1 H1 r1 e1 f1 => ?_) z⟩
  subst z0 z1
  cases f1
  obtain ⟨us0, _, dn0⟩ := r1.hr.dn io z2
  refine ⟨a, rfl, ⟨us0, dn0⟩, B, F1, G1, w1, sl, r1, hk.mono _ _ _ _ (fun kd fl2 w2 ⟨y0, y1, y2⟩ u F2 G2 H2 r2 e2 f2 => ?_) z3⟩
  subst y0
  refine ⟨B, F2, G2, w2, sl, r2, hf.mono _ _ _ _ (fun d0 fl3 w3 ⟨x0, fz, kvs, x1, x2⟩ u3 F3 G3 H3 r3 e3 f3 => ?_) y2⟩
  subst x0
  obtain ⟨k, ek⟩ := Option.isSome_iff_exists.mp y1
  have f2 : Dr X.K F2 u kd := f2
  have f3 : Dr X.K F3 u3 d0 := f3
  obtain ⟨b, rfl⟩ := keyN_ref f2 ek
  obtain ⟨us, en, dn⟩ := r3.hr.dn io x1
  refine ⟨us, b, k, dn, rfl, ⟨kd, (f2.mono e3).mono r3.hr.f, ek⟩, ?_⟩
  rcases en.val ek with ⟨q1, q2⟩ | ⟨v, d', q1, q2, q3⟩
  · rw [q2] at x2
    rw [q1]
    exact x2 u3 F3 G3 H3 r3 ((e1.trans e2).trans e3) f3
  · rw [q2] at x2
    rw [q1]
    exact x2 v F3 G3 H3 r3 ((e1.trans e2).trans e3) q3
/-- d[k] = v -/
def wNPut (get : Ω → Dm) (put : Ω → Dm → Ω) (pe po pk : DE Ω) : DS Ω := fun D sl w => pe sl w fun d fl w1 => fl = .cl ∧ po sl w1 fun x fl2 w2 => fl2 = .cl ∧ ∃ a, x = .opq (.ref a) ∧ pk sl w2 fun kd fl3 w3 => fl3 = .cl ∧ ∃ kvs, get w3 a = some (false, kvs) ∧ kvs.length < sizeLine ∧ (keyN kd).isSome = true ∧ D.nx sl (put w3 (updN (get w3) a (false, putN kvs kd d)))
theorem ds_nput {spos : Pos} (io : NkIn X W get put) (hu : X.A.units + 64 < cLine) (h : PD X W e pe) (ho : PD X W o po) (hk : PD X W ie pk) (hs : swapsWith e (some (.Subscript o ie spos)) pos.line X.env = pure false := by rfl) :
    PDS X W (.Assign [.Subscript o ie spos] e pos) (wNPut get put pe po pk) := by
  refine ⟨ps_imp (ps_nput hu ho.run hk.run h.run hs) fun D σ H ⟨B, F, G, w, sl, r, z⟩ => ?_, fun D D' le sl w z => h.mono _ _ _ _ (fun d fl w1 ⟨z0, z1⟩ => ⟨z0, ho.mono _ _ _ _ (fun x fl2 w2 ⟨y0, a, y1, y2⟩ => ⟨y0, a, y1, hk.mono _ _ _ _ (fun kd fl3 w3 ⟨x0, kvs, x1, x2, x3, x4⟩ => ⟨x0, kvs, x1, x2, x3, le.nx _ _ x4⟩) y2⟩) z1⟩) z⟩
  refine ⟨B, F, G, w, sl, r, h.mono _ _ _ _ (fun d fl w1 ⟨z0, z1⟩ v F1 G1 H1 r1 e1 f1 => ?_) z⟩
  subst z0
  refine ⟨B, F1, G1, w1, sl, r1, ho.mono _ _ _ _ (fun x fl2 w2 ⟨y0, a, y1, y2⟩ u F2 G2 H2 r2 e2 f2 => ?_) z1⟩
  subst y0 y1
  cases f2
  refine ⟨B, F2, G2, w2, sl, r2, hk.mono _ _ _ _ (fun kd fl3 w3 ⟨x0, kvs, x1, x2, x3, x4⟩ u3 F3 G3 H3 r3 e3 f3 => ?_) y2⟩
  subst x0
  obtain ⟨k, ek⟩ := Option.isSome_iff_exists.mp x3
  have f3 : Dr X.K F3 u3 kd := f3
  have f1 : Dr X.K F1 v d := f1
  obtain ⟨b, rfl⟩ := keyN_ref f3 ek
  obtain ⟨us, en, _, hm, _⟩ := r3.hr.nk io x1
  obtain ⟨G', k2⟩ := r3.nset io x1 (en.put ek f3 (f1.mono (e2.trans e3)))
  have hl : us.length = kvs.length := Paired.length en
  exact ⟨a, us, b, k, rfl, (hm rfl).2, (en.mono r3.hr.f).us, rfl, ⟨kd, f3.mono r3.hr.f, ek⟩, by omega, x4 σ F3 G' _ k2 ((e1.trans e2).trans e3)⟩
/-- its keys in order; from here on it is changed no more -/
def wiKeysN (get : Ω → Dm) (put : Ω → Dm → Ω) (po : DE Ω) : DI Ω := fun sl w C => po sl w fun d fl w1 => fl = .cl ∧ ∃ a fz kvs, d = .opq (.ref a) ∧ get w1 a = some (fz, kvs) ∧ C (kvs.map (·.1)) (put w1 (updN (get w1) a (true, kvs)))
theorem yl_keysN {P : Program} {wd : World} {K : PySem.W.Frag} {F : Hp} {a : Addr} {ob : Obj} {us : List NE} {kvs : DEnt} (h : F a = some (.frz ob (DkO P wd a us))) (en : EnR K F us kvs) : YlOk K F (Itkn P wd a ob us) (kvs.map (·.1)) := by
  have hl : us.length = kvs.length := Paired.length en
  refine ⟨fun F1 H1 e1 e2 i d hd => ?_, fun F1 H1 e1 e2 => ⟨e2 _ _ (e1 _ _ h), by rw [List.length_map, hl]; exact Nat.le_refl _⟩⟩
  rw [List.getElem?_map, Option.map_eq_some_iff] at hd
  obtain ⟨y, hy, rfl⟩ := hd
  have hi : i < us.length := by rw [hl]; exact (List.getElem?_eq_some_iff.mp hy).1
  refine ⟨⟨e2 _ _ (e1 _ _ h), hi⟩, fun x H' ⟨z1, z2⟩ => ⟨F1, .inl ⟨rfl, z1, ?_⟩⟩⟩
  obtain ⟨y', hy', rfl⟩ := z2
  obtain ⟨q, hq, e1', _⟩ := paired_get en hy'
  rw [hy] at hq
  cases hq
  exact e1'.mono e1
theorem di_keysN {tg : Expr} (io : NkIn X W get put) (h : PD X W o po) : PDI X W tg o (wiKeysN get put po) := by
  refine ⟨pi_imp (pi_keysN h.run) fun σ H R ⟨B, F, G, w, sl, r, z⟩ => ?_, fun sl w C C' hC z => h.mono _ _ _ _ (fun d fl w1 ⟨z0, a, fz, kvs, z1, z2, z3⟩ => ⟨z0, a, fz, kvs, z1, z2, hC _ _ z3⟩) z⟩
  refine ⟨B, F, G, w, sl, r, h.mono _ _ _ _ (fun d fl w1 ⟨z0, a, fz, kvs, z1, z2, z3⟩ v F1 G1 H1 r1 e1 f1 => ?_) z⟩
  subst z0 z1
  cases f1
  obtain ⟨us, en, _, q1, q2⟩ := r1.hr.nk io z2
  refine ⟨a, us, rfl, ?_⟩
  cases fz with
  | false =>
    obtain ⟨hG, hH⟩ := q1 rfl
    refine .inl ⟨hH, fun ob => ?_⟩
    obtain ⟨G', k⟩ := r1.nfrz io z2 hG ob
    have eF : Same F1 (upd F1 a (.frz ob (DkO X.prog X.w a us))) := sameUpd (r1.hr.noF' hG (fun z => nomatch z))
    exact z3 _ _ G' _ k (e1.trans eF) (yl_keysN upd_same (en.mono eF))
  | true =>
    obtain ⟨ob, hF⟩ := q2 rfl
    exact .inr ⟨ob, r1.hr.f _ _ hF, z3 _ F1 G1 H1 (r1.nfrz' io z2) e1 (yl_keysN hF en)⟩
end
end Ck
namespace Ck
open PySem PySem.Spec PyProof.Rows L2
/-! ### {k: v}, dict(pairs), x = l.pop(), a module's constant tuple -/
/-! {k: v} -/
def tNDisp1 (X : Cx) (tk tv : TE) : TE := fun σ H Q => ∀ p, H p = none → tk σ (upd H p (DkO X.prog X.w p [])) fun x H1 => tv σ H1 fun y H2 => H2 p = some (DkO X.prog X.w p []) ∧ ∃ b k, x = .ref b ∧ KyOk X.K H2 b k ∧ Q (.ref p) (upd H2 p (DkO X.prog X.w p [(k, b, y)]))
theorem pe_ndisp1 {X : Cx} {k v : Expr} {tk tv : TE} {pos : Pos} (hu : X.A.units + 64 < cLine) (hk : PE X k tk) (hv : PE X v tv) : PE X (.Dict [some k] [v] pos) (tNDisp1 X tk tv) := by
  refine ⟨fun pins s σ H Q I q => ?_⟩
  have hn := I.hok.fresh (Nat.le_refl s.heap.objs.size)
  have I1 := I.laid (a := s.heap.objs.size) (o := DkO X.prog X.w s.heap.objs.size []) (h' := s.heap.push { cls := .type "dict", data := .dict #[] }) (t' := s.toks) (fun _ _ q => Heap.get?_push_of_some _ q) (Nat.le_refl _)
    (DkP.ok ⟨Nat.zero_le _, beq_eq_false_iff_ne.mpr (Ne.symm (Nat.ne_of_lt I.big)), [], .nil, _, #[], 0, Heap.get?_push_size _ rfl, ⟨rfl, rfl, rfl⟩, rfl, rfl, List.nodup_nil⟩)
  refine wp_dict_one (thn (hk.run pins _ σ _ _ I1 (q _ hn)) fun u s1 ⟨x, H1, I2, rx, q1⟩ => thn (hv.run pins s1 σ H1 _ I2 q1) fun r s2 ⟨y, H2, I3, ry, e, b, ks, ex, eb, q2⟩ => ?_)
  subst ex
  obtain rfl : u = Value.ref b := rx
  obtain ⟨z, hd, xs, rel, dd⟩ := dn_rd I3 (.inl e) (fun _ hx => nomatch hx)
  cases rel
  have hr : (nestedKind X.prog X.w).room X.A := by show X.A.units + 8 < cLine; omega
  refine wpAny_dictSet_heap (hsz := Nat.zero_le _) hr (eb.is I3) dd fun h' dd' hs => ?_
  obtain ⟨qo, es, ep, hq, h2, h3, h4, _, h5⟩ := dd'
  exact ⟨.ref s.heap.objs.size, upd H2 s.heap.objs.size (DkO X.prog X.w s.heap.objs.size [(ks, b, y)]), d_write I3 (by rw [e]; exact True.intro) hs ⟨qo, hq⟩ (DkP.ok ⟨by show 1 ≤ sizeLine; decide, hd, _, .cons ⟨rfl, rfl, ry⟩ .nil, qo, es, ep, hq, h2, h3, h4, h5⟩), rfl, q2⟩
section
variable {Ω : Type} {X : Cx} {W : Wd Ω} {get : Ω → Dm} {put : Ω → Dm → Ω} {k v : Expr} {pk pv : DE Ω} {pos : Pos}
def wNDisp1 (get : Ω → Dm) (put : Ω → Dm → Ω) (pk pv : DE Ω) : DE Ω := fun sl w C => pk sl w fun dk fk w1 => pv sl w1 fun dv fv w2 => fk = .cl ∧ fv = .cl ∧ (keyN dk).isSome = true ∧ ∀ q, get w2 q = none → C (.opq (.ref q)) .cl (put w2 (updN (get w2) q (false, [(dk, dv)])))
theorem d_ndisp1 (io : NkIn X W get put) (hu : X.A.units + 64 < cLine) (hk : PD X W k pk) (hv : PD X W v pv) : PD X W (.Dict [some k] [v] pos) (wNDisp1 get put pk pv) := by
  refine ⟨pe_imp (pe_ndisp1 hu hk.run hv.run) fun σ H Q ⟨B, F, G, w, sl, r, z⟩ p hp => ?_, fun sl w C C' hC z => hk.mono _ _ _ _ (fun dk fk w1 z1 => hv.mono _ _ _ _ (fun dv fv w2 ⟨a, b, c, d⟩ => ⟨a, b, c, fun q hq => hC _ _ _ (d q hq)⟩) z1) z⟩
  obtain ⟨hB, hn⟩ := r.fresh hp
  have hbk := r.hr.k
  refine ⟨upd B p (DkO X.prog X.w p []), F, G, w, sl, r.addB hp, hk.mono _ _ _ _ (fun dk fk w1 z1 kv F1 G1 H1 r1 e1 f1 => ?_) z⟩
  refine ⟨upd B p (DkO X.prog X.w p []), F1, G1, w1, sl, r1, hv.mono _ _ _ _ (fun dv fv w2 ⟨a, b, c, d⟩ vv F2 G2 H2 r2 e2 f2 => ?_) z1⟩
  subst a b
  obtain ⟨r3, hp2, hF, hG⟩ := r2.unkeep hB hbk
  obtain ⟨ky, ek⟩ := Option.isSome_iff_exists.mp c
  have f1 : Dr X.K F1 kv dk := f1
  have f2 : Dr X.K F2 vv dv := f2
  obtain ⟨b, rfl⟩ := keyN_ref f1 ek
  have hq : get w2 p = none := by
    cases y : get w2 p with
    | none => rfl
    | some x =>
      obtain ⟨fz, kvs⟩ := x
      obtain ⟨us, _, _, y3, y4⟩ := r3.hr.nk io y
      cases fz with
      | false => rw [hG] at y3; cases (y3 rfl).1
      | true =>
        obtain ⟨o, y5⟩ := y4 rfl
        rw [hF] at y5
        cases y5
  have r4 : SR X.K W B F2 G2 (upd H2 p (DkO X.prog X.w p [(ky, b, vv)])) w2 σ sl := by
    refine r3.to (r3.hr.chg hB hF hG) (Same.refl F2) fun i l a ob h1 h2 h _ hF' hG' _ => ?_
    have hne : a ≠ p := fun z => by
      subst z
      exact hn i l h1 h2
    rw [upd_ne hne]
    exact ⟨h, hF', hG'⟩
  obtain ⟨G', k5⟩ := r4.nnew io (kvs := [(dk, dv)]) upd_same (.cons ⟨f1.mono e2, ek, f2⟩ .nil) hB hF hG hn
  exact ⟨hp2, b, ky, rfl, ⟨dk, (f1.mono e2).mono r2.hr.f, ek⟩, d p hq (.ref p) F2 G' _ k5 (e1.trans e2) (.opq _)⟩
end
/-! dict(pairs) -/
def mergeU (us es : List NE) : List NE := es.foldl (fun acc x => putU acc x.1 x.2.1 x.2.2) us
theorem length_mergeU : ∀ (es us : List NE), (mergeU us es).length ≤ us.length + es.length
  | [], us => Nat.le_refl _
  | e :: es, us => by
    have h1 := length_mergeU es (putU us e.1 e.2.1 e.2.2)
    have h2 := length_putU us e.1 e.2.1 e.2.2
    show (mergeU (putU us e.1 e.2.1 e.2.2) es).length ≤ _
    rw [List.length_cons]
    omega
theorem NV.merge : ∀ {es : List NE} {ps : List (NestedKey × Addr × Value)} {us : List NE} {xs : List (NestedKey × Addr × Value)}, NV es ps → NV us xs → NV (mergeU us es) (storedAllH xs ps) := by
  intro es ps us xs r
  induction r generalizing us xs with
  | nil => exact fun q => q
  | @cons p q ps qs h t ih =>
    intro r0
    have e : NV (putU us p.1 p.2.1 p.2.2) (storedH xs q.1 q.2.1 q.2.2) := by
      have := r0.put p.1 (b := p.2.1) h.2.2
      rw [← h.1, ← h.2.1]
      exact this
    exact ih e
section
variable {X : Cx}
theorem npairs_of {pins : List (Addr × Obj)} {σ : L2.St} {H : Hp} {s : Shared} (I : Inv X pins σ H s) : ∀ {ps : List Addr} {es : List NE}, Paired (fun p e => SqT X.K H p [.ref e.2.1, e.2.2]) ps es →
    ∃ xs : List (NestedKey × Addr × Value), NV es xs ∧ xs.length = ps.length ∧ ∀ (j : Nat) (q : NestedKey × Addr × Value), xs[j]? = some q → ∃ b, ps[j]? = some b ∧ IsTup s.heap b #[.ref q.2.1, q.2.2]
  | _, _, .nil => ⟨[], .nil, rfl, fun j q e => by simp at e⟩
  | _, _, .cons (a := p) (b := kv) h t => by
    obtain ⟨prs, r, hl, hp⟩ := npairs_of I t
    obtain ⟨its, rv, ht, _⟩ := I.tuple h
    obtain ⟨u, y, ei, ru, ry⟩ := vals2 rv
    subst ei
    obtain rfl : u = Value.ref kv.2.1 := ru
    refine ⟨(kv.1, kv.2.1, y) :: prs, .cons ⟨rfl, rfl, ry⟩ r, by rw [List.length_cons, List.length_cons, hl], fun j q e => ?_⟩
    cases j with
    | zero =>
      have e' : (kv.1, kv.2.1, y) = q := Option.some.inj e
      subst e'
      exact ⟨p, rfl, ht⟩
    | succ j =>
      obtain ⟨b, e1, e2⟩ := hp j q (by simpa using e)
      exact ⟨b, by simpa using e1, e2⟩
def rNDictL (X : Cx) : List V → Hp → VK → Prop := fun xs H Q => ∃ (a : Addr) (ps : List Addr) (es : List NE), xs = [.ref a] ∧ SqL X.K H a (ps.map V.ref) ∧ Paired (fun p e => SqT X.K H p [.ref e.2.1, e.2.2]) ps es ∧ UsOk X.K H es ∧ ∀ p, H p = none → Q (.ref p) (upd H p (DkO X.prog X.w p (mergeU [] es)))
theorem call_ndictL (hu : X.A.units + 64 < cLine) (hcalm : X.calm = true) : CallR X (.type "dict") (rNDictL X) := by
  intro pins s σ H xs us Q I r q
  obtain ⟨a, ps, es, ex, hq, hp, ue, q⟩ := q
  subst ex
  obtain ⟨u, eu, rx⟩ := vals1 r
  subst eu
  cases rx
  obtain ⟨its, rv, pl, hz⟩ := I.list hq
  have ei := refs_at rv
  subst ei
  rw [List.length_map] at hz
  obtain ⟨prs, rel, hl, hpr⟩ := npairs_of I hp
  obtain ⟨o, n, ho, hc, hd, hdat⟩ := pl
  have hle : es.length = prs.length := Paired.length rel
  have P := PairArg.list (prog := X.prog) (w := X.w) a (ps.map Value.ref).toArray (fun j => ps.getD j 0) (prs.map fun x => (Value.ref x.2.1, x.2.2))
  have hr : (nestedKind X.prog X.w).room X.A.in1.in1 := by show X.A.units + 1 + 1 + 8 < cLine; omega
  refine call_dict_pairsH (knd := nestedKind X.prog X.w) (ps := prs) P (I.ok.hd hcalm) hr ⟨⟨o, n, ho, hc, hd, hdat⟩, by simp [hl], fun j k v e => ?_⟩ ⟨by simp, fun i key v e => ?_⟩ (fun h' hk x hx => ?_) (by rw [List.length_map, hl]; exact hz) fun h' tk hd' k => ?_
  · rw [List.getElem?_map, Option.map_eq_some_iff] at e
    obtain ⟨x, hx, ee⟩ := e
    cases ee
    obtain ⟨b, e1, e2⟩ := hpr j x hx
    refine ⟨by simp [e1], .inl ?_⟩
    show Heap.IsTuple s.heap (ps.getD j 0) _
    rw [List.getD_eq_getElem?_getD, e1]
    exact e2
  · have e : (prs.map fun x => (Value.ref x.2.1, x.2.2))[i]? = some (key, v) := e
    rw [List.getElem?_map, Option.map_eq_some_iff] at e
    obtain ⟨x, hx, ee⟩ := e
    cases ee
    exact ⟨x.1, x.2.1, hx, rfl⟩
  · refine nestedKind_stays.stays (fun b ob vs m e _ => hk b ob (Nat.ne_of_lt (Heap.lt_size e)) (fun z => nomatch z) e) (rel.is I ue x hx)
  · have hm : (s.heap.objs.size == sysModules) = false := beq_eq_false_iff_ne.mpr (Nat.ne_of_gt I.big)
    have hlen : (mergeU [] es).length ≤ sizeLine := by
      refine Nat.le_trans (length_mergeU es []) ?_
      rw [List.length_nil, Nat.zero_add, hle, hl]
      exact hz
    obtain ⟨qo, ees, ep, hq1, h2, h3, h4, _, h5⟩ := hd'
    exact ⟨.ref s.heap.objs.size, upd H s.heap.objs.size (DkO X.prog X.w s.heap.objs.size (mergeU [] es)), I.laid (t' := tk) (fun b o e => k b o (fun z => nomatch z) e) (Nat.le_refl _) (DkP.ok ⟨hlen, hm, _, NV.merge rel .nil, qo, ees, ep, hq1, h2, h3, h4, h5⟩), rfl, q _ (I.hok.fresh (Nat.le_refl _))⟩
end
/-- the pairs of a list, over data -/
def pairsD : List Dt → Option DEnt
  | [] => some []
  | .tup [k, v] :: l => if (keyN k).isSome = true then (pairsD l).map fun r => (k, v) :: r else none
  | _ => none
def mergeN (kvs more : DEnt) : DEnt := more.foldl (fun acc x => putN acc x.1 x.2) kvs
theorem EnR.merge {K : PySem.W.Frag} {F : Hp} : ∀ {es : List NE} {more : DEnt} {us : List NE} {kvs : DEnt}, EnR K F es more → EnR K F us kvs → EnR K F (mergeU us es) (mergeN kvs more) := by
  intro es more us kvs r
  induction r generalizing us kvs with
  | nil => exact fun q => q
  | @cons p q ps qs h t ih => exact fun r0 => ih (r0.put h.2.1 h.1 h.2.2)
theorem pairsD_run {K : PySem.W.Frag} {F : Hp} : ∀ {l : List Dt} {vs : List V} {kvs : DEnt}, DrL K F vs l → pairsD l = some kvs → ∃ (ps : List Addr) (es : List NE), vs = ps.map V.ref ∧ Paired (fun p (e : NE) => SqT K F p [.ref e.2.1, e.2.2]) ps es ∧ EnR K F es kvs
  | [], _, _, h, e => by
    cases h
    simp only [pairsD, Option.some.injEq] at e
    subst e
    exact ⟨[], [], rfl, .nil, .nil⟩
  | d :: l, _, _, h, e => by
    cases h with
    | cons h1 h2 =>
      unfold pairsD at e
      split at e
      · rename_i q; cases q
      · rename_i k v l' q
        cases q
        split at e
        · rename_i hk
          rw [Option.map_eq_some_iff] at e
          obtain ⟨r, e1, rfl⟩ := e
          obtain ⟨ps, es, rfl, q1, q2⟩ := pairsD_run h2 e1
          obtain ⟨ky, ek⟩ := Option.isSome_iff_exists.mp hk
          have fin : ∀ {a : Addr} {ws : List V}, SqT K F a ws → DrL K F ws [k, v] → ∃ (ps' : List Addr) (es' : List NE), V.ref a :: ps.map V.ref = ps'.map V.ref ∧ Paired (fun p (e : NE) => SqT K F p [.ref e.2.1, e.2.2]) ps' es' ∧ EnR K F es' ((k, v) :: r) := fun {a ws} hs hd => by
            cases hd with
            | cons d1 d2 =>
              cases d2 with
              | cons d3 d4 =>
                cases d4
                obtain ⟨b, rfl⟩ := keyN_ref d1 ek
                exact ⟨a :: ps, (ky, b, _) :: es, rfl, .cons hs q1, .cons ⟨d1, ek, d3⟩ q2⟩
          cases h1 with
          | tup g1 g2 => exact fin (SqT.of g1) g2
          | tupK g1 g2 _ => exact fin g1.t g2
        · cases e
      · cases e
section
variable {Ω : Type} {X : Cx} {W : Wd Ω} {get : Ω → Dm} {put : Ω → Dm → Ω} {a : Expr} {pa : DE Ω} {x : Str} {p pos : Pos}
def wNDictL (get : Ω → Dm) (put : Ω → Dm → Ω) (pa : DE Ω) : DE Ω := fun sl w C => pa sl w fun d fl w1 => fl = .cl ∧ ∃ l kvs, d = .lst l ∧ pairsD l = some kvs ∧ ∀ q, get w1 q = none → C (.opq (.ref q)) .cl (put w1 (updN (get w1) q (false, mergeN [] kvs)))
theorem d_ndictL (io : NkIn X W get put) (hu : X.A.units + 64 < cLine) (hcalm : X.calm = true) (hg : Gl X x) (hm : X.mg x = none) (hv : bootBuiltins x = some (.type "dict")) (ha : PD X W a pa)
    (hs : starEach (a :: []) X.env = (false, eval a X.env) :: starEach [] X.env := by rfl) (hn : x ≠ "__name__" := by decide) (hdb : (x == ("__debug__" : Str)) = false := by decide) : PD X W (.Call (.Name x p) [a] [] pos) (wNDictL get put pa) := by
  refine ⟨pe_imp (pe_callTy (call_ndictL hu hcalm) hg hm hv (pa_cons ha.run pa_nil hs) hn hdb hs rfl) fun σ H Q ⟨B, F, G, w, sl, r, z⟩ => ?_, fun sl w C C' hC z => ha.mono _ _ _ _ (fun d fl w1 ⟨z0, l, kvs, z1, z2, z3⟩ => ⟨z0, l, kvs, z1, z2, fun q hq => hC _ _ _ (z3 q hq)⟩) z⟩
  refine ⟨B, F, G, w, sl, r, ha.mono _ _ _ _ (fun d fl w1 ⟨z0, l, kvs, z1, z2, z3⟩ v F1 G1 H1 r1 e1 f1 => ?_) z⟩
  subst z0 z1
  have f1 : Dr X.K F1 v (.lst l) := f1
  cases f1 with
  | @lst b vs _ g1 g2 =>
    obtain ⟨ps, es, rfl, q1, q2⟩ := pairsD_run g2 z2
    refine ⟨b, ps, es, rfl, .of (r1.hr.f _ _ g1), Paired.mapP q1 fun _ _ z => sameSeqT r1.hr.f z, (q2.mono r1.hr.f).us, fun p hp => ?_⟩
    have hq : get w1 p = none := by
      cases y : get w1 p with
      | none => rfl
      | some x =>
        obtain ⟨fz, kvs⟩ := x
        obtain ⟨us, _, y2, _⟩ := r1.hr.nk io y
        rcases y2 with y2 | ⟨_, y2⟩ <;> · rw [hp] at y2; cases y2
    obtain ⟨G', k⟩ := (r1.newOwn (o := DkO X.prog X.w p (mergeU [] es)) hp).nnew io upd_same (q2.merge .nil) (r1.fresh hp).1 (r1.hr.f.free hp) (r1.hr.g.free hp) (r1.fresh hp).2
    exact z3 p hq (.ref p) F1 G' _ k e1 (.opq _)
end
/-! x = l.pop() of an own list -/
section
variable {Ω : Type} {X : Cx} {W : Wd Ω} {pos : Pos}
def wPopTo (j i : Nat) : DS Ω := fun D sl w => ∃ l d, sl[i]? = some (some (.own (l ++ [d]))) ∧ D.nx ((sl.set i (some (.own l))).set j (some (.dat d))) w
theorem ds_popTo {i j : Nat} {x y : Str} {pos' p apos cpos : Pos} (hN : X.N.Nodup) (hj : X.N[j]? = some x) (hx : Loc X.env.scope x) (ho : PE X (.Name y p) (tVar i)) (hb : PE X (.Call (.Attribute (.Name y p) "pop" apos) [] [] cpos) (tBM0 X.K "list" rPop (tVar i)))
    (hs : swapsWith (.Call (.Attribute (.Name y p) "pop" apos) [] [] cpos) (some (.Name x pos')) pos.line X.env = pure false := by rfl)
    (hf : X.fn x = true ∨ X.env.scope.names.lookup x = some .local := by first | exact .inl rfl | exact .inr rfl | assumption) : PDS X W (.Assign [.Name x pos'] (.Call (.Attribute (.Name y p) "pop" apos) [] [] cpos) pos) (wPopTo j i) := by
  refine ⟨ps_imp (ps_set hN hj hx hb hs hf) fun D σ H ⟨B, F, G, w, sl, r, l, d, hl, z⟩ => ?_, fun D D' le sl w ⟨l, d, hl, z⟩ => ⟨l, d, hl, le.nx _ _ z⟩⟩
  obtain ⟨a, vs, q1, q2, q3, q4, q5, q6⟩ := r.getOwn hl
  refine ⟨.ref a, q1, .inl ⟨rfl, vs, .of q5⟩, ?_⟩
  obtain ⟨us, v, rfl, k4, k5⟩ := q6.snoc
  refine ⟨a, us ++ [v], v, rfl, rfl, q5, by simp, ?_⟩
  rw [List.dropLast_concat]
  exact z _ F G _ ((r.ownChg hl q1 k4).dat j k5) (Same.refl F)
end
/-! a module's constant tuple -/
mutual
def ktV (K : PySem.W.Frag) : Nat → Value → Option Dt
  | _, .none => some .non
  | _, .bool b => some (.bl b)
  | _, .int i _ => some (.int i)
  | _, .str x _ => some (.str x)
  | f + 1, .ref a => match K.lookup a with
    | some ⟨.type t, _, .seq its _, _⟩ => if (t == "tuple" && decide (its.size ≤ 1000)) = true then (ktL K f its.toList).bind fun l => if (keysT l).isNone = true then some (.tup l) else none else none
    | _ => none
  | _, _ => none
def ktL (K : PySem.W.Frag) : Nat → List Value → Option (List Dt)
  | _, [] => some []
  | 0, _ :: _ => none
  | f + 1, v :: l => (ktV K f v).bind fun d => (ktL K f l).map fun r => d :: r
end
theorem kt_run {K : PySem.W.Frag} : ∀ f : Nat, (∀ (u : Value) (d : Dt), ktV K f u = some d → ∃ v, RelV v u ∧ ∀ F, Dr K F v d) ∧ ∀ (us : List Value) (l : List Dt), ktL K f us = some l → ∃ vs, Vals vs us ∧ ∀ F, DrL K F vs l := by
  intro f
  induction f with
  | zero =>
    refine ⟨fun u d e => ?_, fun us l e => ?_⟩
    · unfold ktV at e
      split at e
      · cases e; exact ⟨.non, rfl, fun F => .non⟩
      · cases e; exact ⟨.bl _, rfl, fun F => .bl _⟩
      · cases e; exact ⟨.int _, ⟨_, rfl⟩, fun F => .int _⟩
      · cases e; exact ⟨.str _, ⟨_, rfl⟩, fun F => .str _⟩
      · rename_i q; cases q
      · cases e
    · cases us with
      | nil => simp only [ktL, Option.some.injEq] at e; subst e; exact ⟨[], .nil, fun F => .nil⟩
      | cons _ _ => simp only [ktL] at e; cases e
  | succ f ih =>
    refine ⟨fun u d e => ?_, fun us l e => ?_⟩
    · unfold ktV at e
      split at e
      · cases e; exact ⟨.non, rfl, fun F => .non⟩
      · cases e; exact ⟨.bl _, rfl, fun F => .bl _⟩
      · cases e; exact ⟨.int _, ⟨_, rfl⟩, fun F => .int _⟩
      · cases e; exact ⟨.str _, ⟨_, rfl⟩, fun F => .str _⟩
      · rename_i f' a q
        cases q
        split at e
        · rename_i t od its n sl hk
          split at e
          · rename_i hb
            rw [Bool.and_eq_true, decide_eq_true_eq, beq_iff_eq] at hb
            rw [Option.bind_eq_some_iff] at e
            obtain ⟨l, e1, e2⟩ := e
            split at e2
            · rename_i hn
              cases e2
              obtain ⟨vs, rv, dv⟩ := ih.2 _ _ e1
              exact ⟨.ref a, rfl, fun F => .tupK (.inl ⟨_, its, n, hk, by rw [hb.1], rfl, Nat.le_trans hb.2 (by decide), rv⟩) (dv F) (Option.isNone_iff_eq_none.mp hn)⟩
            · cases e2
          · cases e
        · cases e
      · cases e
    · cases us with
      | nil => simp only [ktL, Option.some.injEq] at e; subst e; exact ⟨[], .nil, fun F => .nil⟩
      | cons u us =>
        simp only [ktL, Option.bind_eq_some_iff, Option.map_eq_some_iff] at e
        obtain ⟨d, e1, r, e2, rfl⟩ := e
        obtain ⟨v, h1, h2⟩ := ih.1 _ _ e1
        obtain ⟨vs, h3, h4⟩ := ih.2 _ _ e2
        exact ⟨v :: vs, .cons h1 h3, fun F => .cons (h2 F) (h4 F)⟩
/-- the name n holds ((), 0) -/
def startB (K : PySem.W.Frag) (n : Str) : Bool := match PySem.W.nsIn K mainGlobals n with
  | some (some u) => (match ktV K 8 u with | some (.tup [.tup [], .int i]) => i == 0 | _ => false)
  | _ => false
abbrev strtD : Dt := .tup [.tup [], .int 0]
def GCon (K : PySem.W.Frag) (mg : Str → Option Value) (n : Str) (d : Dt) : Prop := ∃ v u, mg n = some u ∧ RelV v u ∧ ∀ F, Dr K F v d
theorem start_of {K : PySem.W.Frag} {h : Heap} {mg : Str → Option Value} {n : Str} (X : K.In h) (G : h.Ns mainGlobals mg) (e : startB K n = true) : GCon K mg n strtD := by
  unfold startB at e
  split at e
  · rename_i u hu
    split at e
    · rename_i i hi
      rw [beq_iff_eq] at e
      subst e
      obtain ⟨v, h1, h2⟩ := (kt_run 8).1 _ _ hi
      exact ⟨v, u, PySem.W.mg_of X G hu, h1, h2⟩
    · cases e
  · cases e
theorem d_gcon {Ω : Type} {X : Cx} {W : Wd Ω} {x : Str} {d : Dt} {pos : Pos} (hg : Gl X x) (h : GCon X.K X.mg x d) (hdb : (x == ("__debug__" : Str)) = false := by decide) : PD X W (.Name x pos) (wC d) := by
  constructor
  · constructor
    intro pins s σ H Q I z
    obtain ⟨v, u, hm, hr, hd⟩ := h
    exact (d_glob (W := W) (d := d) hg hm (r := hr) (v := v) hd hdb).run.run pins s σ H Q I z
  · intro sl w C C' hC z
    exact hC _ _ _ z
section
variable {Ω : Type} {X : Cx} {W : Wd Ω} {get : Ω → Dm} {put : Ω → Dm → Ω} {o ie : Expr} {po pk : DE Ω} {pos : Pos}
theorem dt_nin (io : NkIn X W get put) (hu : X.A.units + 64 < cLine) (hk : PD X W ie pk) (ho : PD X W o po) (hm : behindInMarks .In o = false := by rfl) : PDT X W (.Compare ie [.In] [o] pos) (wTV (wNIn get false pk po)) :=
  ⟨pt_imp (pt_cmp (pc_nin hu hk.run ho.run) hm) fun σ H Q z => imp_nin io hk ho _ _ _ (lft_TV (mono_nin hk ho) σ H Q z), mono_TV (mono_nin hk ho)⟩
theorem dt_nnin (io : NkIn X W get put) (hu : X.A.units + 64 < cLine) (hk : PD X W ie pk) (ho : PD X W o po) (hm : behindInMarks .NotIn o = false := by rfl) : PDT X W (.Compare ie [.NotIn] [o] pos) (wTV (wNIn get true pk po)) :=
  ⟨pt_imp (pt_cmp (pc_nnin hu hk.run ho.run) hm) fun σ H Q z => imp_nin io hk ho _ _ _ (lft_TV (mono_nin hk ho) σ H Q z), mono_TV (mono_nin hk ho)⟩
end
end Ck
namespace Ck
open PySem PySem.Spec PyProof.Rows L2
open LamX (CodeO TabB LamS lamEnv lamCx)
/-! ### the table of a maker's lambdas, wherever it stands in a world -/
abbrev TabIn {Ω : Type} (W : Wd Ω) (P : Addr) (q : Str) : Prop := CompIn W (fun _ => ()) (fun w (_ : Unit) => w) fun _ F G => (TabW P q).ok () F G
theorem TabIn.at {Ω : Type} {W : Wd Ω} {P : Addr} {q : Str} {B0 F0 : Hp} (h : TabIn W P q) : TabIn (W.at B0 F0) P q := CompIn.at h
end Ck
namespace Ck
open PySem PySem.Spec PyProof.Rows L2
/-! ### a part of a world stands as well in a greater one -/
def UpG {M : Type} (W : Wd M) : Prop := ∀ (w : M) (F G G' : Hp), Same G G' → W.ok w F G → W.ok w F G'
theorem CompIn.self {M : Type} {W : Wd M} (u : UpG W) : CompIn W (fun w => w) (fun _ m => m) W.ok :=
  ⟨fun w F G h => ⟨G, Same.refl _, h⟩, fun w F G G' m' h k => by
    obtain ⟨G2', k1, k2, k3⟩ := k G (Same.refl _) h
    exact u _ _ _ _ k2 k1⟩
open Classical in
/-- G' without what is another's for sure -/
noncomputable def less (G' Gx : Hp) : Hp := fun a => if ∃ o, Gx a = some o ∧ ¬ IsTp o then none else G' a
theorem less_some {G' Gx : Hp} {a : Addr} {o : HO} (h : less G' Gx a = some o) : G' a = some o ∧ ∀ u, Gx a = some u → IsTp u := by
  unfold less at h
  split at h
  · cases h
  · rename_i hn
    exact ⟨h, fun u hu => Classical.byContradiction fun z => hn ⟨u, hu, z⟩⟩
theorem less_of {G' Gx : Hp} {a : Addr} {o : HO} (h : G' a = some o) (k : ∀ u, Gx a = some u → IsTp u) : less G' Gx a = some o := by
  unfold less
  rw [if_neg (fun ⟨u, h1, h2⟩ => h2 (k u h1))]
  exact h
section
variable {Ω1 Ω2 M : Type} {W1 : Wd Ω1} {W2 : Wd Ω2} {Ok : M → Hp → Hp → Prop}
theorem CompIn.left {get : Ω1 → M} {put : Ω1 → M → Ω1} (h : CompIn W1 get put Ok) : CompIn (W1.sep W2) (fun w => get w.1) (fun w m => (put w.1 m, w.2)) Ok := by
  refine ⟨fun w F G ⟨G1, G2, h1, h2, e1, e2, hd⟩ => ?_, fun w F G G' m' ⟨G1, G2, h1, h2, e1, e2, hd⟩ k => ?_⟩
  · obtain ⟨Ga, x1, x2⟩ := h.sub w.1 F G1 h1
    exact ⟨Ga, x1.trans e1, x2⟩
  · obtain ⟨Ga, x1, x2⟩ := h.sub w.1 F G1 h1
    obtain ⟨Ga', k1, k2, k3⟩ := k Ga (x1.trans e1) x2
    have s2 : Same G2 G' := fun a o q => by
      refine (k3 a o (e2 _ _ q) ?_).1
      cases z : Ga a with
      | none => exact .inl rfl
      | some u =>
        have z1 := x1 _ _ z
        rcases hd a u z1 with y | y
        · rw [q] at y; cases y
        · have y1 := e1 _ _ z1
          rw [e2 _ _ q] at y1
          cases y1
          exact .inr y
    refine ⟨less G' G2, G2, h.step w.1 F G1 (less G' G2) m' h1 fun Gb y1 y2 => ?_, h2, fun a o q => (less_some q).1, s2, fun a o q => ?_⟩
    · obtain ⟨Gb', j1, j2, j3⟩ := k Gb (y1.trans e1) y2
      refine ⟨Gb', j1, fun a o q => less_of (j2 _ _ q) fun u hu => ?_, fun a o q z => ?_⟩
      · refine Classical.byContradiction fun nt => ?_
        have gb : Gb a = none := by
          cases y : Gb a with
          | none => rfl
          | some t =>
            rcases hd a t (y1 _ _ y) with v | v
            · rw [hu] at v; cases v
            · have v1 := e1 _ _ (y1 _ _ y)
              rw [e2 _ _ hu] at v1
              cases v1
              exact absurd v nt
        rcases (j3 a u (e2 _ _ hu) (.inl gb)).2 with v | v
        · rw [q] at v; cases v
        · exact nt v
      · obtain ⟨v1, v2⟩ := j3 a o (e1 _ _ q) z
        refine ⟨less_of v1 fun u hu => ?_, v2⟩
        rcases hd a o q with y | y
        · rw [hu] at y; cases y
        · have y1 := e1 _ _ q
          rw [e2 _ _ hu] at y1
          cases y1
          exact y
    · obtain ⟨v1, v2⟩ := less_some q
      cases z : G2 a with
      | none => exact .inl rfl
      | some u =>
        have := s2 _ _ z
        rw [v1] at this
        cases this
        exact .inr (v2 _ z)
theorem CompIn.right {get : Ω2 → M} {put : Ω2 → M → Ω2} (h : CompIn W2 get put Ok) : CompIn (W1.sep W2) (fun w => get w.2) (fun w m => (w.1, put w.2 m)) Ok := by
  refine ⟨fun w F G ⟨G1, G2, h1, h2, e1, e2, hd⟩ => ?_, fun w F G G' m' ⟨G1, G2, h1, h2, e1, e2, hd⟩ k => ?_⟩
  · obtain ⟨Ga, x1, x2⟩ := h.sub w.2 F G2 h2
    exact ⟨Ga, x1.trans e2, x2⟩
  · obtain ⟨Ga, x1, x2⟩ := h.sub w.2 F G2 h2
    obtain ⟨Ga', k1, k2, k3⟩ := k Ga (x1.trans e2) x2
    have hd' : ∀ a o, G2 a = some o → G1 a = none ∨ IsTp o := fun a o q => by
      cases z : G1 a with
      | none => exact .inl rfl
      | some u =>
        rcases hd a u z with y | y
        · rw [q] at y; cases y
        · have y1 := e1 _ _ z
          rw [e2 _ _ q] at y1
          cases y1
          exact .inr y
    have s1 : Same G1 G' := fun a o q => by
      refine (k3 a o (e1 _ _ q) ?_).1
      cases z : Ga a with
      | none => exact .inl rfl
      | some u =>
        have z1 := x1 _ _ z
        rcases hd' a u z1 with y | y
        · rw [q] at y; cases y
        · have y1 := e2 _ _ z1
          rw [e1 _ _ q] at y1
          cases y1
          exact .inr y
    refine ⟨G1, less G' G1, h1, h.step w.2 F G2 (less G' G1) m' h2 fun Gb y1 y2 => ?_, s1, fun a o q => (less_some q).1, fun a o q => ?_⟩
    · obtain ⟨Gb', j1, j2, j3⟩ := k Gb (y1.trans e2) y2
      refine ⟨Gb', j1, fun a o q => less_of (j2 _ _ q) fun u hu => ?_, fun a o q z => ?_⟩
      · refine Classical.byContradiction fun nt => ?_
        have gb : Gb a = none := by
          cases y : Gb a with
          | none => rfl
          | some t =>
            rcases hd' a t (y1 _ _ y) with v | v
            · rw [hu] at v; cases v
            · have v1 := e2 _ _ (y1 _ _ y)
              rw [e1 _ _ hu] at v1
              cases v1
              exact absurd v nt
        rcases (j3 a u (e1 _ _ hu) (.inl gb)).2 with v | v
        · rw [q] at v; cases v
        · exact nt v
      · obtain ⟨v1, v2⟩ := j3 a o (e2 _ _ q) z
        refine ⟨less_of v1 fun u hu => ?_, v2⟩
        rcases hd' a o q with y | y
        · rw [hu] at y; cases y
        · have y1 := e2 _ _ q
          rw [e1 _ _ hu] at y1
          cases y1
          exact y
    · cases z : less G' G1 a with
      | none => exact .inl rfl
      | some u =>
        obtain ⟨v1, v2⟩ := less_some z
        exact .inr (v2 _ q)
end
end Ck
namespace Ck
open PySem PySem.Spec PyProof.Rows L2
/-! ### sorted(d), d a dict that is changed no more, its keys pairs of ints -/
section
variable {prog : Program} {w : World} {A : Around} {d I0 : Addr} {od : Obj} {es : Array DictEntry} {ep : Nat}
theorem walks_keys (hh : A.handled = none) (hne : d ≠ I0) (hod : od.data = .dict es ep) : Walks prog w A I0 [I0, d] [I0] es.size (fun i v => ∃ en, es[i]? = some en ∧ v = en.key) (fun i h => h.IsKeyIter I0 d i es.size ep ∧ h.get? d = some od) where
  sub := fun b hb => by
    rw [List.mem_singleton.mp hb]
    exact List.mem_cons_self
  frame := fun i h h' st k => ⟨st.1.at fun o e => k I0 (by simp) o e, k d (by simp) od st.2⟩
  item := fun i s Q E hi st hQ => by
    refine next_key_item st.1 st.2 hod rfl (Array.getElem?_eq_getElem hi) fun h' hit sb => ?_
    have kp : ∀ b o, b ∉ [I0] → s.heap.get? b = some o → h'.get? b = some o := fun b o hb e => sb.extBut b o (fun z => hb (by rw [z]; exact List.mem_singleton.mpr rfl)) e
    exact hQ _ h' s.toks ⟨_, Array.getElem?_eq_getElem hi, rfl⟩ ⟨hit, kp d od (fun z => hne (List.mem_singleton.mp z)) st.2⟩ kp
  done := fun s Q E st hQ => next_key_end hh st.1 st.2 hod rfl (Nat.le_refl _) fun h' eb => hQ h' s.toks fun b o hb e => eb b o (fun z => hb (by rw [z]; exact List.mem_singleton.mpr rfl)) e
  self := fun i s Q E st hQ => wpAny_pyIter_keyiter st.1 hQ
theorem src_keys (lo : (d == sysModules) = false) (hx : od.ExactDict) (hod : od.data = .dict es ep) : PySem.W.KdlSrc prog w "dict" d d es.size (fun i v => ∃ en, es[i]? = some en ∧ v = en.key) (fun h => h.get? d = some od) where
  type := fun s hm => ⟨od, hm, hx.1⟩
  there := fun h hm => ⟨Heap.lt_size hm, Heap.lt_size hm⟩
  keep := fun h h' hm k => k d (.inl rfl) od hm
  notList := by decide
  notTuple := by decide
  hint := fun A E s Q hm hq => PySem.W.kdl_hint_dict ⟨od, hm, hx.1⟩ hq
  iter := fun A s hh hm => ⟨_, _, fun E Q hq => iter_keys lo hm hx hod hq, walks_keys hh (Nat.ne_of_lt (Heap.lt_size hm)) hod, ⟨⟨_, Heap.get?_push_size _ rfl, rfl, rfl⟩, Heap.get?_push_of_some _ hm⟩⟩
end
end Ck
namespace Ck
open PySem PySem.Spec PyProof.Rows L2
open PySem.W (AlikeAll dataLt iter_tupleW moved_old cmpIn_lt)
/-! ### min(a, b) of alike data -/
/-! ### runs of sets, one before the other -/
def pp (s : Int × Int) : PyData := .tuple [.int s.1, .int s.2]
end Ck
namespace Ck
open PySem PySem.Spec PyProof.Rows L2
open PySem.W (dataLt AllAlike EachIs dataKind)
/-! ### sorted(xs), xs alike data, any number of them -/
def leP (a b : V × PyData) : Bool := !dataLt b.2 a.2
theorem dpAll_len {K : PySem.W.Frag} {H : Hp} : ∀ {xs : List V} {ds : List PyData}, DpAll K H xs ds → xs.length = ds.length
  | _, _, .nil => rfl
  | _, _, .cons _ r => congrArg (· + 1) (dpAll_len r)
theorem dp_zip {X : Cx} {pins : List (Addr × Obj)} {σ : L2.St} {H : Hp} {s : Shared} (I : L2.Inv X pins σ H s) : ∀ {xs : List V} {us : List Value} {ds : List PyData}, Vals xs us → DpAll X.K H xs ds → EachIs (fun v (b : V × PyData) => RelV b.1 v) us (xs.zip ds) ∧ EachIs (fun v (b : V × PyData) => ∃ as, Reads s.heap v b.2 as) us (xs.zip ds)
  | _, _, _, .nil, .nil => ⟨.nil, .nil⟩
  | _, _, _, .cons r rs, .cons q qs => let ⟨a, b⟩ := dp_zip I rs qs; ⟨.cons r a, .cons (Dp.reads I _ _ _ q r) b⟩
theorem vals_each : ∀ {us : List Value} {bs : List (V × PyData)}, EachIs (fun v (b : V × PyData) => RelV b.1 v) us bs → Vals (bs.map (·.1)) us
  | _, _, .nil => .nil
  | _, _, .cons r rs => .cons r (vals_each rs)
theorem zip_snd : ∀ {xs : List V} {ds : List PyData}, xs.length = ds.length → (xs.zip ds).map (·.2) = ds
  | [], [], _ => rfl
  | _ :: xs, d :: ds, h => congrArg (d :: ·) (zip_snd (xs := xs) (ds := ds) (Nat.succ.inj h))
/-! over data -/
def leD (a b : Dt × PyData) : Bool := !dataLt b.2 a.2
def fSortedN : Dt → (List Dt → Prop) → Prop := fun d C => ∃ (xs : List Dt) (ds : List PyData), d = .lst xs ∧ pyL xs = some ds ∧ AllAlike ds ∧ PySem.W.Sortable ds ∧ (∀ d ∈ ds, d.depth ≤ 60) ∧ C (((xs.zip ds).mergeSort leD).map (·.1))
theorem pyL_len : ∀ {xs : List Dt} {ds : List PyData}, pyL xs = some ds → xs.length = ds.length
  | [], ds, h => by
    simp only [pyL, Option.some.injEq] at h
    subst h
    rfl
  | x :: xs, ds, h => by
    simp only [pyL] at h
    cases e1 : x.py with
    | none => simp [e1] at h
    | some d =>
      cases e2 : pyL xs with
      | none => simp [e1, e2] at h
      | some es =>
        simp [e1, e2] at h
        subst h
        exact congrArg (· + 1) (pyL_len e2)
theorem drL_of {K : PySem.W.Frag} {F : Hp} : ∀ {zs : List (V × Dt × PyData)}, (∀ z ∈ zs, Dr K F z.1 z.2.1) → DrL K F (zs.map (·.1)) (zs.map (·.2.1))
  | [], _ => .nil
  | z :: zs, h => .cons (h z List.mem_cons_self) (drL_of fun y hy => h y (List.mem_cons_of_mem _ hy))
theorem drL_zip {K : PySem.W.Frag} {F : Hp} : ∀ {vs : List V} {xs : List Dt} {ds : List PyData}, DrL K F vs xs → xs.length = ds.length → ∀ z ∈ vs.zip (xs.zip ds), Dr K F z.1 z.2.1
  | _, _, _, .nil, _ => fun z hz => by cases hz
  | _, _, [], .cons _ _, h => by cases h
  | _, _, d :: ds, .cons h1 h2, h => fun z hz => by
    rcases List.mem_cons.mp hz with rfl | hz
    · exact h1
    · exact drL_zip h2 (Nat.succ.inj h) z hz
theorem zip3_a : ∀ {vs : List V} {xs : List Dt} {ds : List PyData}, vs.length = xs.length → xs.length = ds.length → (vs.zip (xs.zip ds)).map (fun z => (z.1, z.2.2)) = vs.zip ds ∧ (vs.zip (xs.zip ds)).map (fun z => z.2) = xs.zip ds
  | [], [], [], _, _ => ⟨rfl, rfl⟩
  | v :: vs, x :: xs, d :: ds, h1, h2 => by
    have ⟨a, b⟩ := zip3_a (vs := vs) (xs := xs) (ds := ds) (Nat.succ.inj h1) (Nat.succ.inj h2)
    exact ⟨congrArg (List.cons _) a, congrArg (List.cons _) b⟩
theorem drL_len {K : PySem.W.Frag} {F : Hp} : ∀ {vs : List V} {xs : List Dt}, DrL K F vs xs → vs.length = xs.length
  | _, _, .nil => rfl
  | _, _, .cons _ h => congrArg (· + 1) (drL_len h)
theorem drL_sorted {K : PySem.W.Frag} {F : Hp} {vs : List V} {xs : List Dt} {ds : List PyData} (h : DrL K F vs xs) (hl : xs.length = ds.length) : DrL K F (((vs.zip ds).mergeSort leP).map (·.1)) (((xs.zip ds).mergeSort leD).map (·.1)) := by
  obtain ⟨ea, eb⟩ := zip3_a (drL_len h) hl
  let le3 : V × Dt × PyData → V × Dt × PyData → Bool := fun a b => !dataLt b.2.2 a.2.2
  have h1 : ((vs.zip (xs.zip ds)).mergeSort le3).map (fun z => (z.1, z.2.2)) = (vs.zip ds).mergeSort leP := by
    rw [PySem.W.sort_maps (r := le3) (s := leP) (fun z : V × Dt × PyData => (z.1, z.2.2)) (fun _ _ _ _ => rfl), ea]
  have h2 : ((vs.zip (xs.zip ds)).mergeSort le3).map (fun z => z.2) = (xs.zip ds).mergeSort leD := by
    rw [PySem.W.sort_maps (r := le3) (s := leD) (fun z : V × Dt × PyData => z.2) (fun _ _ _ _ => rfl), eb]
  rw [← h1, ← h2, List.map_map, List.map_map]
  exact drL_of fun z hz => drL_zip h hl z ((List.mergeSort_perm _ _).mem_iff.mp hz)
/-- the use: items that stand for the items of a list -/
theorem use_sortedN {α : Type} {l : List α} {enc : α → Dt} {pe : α → PyData} {C : List Dt → Prop} (hp : pyL (l.map enc) = some (l.map pe)) (hal : ∀ a b, PySem.W.alike (pe a) (pe b) = true) (hs : ∀ a, ∃ x r, pe a = .tuple (x :: r)) (hd : ∀ a, (pe a).depth ≤ 60)
    (h : C ((l.mergeSort (fun a b => !dataLt (pe b) (pe a))).map enc)) : fSortedN (.lst (l.map enc)) C := by
  refine ⟨_, _, rfl, hp, .of hal, .tuples hs, fun d hd' => ?_, ?_⟩
  · obtain ⟨a, _, rfl⟩ := List.mem_map.mp hd'
    exact hd a
  · have e : (l.map enc).zip (l.map pe) = l.map fun a => (enc a, pe a) := by
      rw [List.zip_map']
    rw [e, ← PySem.W.sort_maps (r := fun a b => !dataLt (pe b) (pe a)) (fun a => (enc a, pe a)) (fun _ _ _ _ => rfl), List.map_map]
    exact h
end Ck
namespace Ck
open PySem PySem.Spec PyProof.Rows L2
open PySem.W (AlikeAll dataLt iter_listW moved_old cmpIn_lt readsAll_len)
/-! ### min of a list of nested tuples -/
def bestI (ds : List PyData) : Nat := argBest (fun i j => dataLt (ds.getD i .none) (ds.getD j .none)) (ds.length - 1)
theorem min_list_at {prog : Program} {w : World} {A : Around} {E : Value → Shared → Prop} {s : Shared} {l : Addr} {vs : Array Value} {xs : List PyData} {as : List Addr} {Q : Value → Shared → Prop} (hh : A.handled = none) (hl : s.heap.IsList l vs) (hr : ReadsAll s.heap vs.toList xs as) (hne : xs ≠ []) (ha : AlikeAll xs) (hu : A.units + 1 + PyData.depthAll xs < cLine)
    (h : ∀ v h' tk, vs[bestI xs]? = some v → (∀ b o, s.heap.get? b = some o → h'.get? b = some o) → Q v { s with heap := h', toks := tk }) :
    wpAny (model prog w) A (call (.builtin "min") [.ref l]) Q E s := by
  have hn : vs.size = xs.length := readsAll_len hr
  have hp : 0 < xs.length := List.length_pos_iff.mpr hne
  refine call_min_walkH (iter_listW (A := A.in1) hh hl fun s₂ e W st hfp hw hk => ?_)
  refine ⟨_, _, _, _, _, _, _, s.heap, _, rfl, W, st, hfp, by omega, hw, hk, cmpIn_lt (A := A.in1) hr ha (by show A.units + 1 + _ < _; exact hu), fun v s' hP m => ?_⟩
  obtain ⟨h', tk, rfl, hk'⟩ := moved_old e rfl m
  rw [hn] at hP
  exact h v h' tk hP hk'
def rMinN (K : PySem.W.Frag) : List V → Hp → VK → Prop := fun vs H Q => ∃ (a : Addr) (xs : List V) (ds : List PyData), vs = [V.ref a] ∧ SqL K H a xs ∧ DpAll K H xs ds ∧ ds ≠ [] ∧ AlikeAll ds ∧ PyData.depthAll ds ≤ 60 ∧ ∀ v, xs[bestI ds]? = some v → Q v H
theorem dp_readsAll {X : Cx} {pins : List (Addr × Obj)} {σ : L2.St} {H : Hp} {s : Shared} (I : L2.Inv X pins σ H s) : ∀ {xs : List V} {us : List Value} {ds : List PyData}, Vals xs us → DpAll X.K H xs ds → ∃ as, ReadsAll s.heap us ds as
  | _, _, _, .nil, .nil => ⟨_, .nil⟩
  | _, _, _, .cons r rs, .cons q qs => by
    obtain ⟨as, h1⟩ := dp_readsAll I rs qs
    obtain ⟨bs, h2⟩ := Dp.reads I _ _ _ q r
    exact ⟨_, .cons h2 h1⟩
theorem vals_at2 : ∀ {xs : List V} {us : List Value} {i : Nat} {u : Value}, Vals xs us → us[i]? = some u → ∃ x, xs[i]? = some x ∧ RelV x u
  | _, _, _, _, .nil, h => by simp at h
  | _, _, 0, _, .cons r _, h => by
    have h := Option.some.inj h
    subst h
    exact ⟨_, rfl, r⟩
  | _, _, i + 1, _, .cons _ rs, h => vals_at2 (i := i) rs h
theorem cr_minN {X : Cx} (hc : X.calm = true) (hu : X.A.units + 64 < cLine) : CallR X (.builtin "min") (rMinN X.K) := by
  intro pins s σ H vs us Q I r h
  obtain ⟨a, xs, ds, rfl, hs, hd, hne, hal, hdp, q⟩ := h
  obtain ⟨its, rv, hl, hz⟩ := I.list hs
  rw [Vals.ref1 r]
  obtain ⟨as, hr⟩ := dp_readsAll I rv hd
  refine min_list_at (I.ok.hd hc) hl.isList hr hne hal (by omega) fun v h' tk hv k => ?_
  obtain ⟨x, hx, rx⟩ := vals_at2 rv (by simpa using hv)
  exact ⟨x, H, I.kept k, rx, q x hx⟩
def fMinN : Dt → (Dt → Prop) → Prop := fun d C => ∃ (xs : List Dt) (ds : List PyData), d = .lst xs ∧ pyL xs = some ds ∧ ds ≠ [] ∧ AlikeAll ds ∧ PyData.depthAll ds ≤ 60 ∧ ∃ m, xs[bestI ds]? = some m ∧ C m
theorem fd_minN {K : PySem.W.Frag} : FnD K (rMinN K) fMinN := by
  refine ⟨fun F H xv x Q C e hx h q => ?_, fun x C C' hC ⟨xs, ds, h1, h2, h3, h4, h5, m, h6, h7⟩ => ⟨xs, ds, h1, h2, h3, h4, h5, m, h6, hC _ h7⟩⟩
  obtain ⟨xs, ds, rfl, h2, h3, h4, h5, m, h6, h7⟩ := h
  obtain ⟨a, vs, rfl, ha, da⟩ := hx.lst e
  refine ⟨a, vs, ds, rfl, .of ha, (da.mono e).dp h2, h3, h4, h5, fun v hv => ?_⟩
  obtain ⟨v', h8, h9⟩ := da.at h6
  rw [hv] at h8
  cases h8
  exact q m v F H h7 (.refl h9)
theorem best_le {bt : Nat → Nat → Bool} (T : PySem.W.TotalLe fun a b => !bt b a) : ∀ k, argBest bt k ≤ k ∧ ∀ i, i ≤ k → bt i (argBest bt k) = false
  | 0 => by
    refine ⟨Nat.le_refl _, fun i hi => ?_⟩
    obtain rfl : i = 0 := by omega
    show bt 0 0 = false
    rcases T.total 0 0 with h | h <;> simpa using h
  | k + 1 => by
    obtain ⟨h1, h2⟩ := best_le T k
    by_cases hb : bt (k + 1) (argBest bt k) = true
    · have e : argBest bt (k + 1) = k + 1 := if_pos hb
      rw [e]
      refine ⟨Nat.le_refl _, fun i hi => ?_⟩
      by_cases hk : i = k + 1
      · subst hk
        rcases T.total (k + 1) (k + 1) with h | h <;> simpa using h
      · have h3 := h2 i (by omega)
        have h4 : bt (argBest bt k) (k + 1) = false := by
          rcases T.total (argBest bt k) (k + 1) with h | h
          · rw [hb] at h
            cases h
          · simpa using h
        have h5 := T.trans (k + 1) (argBest bt k) i (by rw [h4]; rfl) (by rw [h3]; rfl)
        simpa using h5
    · have e : argBest bt (k + 1) = argBest bt k := if_neg hb
      rw [e]
      refine ⟨by omega, fun i hi => ?_⟩
      by_cases hk : i = k + 1
      · subst hk
        simpa using hb
      · exact h2 i (by omega)
end Ck
namespace Ck
open PySem PySem.Spec PyProof.Rows L2
open PySem.W (dataLt AllAlike EachIs dataKind)
/-! ### a tuple whose object is known to have no dict, as any tuple -/
mutual
def weakD : Dt → Dt
  | .tup l => .tup (weakL l)
  | .tpx l => .tup (weakL l)
  | .lst l => .lst (weakL l)
  | .non => .non
  | .bl b => .bl b
  | .int i => .int i
  | .str x => .str x
  | .emp => .emp
  | .opq v => .opq v
  | .dic ks l => .dic ks l
  | .ins c ns l => .ins c ns l
def weakL : List Dt → List Dt
  | [] => []
  | d :: l => weakD d :: weakL l
end
theorem keyD_weak (d : Dt) : keyD (weakD d) = keyD d := by cases d <;> simp only [weakD] <;> rfl
theorem keysD_weak : ∀ l : List Dt, keysD (weakL l) = keysD l
  | [] => by simp only [weakL]
  | d :: l => by simp only [weakL, keysD, keyD_weak, keysD_weak l]
theorem keysT_weak : ∀ l : List Dt, keysT (weakL l) = keysT l
  | [] => by simp only [weakL]
  | d :: l => by
    have := keysD_weak (d :: l)
    simp only [weakL] at this ⊢
    exact this
mutual
theorem Dr.weak {K : PySem.W.Frag} {F : Hp} : ∀ {v : V} {d : Dt}, Dr K F v d → Dr K F v (weakD d)
  | _, _, .non => by simp only [weakD]; exact .non
  | _, _, .bl b => by simp only [weakD]; exact .bl b
  | _, _, .int b => by simp only [weakD]; exact .int b
  | _, _, .str b => by simp only [weakD]; exact .str b
  | _, _, .tup h q => by simp only [weakD]; exact .tup h (DrL.weak q)
  | _, _, .lst h q => by simp only [weakD]; exact .lst h (DrL.weak q)
  | _, _, .tupK (l := l) h q k => by simp only [weakD]; exact .tupK h (DrL.weak q) ((keysT_weak l).trans k)
  | _, _, .tpx (l := l) h k q => by simp only [weakD]; exact .tupK (.inr ⟨_, h⟩) (DrL.weak q) ((keysT_weak l).trans k.2)
  | _, _, .emp h => by simp only [weakD]; exact .emp h
  | _, _, .opq v => by simp only [weakD]; exact .opq v
  | _, _, .dic h k q => by simp only [weakD]; exact .dic h k q
  | _, _, .ins h h2 k q => by simp only [weakD]; exact .ins h h2 k q
theorem DrL.weak {K : PySem.W.Frag} {F : Hp} : ∀ {vs : List V} {l : List Dt}, DrL K F vs l → DrL K F vs (weakL l)
  | _, _, .nil => by simp only [weakL]; exact .nil
  | _, _, .cons h q => by simp only [weakL]; exact .cons (Dr.weak h) (DrL.weak q)
end
section
variable {Ω : Type} {X : Cx} {W : Wd Ω} {e : Expr} {p : DE Ω}
def wWk (p : DE Ω) : DE Ω := fun sl w C => p sl w fun d fl w1 => fl = .cl ∧ C (weakD d) .cl w1
end
/-! tuple(l) -/
def mkX (l : List Dt) : Dt := if (keysT l).isNone = true then .tpx l else .tup l
def rTupX (K : PySem.W.Frag) : List V → Hp → VK → Prop := fun xs H Q => ∃ p ys, xs = [.ref p] ∧ SqL K H p ys ∧ ((∀ l o, H l = none → o.dict = none → Q (.ref l) (upd H l (.frz o (.tup ys)))) ∨ ∀ l, H l = none → Q (.ref l) (upd H l (.tup ys)))
theorem call_tupX {X : Cx} : CallR X (.type "tuple") (rTupX X.K) := by
  intro pins s σ H xs us Q I r h
  obtain ⟨p, ys, rfl, hq, q⟩ := h
  obtain ⟨u, rfl, rx⟩ := vals1 r
  cases rx
  obtain ⟨its, r', pl, hz⟩ := I.list hq
  have hlen := r'.length
  refine call_tuple_list pl.isList (fun h' kp => ?_) (by simp only [List.size_toArray] <;> omega)
  have I1 : Inv X pins σ H { s with heap := h' } := I.kept (t' := s.toks) kp
  have new : ObjOk X.prog X.w (upd H h'.objs.size (.tup ys)) (h'.push { cls := .type "tuple", data := .seq its.toArray }) h'.objs.size (.tup ys) := ⟨hz, its, r', IsTup.new _ _⟩
  rcases q with q | q
  · have I2 : Inv X pins σ (upd H h'.objs.size (.frz { cls := .type "tuple", data := .seq its.toArray } (.tup ys))) { s with heap := h'.push { cls := .type "tuple", data := .seq its.toArray } } :=
      I1.laid (t' := s.toks) (fun b o e => Heap.get?_push_of_some _ e) (Nat.le_refl _) (show ObjOk X.prog X.w _ _ _ (.frz _ (.tup ys)) from ⟨Heap.get?_push_size _ rfl, hz, its, r', IsTup.new _ _⟩)
    exact ⟨.ref h'.objs.size, _, I2, rfl, q _ _ (I1.hok.fresh (Nat.le_refl _)) rfl⟩
  · have I2 : Inv X pins σ (upd H h'.objs.size (.tup ys)) { s with heap := h'.push { cls := .type "tuple", data := .seq its.toArray } } := I1.laid (t' := s.toks) (fun b o e => Heap.get?_push_of_some _ e) (Nat.le_refl _) new
    exact ⟨.ref h'.objs.size, _, I2, rfl, q _ (I1.hok.fresh (Nat.le_refl _))⟩
def fTupX : Dt → (Dt → Prop) → Prop := fun d C => ∃ l, d = .lst l ∧ C (mkX l)
theorem fd_tupX {K : PySem.W.Frag} : FnD K (rTupX K) fTupX := by
  refine ⟨fun F H xv x Q C e hx h q => ?_, fun x C C' hC ⟨l, h1, h2⟩ => ⟨l, h1, hC _ h2⟩⟩
  obtain ⟨l, rfl, h⟩ := h
  obtain ⟨a, vs, rfl, ha, da⟩ := hx.lst e
  refine ⟨a, vs, rfl, .of ha, ?_⟩
  unfold mkX at h
  by_cases z : (keysT l).isNone = true
  · rw [if_pos z] at h
    exact .inl fun p o hp ho => q _ _ _ _ h (.inr (.inl ⟨p, .frz o (.tup vs), hp, rfl, rfl, .tpx upd_same ⟨ho, Option.isNone_iff_eq_none.mp z⟩ (da.mono (sameUpd (e.free hp)))⟩))
  · rw [if_neg z] at h
    exact .inr fun p hp => q _ _ _ _ h (Ext.tup hp e da)
/-! dict(t) -/
section
variable {X : Cx}
def rNDictT (X : Cx) : List V → Hp → VK → Prop := fun xs H Q => ∃ (a : Addr) (ob : Obj) (ps : List Addr) (es : List NE), xs = [.ref a] ∧ H a = some (.frz ob (.tup (ps.map V.ref))) ∧ ob.dict = none ∧ Paired (fun p e => SqT X.K H p [.ref e.2.1, e.2.2]) ps es ∧ UsOk X.K H es ∧ ∀ p, H p = none → Q (.ref p) (upd H p (DkO X.prog X.w p (mergeU [] es)))
theorem call_ndictT (hu : X.A.units + 64 < cLine) (hcalm : X.calm = true) : CallR X (.type "dict") (rNDictT X) := by
  intro pins s σ H xs us Q I r q
  obtain ⟨a, ob, ps, es, ex, hq, hod, hp, ue, q⟩ := q
  subst ex
  obtain ⟨u, eu, rx⟩ := vals1 r
  subst eu
  cases rx
  obtain ⟨ho, hz, its, rv, o, ho', hc, n, hdat⟩ := (show ObjOk X.prog X.w H s.heap a (.frz ob (.tup (ps.map V.ref))) from I.hok a _ hq)
  rw [ho] at ho'
  cases ho'
  have ei := refs_at rv
  subst ei
  rw [List.length_map] at hz
  obtain ⟨prs, rel, hl, hpr⟩ := npairs_of I hp
  have hle : es.length = prs.length := Paired.length rel
  have P := PairArg.tuple (prog := X.prog) (w := X.w) a (ps.map Value.ref).toArray (fun j => ps.getD j 0) (prs.map fun x => (Value.ref x.2.1, x.2.2))
  have hr : (nestedKind X.prog X.w).room X.A.in1.in1 := by show X.A.units + 1 + 1 + 8 < cLine; omega
  refine call_dict_pairsH (knd := nestedKind X.prog X.w) (ps := prs) P (I.ok.hd hcalm) hr ⟨⟨ob, n, ho, hc, hod, hdat⟩, by simp [hl], fun j k v e => ?_⟩ ⟨by simp, fun i key v e => ?_⟩ (fun h' hk x hx => ?_) (by rw [List.length_map, hl]; exact hz) fun h' tk hd' k => ?_
  · rw [List.getElem?_map, Option.map_eq_some_iff] at e
    obtain ⟨x, hx, ee⟩ := e
    cases ee
    obtain ⟨b, e1, e2⟩ := hpr j x hx
    refine ⟨by simp [e1], .inl ?_⟩
    show Heap.IsTuple s.heap (ps.getD j 0) _
    rw [List.getD_eq_getElem?_getD, e1]
    exact e2
  · have e : (prs.map fun x => (Value.ref x.2.1, x.2.2))[i]? = some (key, v) := e
    rw [List.getElem?_map, Option.map_eq_some_iff] at e
    obtain ⟨x, hx, ee⟩ := e
    cases ee
    exact ⟨x.1, x.2.1, hx, rfl⟩
  · refine nestedKind_stays.stays (fun b ob vs m e _ => hk b ob (Nat.ne_of_lt (Heap.lt_size e)) (fun z => nomatch z) e) (rel.is I ue x hx)
  · have hm : (s.heap.objs.size == sysModules) = false := beq_eq_false_iff_ne.mpr (Nat.ne_of_gt I.big)
    have hlen : (mergeU [] es).length ≤ sizeLine := by
      refine Nat.le_trans (length_mergeU es []) ?_
      rw [List.length_nil, Nat.zero_add, hle, hl]
      exact hz
    obtain ⟨qo, ees, ep, hq1, h2, h3, h4, _, h5⟩ := hd'
    exact ⟨.ref s.heap.objs.size, upd H s.heap.objs.size (DkO X.prog X.w s.heap.objs.size (mergeU [] es)), I.laid (t' := tk) (fun b o e => k b o (fun z => nomatch z) e) (Nat.le_refl _) (DkP.ok ⟨hlen, hm, _, NV.merge rel .nil, qo, ees, ep, hq1, h2, h3, h4, h5⟩), rfl, q _ (I.hok.fresh (Nat.le_refl _))⟩
end
section
variable {Ω : Type} {X : Cx} {W : Wd Ω} {get : Ω → Dm} {put : Ω → Dm → Ω} {a : Expr} {pa : DE Ω} {x : Str} {p pos : Pos}
def wNDictT (get : Ω → Dm) (put : Ω → Dm → Ω) (pa : DE Ω) : DE Ω := fun sl w C => pa sl w fun d fl w1 => fl = .cl ∧ ∃ l kvs, d = .tpx l ∧ pairsD l = some kvs ∧ ∀ q, get w1 q = none → C (.opq (.ref q)) .cl (put w1 (updN (get w1) q (false, mergeN [] kvs)))
theorem d_ndictT (io : NkIn X W get put) (hu : X.A.units + 64 < cLine) (hcalm : X.calm = true) (hg : Gl X x) (hm : X.mg x = none) (hv : bootBuiltins x = some (.type "dict")) (ha : PD X W a pa)
    (hs : starEach (a :: []) X.env = (false, eval a X.env) :: starEach [] X.env := by rfl) (hn : x ≠ "__name__" := by decide) (hdb : (x == ("__debug__" : Str)) = false := by decide) : PD X W (.Call (.Name x p) [a] [] pos) (wNDictT get put pa) := by
  refine ⟨pe_imp (pe_callTy (call_ndictT hu hcalm) hg hm hv (pa_cons ha.run pa_nil hs) hn hdb hs rfl) fun σ H Q ⟨B, F, G, w, sl, r, z⟩ => ?_, fun sl w C C' hC z => ha.mono _ _ _ _ (fun d fl w1 ⟨z0, l, kvs, z1, z2, z3⟩ => ⟨z0, l, kvs, z1, z2, fun q hq => hC _ _ _ (z3 q hq)⟩) z⟩
  refine ⟨B, F, G, w, sl, r, ha.mono _ _ _ _ (fun d fl w1 ⟨z0, l, kvs, z1, z2, z3⟩ v F1 G1 H1 r1 e1 f1 => ?_) z⟩
  subst z0 z1
  have f1 : Dr X.K F1 v (.tpx l) := f1
  cases f1 with
  | @tpx b ob vs _ g1 gd g2 =>
    obtain ⟨ps, es, rfl, q1, q2⟩ := pairsD_run g2 z2
    refine ⟨b, ob, ps, es, rfl, r1.hr.f _ _ g1, gd.1, Paired.mapP q1 fun _ _ z => sameSeqT r1.hr.f z, (q2.mono r1.hr.f).us, fun p hp => ?_⟩
    have hq : get w1 p = none := by
      cases y : get w1 p with
      | none => rfl
      | some x =>
        obtain ⟨fz, kvs⟩ := x
        obtain ⟨us, _, y2, _⟩ := r1.hr.nk io y
        rcases y2 with y2 | ⟨_, y2⟩ <;> · rw [hp] at y2; cases y2
    obtain ⟨G', k⟩ := (r1.newOwn (o := DkO X.prog X.w p (mergeU [] es)) hp).nnew io upd_same (q2.merge .nil) (r1.fresh hp).1 (r1.hr.f.free hp) (r1.hr.g.free hp) (r1.fresh hp).2
    exact z3 p hq (.ref p) F1 G' _ k e1 (.opq _)
/-! len(d) -/
def rNLen (X : Cx) : List V → Hp → VK → Prop := fun xs H Q => ∃ a us, xs = [.ref a] ∧ DnAt X H a us ∧ us.length ≤ 1000000 ∧ Q (.int us.length) H
theorem call_nlen : CallR X (.builtin "len") (rNLen X) := by
  intro pins s σ H xs us Q I r q
  obtain ⟨a, us, ex, dn, hn, q⟩ := q
  subst ex
  obtain ⟨u, eu, rx⟩ := vals1 r
  subst eu
  cases rx
  obtain ⟨z, hd, xs, rel, dd⟩ := dn_rd I dn.rd dn.ok
  have hl : us.length = xs.length := Paired.length rel
  refine call_len_dictH hd dd (by omega) ?_
  exact ⟨.int us.length, H, I.tok _, ⟨s.toks + 1, by rw [hl]⟩, q⟩
def wNLen (get : Ω → Dm) (pa : DE Ω) : DE Ω := fun sl w C => pa sl w fun d fl w1 => fl = .cl ∧ ∃ a fz kvs, d = .opq (.ref a) ∧ get w1 a = some (fz, kvs) ∧ kvs.length ≤ 1000000 ∧ C (.int kvs.length) .cl w1
theorem d_nlen (io : NkIn X W get put) (hg : Gl X x) (hm : X.mg x = none) (hv : bootBuiltins x = some (.builtin "len")) (ha : PD X W a pa)
    (hs : starEach (a :: []) X.env = (false, eval a X.env) :: starEach [] X.env := by rfl) (hn : x ≠ "__name__" := by decide) (hdb : (x == ("__debug__" : Str)) = false := by decide) : PD X W (.Call (.Name x p) [a] [] pos) (wNLen get pa) := by
  refine ⟨pe_imp (pe_callB call_nlen hg hm hv (pa_cons ha.run pa_nil hs) hn hdb hs rfl) fun σ H Q ⟨B, F, G, w, sl, r, z⟩ => ?_, fun sl w C C' hC z => ha.mono _ _ _ _ (fun d fl w1 ⟨z0, b, fz, kvs, z1, z2, z3, z4⟩ => ⟨z0, b, fz, kvs, z1, z2, z3, hC _ _ _ z4⟩) z⟩
  refine ⟨B, F, G, w, sl, r, ha.mono _ _ _ _ (fun d fl w1 ⟨z0, b, fz, kvs, z1, z2, z3, z4⟩ v F1 G1 H1 r1 e1 f1 => ?_) z⟩
  subst z0 z1
  cases f1
  obtain ⟨us, en, dn⟩ := r1.hr.dn io z2
  have hl : us.length = kvs.length := Paired.length en
  exact ⟨b, us, rfl, dn, by omega, z4 _ F1 G1 H1 r1 e1 (by rw [← hl]; exact .int _)⟩
end
/-! sorted(d) -/
mutual
theorem reads_there {h : Heap} : ∀ {v : Value} {d : PyData} {as : List Addr}, Reads h v d as → ∀ b ∈ as, ∃ o, h.get? b = some o
  | _, _, _, .none => fun b hb => nomatch hb
  | _, _, _, .bool _ => fun b hb => nomatch hb
  | _, _, _, .int _ _ => fun b hb => nomatch hb
  | _, _, _, .str _ _ => fun b hb => nomatch hb
  | _, _, _, .list h1 _ _ h4 => fun b hb => by
    rcases List.mem_cons.mp hb with rfl | hb
    · exact ⟨_, h1⟩
    · exact readsAll_there h4 b hb
  | _, _, _, .tuple _ _ _ h4 => readsAll_there h4
  | _, _, _, .dict h1 _ _ h4 h5 => fun b hb => by
    rcases List.mem_append.mp hb with hb | hb
    · rcases List.mem_cons.mp hb with rfl | hb
      · exact ⟨_, h1⟩
      · exact readsAll_there h4 b hb
    · exact readsAll_there h5 b hb
theorem readsAll_there {h : Heap} : ∀ {vs : List Value} {ds : List PyData} {as : List Addr}, ReadsAll h vs ds as → ∀ b ∈ as, ∃ o, h.get? b = some o
  | _, _, _, .nil => fun b hb => nomatch hb
  | _, _, _, .cons h1 h2 => fun b hb => by
    rcases List.mem_append.mp hb with hb | hb
    · exact reads_there h1 b hb
    · exact readsAll_there h2 b hb
end
def rNSort (X : Cx) : List V → Hp → VK → Prop := fun vs H Q => ∃ (d : Addr) (us : List NE) (ds : List PyData), vs = [.ref d] ∧ DnAt X H d us ∧ DpAll X.K H (us.map fun x => V.ref x.2.1) ds ∧ AllAlike ds ∧ PySem.W.Sortable ds ∧ (∀ d ∈ ds, d.depth ≤ 60) ∧
  ∀ p, H p = none → Q (.ref p) (upd H p (.lst ((((us.map fun x => V.ref x.2.1).zip ds).mergeSort leP).map (·.1))))
theorem cr_nsort {X : Cx} (hu : X.A.units + 64 < cLine) (hcalm : X.calm = true) : CallR X (.builtin "sorted") (rNSort X) := by
  intro pins s σ H vs us Q I r h
  obtain ⟨d, us, ds, rfl, dn, hd, hal, hk, hdp, q⟩ := h
  rw [Vals.ref1 r]
  obtain ⟨z, lo, xs, rel, od, es, ep, hgd, hx, hdt, hes, _, _⟩ := dn_rd I dn.rd dn.ok
  have hsz : es.size = us.length := by rw [size_of_entries hes]; exact (Paired.length rel).symm
  have h16 : es.size ≤ sizeLine := by rw [hsz]; exact z
  refine Calls.call_function_entry PyProof.Rows.kind_sorted PyProof.Rows.plain_sorted PyProof.Rows.entry_sorted (PyProof.Rows.args_sorted1 _) ?_
  unfold Builtin.«sorted»
  refine wpAny_bind (m := checkCount "sorted" 1 1 _) (wpAny_pure ?_)
  refine wpAny_bind (PySem.W.kdu_collect (A := X.A.in1) (src_keys (prog := X.prog) (w := X.w) lo hx hdt) (I.ok.hd hcalm) hgd h16 fun h' tk acc hkp hacc => ?_)
  have I1 : Inv X pins σ H { s with heap := h', toks := tk } := I.kept hkp
  have hmap : acc.toList = us.map fun x => Value.ref x.2.1 := by
    refine List.ext_getElem? fun j => ?_
    rw [List.getElem?_map]
    cases e : acc.toList[j]? with
    | none =>
      have h1 := List.getElem?_eq_none_iff.mp e
      have h2 : acc.toList.length = us.length := by rw [Array.length_toList, hacc.1, hsz]
      rw [List.getElem?_eq_none (by omega)]
      rfl
    | some v =>
      rw [Array.getElem?_toList] at e
      obtain ⟨en, e1, rfl⟩ := hacc.2 j v e
      have hj : j < us.length := by rw [← hsz]; exact (Array.getElem?_eq_some_iff.mp e1).1
      obtain ⟨b, hb, e2, e3, _⟩ := paired_get rel (List.getElem?_eq_getElem hj)
      have e4 := entry_at hes j
      rw [e1, hb] at e4
      cases e4
      rw [List.getElem?_eq_getElem hj]
      show some (Value.ref b.2.1) = some (Value.ref us[j].2.1)
      rw [e3]
  have hal2 : acc.toList.length = us.length := by rw [hmap, List.length_map]
  have rv : Vals (us.map fun x => V.ref x.2.1) acc.toList := by
    rw [hmap]
    generalize us = l
    induction l with
    | nil => exact .nil
    | cons x l ih => exact .cons rfl ih
  have hlen := dpAll_len hd
  obtain ⟨e1, e2⟩ := dp_zip I1 rv hd
  have hsn := zip_snd hlen
  refine wpAny_bind (wpAny_newList ?_ (by rw [hal2]; exact z))
  have hoL : (h'.push (seqObj "list" acc.toList.toArray 0)).get? h'.objs.size = some (seqObj "list" acc.toList.toArray 0) := Heap.get?_push_size _ rfl
  show wpAny _ _ _ _ _ { s with heap := h'.push (seqObj "list" acc.toList.toArray 0), toks := tk }
  have er : EachIs (fun v (b : V × PyData) => ∃ as, Reads (h'.push (seqObj "list" acc.toList.toArray 0)) v b.2 as ∧ h'.objs.size ∉ as) acc.toList ((us.map fun x => V.ref x.2.1).zip ds) := by
    refine e2.mono ?_
    rintro v b ⟨as, rd⟩
    refine ⟨as, PyProof.Rows.Reads.keeps (fun _ _ e => Heap.get?_push_of_some _ e) rd, fun hm => ?_⟩
    obtain ⟨o, ho⟩ := reads_there rd _ hm
    exact absurd (Heap.lt_size ho) (Nat.lt_irrefl _)
  have hu2 : ∀ b, b ∈ (us.map fun x => V.ref x.2.1).zip ds → X.A.in1.units + 1 + b.2.depth < cLine := fun b hb => by
    have := hdp b.2 (by rw [← hsn]; exact List.mem_map.mpr ⟨b, hb, rfl⟩)
    show X.A.units + 1 + 1 + b.2.depth < cLine
    omega
  have hz2 : ((us.map fun x => V.ref x.2.1).zip ds).length ≤ sizeLine := by
    rw [List.length_zip, List.length_map]
    exact Nat.le_trans (Nat.min_le_left _ _) z
  refine wpAny_bind (wpAny_holding (PySem.W.list_sort_data (A := X.A.in1) (s := { s with heap := h'.push (seqObj "list" acc.toList.toArray 0), toks := tk }) (bs := (us.map fun x => V.ref x.2.1).zip ds) (enc := fun b : V × PyData => b.2) (R := fun v (b : V × PyData) => RelV b.1 v) hoL e1 er (by rw [hsn]; exact hal) (by rw [hsn]; exact hk) hz2 hu2 ?_))
  · intro out h1 h2
    obtain ⟨e', he'⟩ := PyProof.Rows.sortedHeap_at (vs := acc.toList) (out := out.toArray) hoL
    have h3 : EachIs (fun v (b : V × PyData) => RelV b.1 v) out (((us.map fun x => V.ref x.2.1).zip ds).mergeSort leP) := h2
    have hl3 : ((((us.map fun x => V.ref x.2.1).zip ds).mergeSort leP).map (·.1)).length ≤ sizeLine := by
      rw [List.length_map, List.length_mergeSort, List.length_zip, List.length_map]
      exact Nat.le_trans (Nat.min_le_left _ _) z
    refine wpAny_pure ⟨_, rfl, .ref h'.objs.size, upd H h'.objs.size (.lst ((((us.map fun x => V.ref x.2.1).zip ds).mergeSort leP).map (·.1))), I1.laid (t' := tk) (fun b u e => ?_) (Nat.le_refl _)
      (show ObjOk X.prog X.w _ _ _ (.lst _) from ⟨hl3, out, e', vals_each h3, he'⟩), rfl, q _ (I1.hok.fresh (Nat.le_refl _))⟩
    have hb : b < h'.objs.size := Heap.lt_size e
    rw [PyProof.Rows.sortedHeap_old (Nat.ne_of_lt hb) (by rw [size_push']; exact Nat.lt_succ_of_lt hb)]
    exact Heap.get?_push_of_some _ e
section
variable {Ω : Type} {X : Cx} {W : Wd Ω} {get : Ω → Dm} {put : Ω → Dm → Ω} {a : Expr} {pa : DE Ω} {p pos : Pos}
def wNSort (get : Ω → Dm) (pa : DE Ω) : DL Ω := fun sl w C => pa sl w fun d fl w1 => fl = .cl ∧ ∃ a fz kvs, d = .opq (.ref a) ∧ get w1 a = some (fz, kvs) ∧ fSortedN (.lst (kvs.map (·.1))) fun l => C l w1
theorem dl_nsort (io : NkIn X W get put) (hu : X.A.units + 64 < cLine) (hcalm : X.calm = true) (hg : Gl X "sorted") (hmg : X.mg "sorted" = none) (ha : PD X W a pa) (hs : starEach (a :: []) X.env = (false, eval a X.env) :: starEach [] X.env := by rfl) : PDL X W (.Call (.Name "sorted" p) [a] [] pos) (wNSort get pa) := by
  refine ⟨pe_imp (pe_callB (cr_nsort hu hcalm) hg hmg (by decide +kernel) (pa_cons ha.run pa_nil hs) (by decide) (by decide) hs rfl) fun σ H Q ⟨B, F, G, w, sl, r, z⟩ => ?_, fun sl w C C' hC z => ha.mono _ _ _ _ (fun d fl w1 ⟨z0, b, fz, kvs, z1, z2, xs, ds, y1, y2, y3, y4, y5, y6⟩ => ⟨z0, b, fz, kvs, z1, z2, xs, ds, y1, y2, y3, y4, y5, hC _ _ y6⟩) z⟩
  refine ⟨B, F, G, w, sl, r, ha.mono _ _ _ _ (fun d fl w1 ⟨z0, b, fz, kvs, z1, z2, xs, ds, y1, y2, y3, y4, y5, y6⟩ v F1 G1 H1 r1 e1 f1 => ?_) z⟩
  subst z0 z1
  cases f1
  injection y1 with y1
  subst y1
  obtain ⟨us, en, dn⟩ := r1.hr.dn io z2
  have dl : DrL X.K F1 (us.map fun x => V.ref x.2.1) (kvs.map (·.1)) := by
    clear z2 y2 dn y6
    induction en with
    | nil => exact .nil
    | cons h t ih => exact .cons h.1 (ih)
  refine ⟨b, us, ds, rfl, dn, (dl.mono r1.hr.f).dp y2, y3, y4, y5, fun p hp => ?_⟩
  exact y6 p _ F1 G1 _ (r1.newOwn hp) e1 (r1.fresh hp).1 (r1.fresh hp).2 upd_same (r1.hr.f.free hp) (r1.hr.g.free hp) (drL_sorted dl (pyL_len y2))
end
end Ck
namespace Ck
open PySem PySem.Spec PyProof.Rows L2
/-! ### x in l, l.index(x): nested data -/
theorem Room.u65 {k : Nat} {A : Around} (r : Room k A) : A.units + 65 < cLine := by have := r.un; omega
section
variable {K : PySem.W.Frag} {F H : Hp} {v : V} {d : Dt} {p : PyData}
theorem Da.dpN (e : Same F H) (h : Da K F H v d) (hp : d.py = some p) : Dp K H v p := by
  rcases h with h | ⟨a, vs, l, rfl, rfl, ha, hd⟩
  · exact (h.mono e).dp hp
  · simp only [Dt.py, Option.map_eq_some_iff] at hp
    obtain ⟨ps, e1, rfl⟩ := hp
    exact .lst (.of ha) ((hd.mono e).dp e1)
def fInN (ng : Bool) : Dt → Dt → (Dt → Prop) → Prop := fun x y C => ∃ px l ps, x.py = some px ∧ y = .lst l ∧ pyL l = some ps ∧ SeqAt.shaped px = true ∧ SeqAt.shaped (.list ps) = true ∧ C (.bl (ng != ps.any fun z => PyData.eqv z px))
theorem py_lst {l : List Dt} {ps : List PyData} (h : pyL l = some ps) : (Dt.lst l).py = some (.list ps) := by
  simp only [Dt.py, h]
  rfl
theorem od_nInN : OpD K (rNotInD K) (fInN true) := by
  refine ⟨fun F H xv yv x y Q C e hx hy h q => ?_, fun x y C C' hC ⟨px, l, ps, h1, h2, h3, h4, h5, h6⟩ => ⟨px, l, ps, h1, h2, h3, h4, h5, hC _ h6⟩⟩
  obtain ⟨px, l, ps, h1, rfl, h3, h4, h5, h6⟩ := h
  exact ⟨px, ps, hx.dpN e h1, hy.dpN e (py_lst h3), h4, h5, q (.bl _) _ F H (by rwa [Bool.true_bne] at h6) (.refl (.bl _))⟩
end
section
variable {Ω : Type} {X : Cx} {W : Wd Ω} {po pe : DE Ω} {o e : Expr} {pos : Pos}
def wIndexN (po pe : DE Ω) : DE Ω := fun sl w C => po sl w fun d fl w1 => fl = .cl ∧ ∃ l ps, d = .lst l ∧ pyL l = some ps ∧ pe sl w1 fun x fl2 w2 => ∃ (px : PyData) (j : Nat) (z : PyData), x.py = some px ∧ SeqAt.shaped (.list ps) = true ∧ SeqAt.shaped px = true ∧ ps[j]? = some z ∧ PyData.eqv z px = true ∧
  (∀ (m : Nat) (z' : PyData), m < j → ps[m]? = some z' → PyData.eqv z' px = false) ∧ C (.int (j : Nat)) .cl w2
theorem d_indexN {name : Str} {apos cpos : Pos} (ho : PD X W o po) (he : PD X W e pe) (hb : ∀ {to : TE} {t : TA}, PE X o to → PA X [e] t → PE X (.Call (.Attribute o name apos) [e] [] cpos) (tBM X.K "list" (rIndexD X.K) to t))
    (hs1 : starEach (e :: []) X.env = (false, eval e X.env) :: starEach [] X.env := by rfl) : PD X W (.Call (.Attribute o name apos) [e] [] cpos) (wIndexN po pe) := by
  refine ⟨pe_imp (hb ho.run (pa_cons he.run pa_nil hs1)) fun σ H Q ⟨B, F, G, w, sl, r, z⟩ => ?_, fun sl w C C' hC z => ho.mono _ _ _ _ (fun d fl w1 ⟨z0, l, ps, z1, z2, z⟩ => ⟨z0, l, ps, z1, z2, he.mono _ _ _ _ (fun x fl2 w2 ⟨px, j, y, a1, a2, a3, a4, a5, a6, a7⟩ => ⟨px, j, y, a1, a2, a3, a4, a5, a6, hC _ _ _ a7⟩) z⟩) z⟩
  refine ⟨B, F, G, w, sl, r, ho.mono _ _ _ _ (fun d fl w1 ⟨z0, l, ps, z1, z2, z⟩ v F1 G1 H1 r1 e1 f1 => ?_) z⟩
  subst z0 z1
  obtain ⟨a, vs, rfl, hH, hD⟩ := (f1.da r1).lst r1.hr.f
  refine ⟨.inl ⟨rfl, vs, SqL.of hH⟩, B, F1, G1, w1, sl, r1, he.mono _ _ _ _ (fun x fl2 w2 ⟨px, j, y, a1, a2, a3, a4, a5, a6, a7⟩ u F2 G2 H2 r2 e2 f2 => ?_) z⟩
  have hl : Dp X.K H2 (.ref a) (.list ps) := (FlOk.da (fl := .cl) r2 (Dr.mono e2 f1)).dpN r2.hr.f (py_lst z2)
  exact ⟨a, u, px, ps, j, y, rfl, rfl, hl, (f2.da r2).dpN r2.hr.f a1, a2, a3, a4, a5, a6, a7 (.int (j : Nat)) F2 G2 H2 r2 (e1.trans e2) (.int _)⟩
end
end Ck
namespace Ck
open PySem PySem.Spec PyProof.Rows L2
/-! ### t == (), whatever t holds -/
/-! ### a known tuple as any tuple, at the top alone; its items alone -/
def weak1 : Dt → Dt
  | .tpx l => .tup l
  | d => d
def weakX : Dt → Dt
  | .tpx l => .tpx (weakL l)
  | d => d
theorem Dr.weak1 {K : PySem.W.Frag} {F : Hp} {v : V} {d : Dt} (h : Dr K F v d) : Dr K F v (weak1 d) := by
  cases h with
  | tpx h k q => exact .tupK (.inr ⟨_, h⟩) q k.2
  | non => exact .non
  | bl b => exact .bl b
  | int b => exact .int b
  | str b => exact .str b
  | tup h q => exact .tup h q
  | lst h q => exact .lst h q
  | tupK h q k => exact .tupK h q k
  | emp h => exact .emp h
  | opq v => exact .opq v
  | dic h k q => exact .dic h k q
  | ins h h2 k q => exact .ins h h2 k q
theorem Dr.weakX {K : PySem.W.Frag} {F : Hp} {v : V} {d : Dt} (h : Dr K F v d) : Dr K F v (weakX d) := by
  cases h with
  | tpx h k q => exact .tpx h ⟨k.1, (keysT_weak _).trans k.2⟩ q.weak
  | non => exact .non
  | bl b => exact .bl b
  | int b => exact .int b
  | str b => exact .str b
  | tup h q => exact .tup h q
  | lst h q => exact .lst h q
  | tupK h q k => exact .tupK h q k
  | emp h => exact .emp h
  | opq v => exact .opq v
  | dic h k q => exact .dic h k q
  | ins h h2 k q => exact .ins h h2 k q
section
variable {Ω : Type} {X : Cx} {W : Wd Ω} {e : Expr} {p : DE Ω}
def wW1 (p : DE Ω) : DE Ω := fun sl w C => p sl w fun d fl w1 => fl = .cl ∧ C (weak1 d) .cl w1
def wWX (p : DE Ω) : DE Ω := fun sl w C => p sl w fun d fl w1 => fl = .cl ∧ C (weakX d) .cl w1
end
end Ck
/-! zip of two sequences, each a list or a tuple (b = true: a tuple) -/
namespace CkZip
open PySem
open PySem.Sem (wp)
def ItB (b : Bool) (h : Heap) (it l : Addr) (k : Nat) : Prop := if b = true then h.IsTupleIter it l k else h.IsListIter it l k
def SqB (b : Bool) (h : Heap) (l : Addr) (xs : Array Value) : Prop := if b = true then h.IsTuple l xs else h.IsList l xs
theorem ItB.there {b : Bool} {h : Heap} {it l : Addr} {k : Nat} (x : ItB b h it l k) : ∃ o, h.get? it = some o ∧ ∀ v, o.data ≠ .cell v := by
  cases b with
  | true =>
    obtain ⟨o, h1, _, h2⟩ : h.IsTupleIter it l k := x
    exact ⟨o, h1, fun v q => by rw [h2] at q; cases q⟩
  | false =>
    obtain ⟨o, h1, _, h2⟩ : h.IsListIter it l k := x
    exact ⟨o, h1, fun v q => by rw [h2] at q; cases q⟩
theorem SqB.lt {b : Bool} {h : Heap} {l : Addr} {xs : Array Value} (x : SqB b h l xs) : l < h.objs.size := by
  cases b with
  | true =>
    obtain ⟨o, h1, h2⟩ : h.IsTuple l xs := x
    exact Heap.lt_size h1
  | false =>
    obtain ⟨o, h1, h2⟩ : h.IsList l xs := x
    exact Heap.lt_size h1
/-! making one -/
end CkZip
namespace Ck
open PySem PySem.Spec PyProof.Rows L2 CkZip
/-! ### zip over a tuple and a list (b = true), a list and a tuple, at the hand's level -/
def SqH (b : Bool) (K : PySem.W.Frag) (H : Hp) (a : Addr) (xs : List V) : Prop := if b = true then SqT K H a xs else SqL K H a xs
section
variable {X : Cx} {pins : List (Addr × Obj)} {σ : L2.St} {H : Hp} {s : Shared}
theorem SqH.run {b : Bool} {a : Addr} {xs : List V} (I : L2.Inv X pins σ H s) (h : SqH b X.K H a xs) : ∃ its : List Value, Vals xs its ∧ SqB b s.heap a its.toArray := by
  cases b with
  | true =>
    obtain ⟨its, r, p, _⟩ := I.tuple (show SqT X.K H a xs from h)
    exact ⟨its, r, p⟩
  | false =>
    obtain ⟨its, r, p, _⟩ := I.list (show SqL X.K H a xs from h)
    exact ⟨its, r, p.isList⟩
theorem SqH.inj {b : Bool} {a : Addr} {xs ys : List V} (I : L2.Inv X pins σ H s) (h : SqH b X.K H a xs) (h' : SqH b X.K H a ys) : xs = ys := by
  cases b with
  | true => exact I.tuple_inj h h'
  | false => exact I.list_inj h h'
end
section
variable {Ω : Type} {X : Cx} {W : Wd Ω} {e e2 tg : Expr} {p q : DE Ω} {K : PySem.W.Frag} {F : Hp} {a b : Addr} {vs us : List V} {l r : List Dt}
theorem SqH.mono {b : Bool} {H H' : Hp} {a : Addr} {xs : List V} (e : Same H H') (h : SqH b K H a xs) : SqH b K H' a xs := by
  cases b with
  | true => exact (sameSeqT e h : SqT K H' a xs)
  | false =>
    have h : SqL K H a xs := h
    show SqL K H' a xs
    rcases h with (h | ⟨o, h⟩) | h
    · exact .inl (.inl (e _ _ h))
    · exact .inl (.inr ⟨o, e _ _ h⟩)
    · exact .inr h
/-- the data of a list or a tuple that never changes -/
def mkB (b : Bool) (l : List Dt) : Dt := if b = true then .tup l else .lst l
/-- zip of a tuple and a list (b), of a list and a tuple (not b) -/
def wiZipM (b : Bool) (p q : DE Ω) : DI Ω := fun sl w C => p sl w fun d fl w1 => fl = .cl ∧ q sl w1 fun e fl2 w2 => fl2 = .cl ∧ ∃ l r, d = mkB b l ∧ e = mkB (!b) r ∧ C (zipD l r) w2
end
end Ck
namespace Ck
open PySem PySem.Spec PyProof.Rows L2
open LamX (CodeO TabB LamS lamEnv lamCx)
/-! ### a lambda handed to a def that calls it; the table stands anywhere in the world -/
end Ck
namespace Ck
open PySem PySem.Spec PyProof.Rows L2
open LamX (CodeO TabB LamS lamEnv lamCx)
/-! ### a comprehension over a free list: it is lent to nobody's keep meanwhile -/
/-! ### names for one def; a def that makes lambdas; what a lambda's body must keep -/
structure Erm {Ω : Type} (pb : Er Ω → DE Ω) : Prop where
  m : ∀ (er : Er Ω) (sl : Sl) (w : Ω) (C C' : Dt → Fl → Ω → Prop), (∀ d fl w', C d fl w' → C' d fl w') → pb er sl w C → pb er sl w C'
  e : ∀ (er er' : Er Ω) (sl : Sl) (w : Ω) (C : Dt → Fl → Ω → Prop), (∀ x sl w, er x sl w → er' x sl w) → pb er sl w C → pb er' sl w C
section
variable {Ω : Type} {pa : DL Ω} {S : SpcX Ω} {R : Ω → Dt → Prop} {i : Nat}
theorem Erm.call (m : ArgM pa) : Erm fun er => wCallX S er pa := ⟨callX_m m, callX_e m⟩
end
/-! ### the beginning: a world with nothing in it beside another -/
end Ck
namespace Ck
open PySem PySem.Spec PyProof.Rows L2
/-! ### == , isinstance and x[i] = v of objects that a world holds -/
end Ck
namespace Ck
open PySem PySem.Spec PyProof.Rows L2
/-! ### y not in x by an own __contains__ -/
end Ck
namespace Ck
open PySem PySem.Spec PyProof.Rows L2
/-! ### try with one clause that names two classes -/
/-! ### .. over data -/
/-! ### a slice of a free list -/
end Ck
namespace Ck
open PySem PySem.Spec PyProof.Rows L2
local macro_rules | `(tactic| walk_at "ck") => `(tactic| try simp only [wNext, wBrk, wCnt, wSeq, wRet, wRetN, wSet, wOwn, wDrop, wUnp, wPar, wIfS, wApp, wExt, wSetIx, wAug, wFrz, wFor, k_var, k_vk1, k_vk2, k_par, wC, wL, wOp, wOpL, wF, wFL, wNil, wCons, wTup, wLst, wTV, wTAnd, wTOr, wTNot, wAnd, wOr, wNot, wIfx, wIsN, wNotN, wChain, wO0, wO1, wSl, wCall, wIsi, wLr1, wLr2, wNeg, wLc, wYes, wiSeq, wiR1, wiR2, wiEnum, wiZip, noOwnB, wipeD, k_add1, k_add2, k_add3, k_add4, k_addL, k_sub, k_mul1, k_mul2, k_mulL, k_div, k_mod, k_pow, k_cmp, k_eq, k_ne, k_ea1, k_ea2, k_ea3, k_ea4, k_in1, k_in2, k_in3, k_in4, k_ix1, k_ix2, k_ix3, k_sl1, k_sl2, k_len1, k_len2, k_len3, k_int1, k_int2, k_abs, k_tuple1, k_tuple2, k_list1, k_list2, k_min2, k_max2, k_non_non, k_ty_int_non, k_ty_bool_non, k_ty_tuple_non, k_ty_str_non, k_ty_list_non, k_non_bl, k_ty_int_bl, k_ty_bool_bl, k_ty_tuple_bl, k_ty_str_bl, k_ty_list_bl, k_non_int, k_ty_int_int, k_ty_bool_int, k_ty_tuple_int, k_ty_str_int, k_ty_list_int, k_non_str, k_ty_int_str, k_ty_bool_str, k_ty_tuple_str, k_ty_str_str, k_ty_list_str, k_non_tup, k_ty_int_tup, k_ty_bool_tup, k_ty_tuple_tup, k_ty_str_tup, k_ty_list_tup, k_non_lst, k_ty_int_lst, k_ty_bool_lst, k_ty_tuple_lst, k_ty_str_lst, k_ty_list_lst, k_non_emp, k_ty_int_emp, k_ty_bool_emp, k_ty_tuple_emp, k_ty_str_emp, k_ty_list_emp, k_seq_non, k_seq_bl, k_seq_int, k_seq_str, k_seq_tup, k_seq_lst, k_seq_emp, k_sz0, k_sz1, k_sz2, k_sz3, k_sz4, k_sz5, k_sz6, k_sz7, k_sz8, k_sz9, k_sz10, k_sz11, k_sz12, k_sz13, k_sz14, k_sz15, k_sz16, k_sz17, k_sz18, k_sz19, k_sz20, k_sz21, k_sz22, k_sz23, k_at0, k_at1, k_at2, k_at3, k_iteT, k_iteF, k_bt1, k_bt2, k_sa0, k_sa1, k_endn, k_endr, List.getElem?_cons_succ, List.getElem?_cons_zero, List.set_cons_succ, List.set_cons_zero, List.length_cons, List.length_nil, List.length_map, List.all_cons, List.all_nil, Nat.reduceAdd, Nat.zero_add, Bool.and_true, Bool.and_self, Option.some.injEq, Dt.int.injEq, Dt.bl.injEq, Dt.str.injEq, Dt.tup.injEq, Dt.lst.injEq, Sv.dat.injEq, Sv.own.injEq, exists_eq_left', exists_eq_left, exists_eq_right, exists_eq', exists_eq, true_and, and_true, false_and, and_false, exists_const, reduceCtorEq])
end Ck
namespace Ck
open PySem PySem.Spec PyProof.Rows L2
/-! ### a drawn book -/
theorem bd_of {x : Int} (h : -10000000 ≤ x ∧ x ≤ 10000000) : Bd x := ⟨by omega, by omega⟩
theorem PriceOk.bd {w : Int} {t : T3} (h : PriceOk w 1000000 t) : Bd3 t := by
  obtain ⟨a, b, c, _⟩ := h
  exact ⟨bd_of (by omega), bd_of (by omega), bd_of (by omega)⟩
theorem TestOk.bd {t : T3} (h : TestOk t) : Bd3 t := ⟨bd_of h.1, bd_of h.2.1, bd_of h.2.2⟩
theorem BookOk.bd {b : Book} (h : BookOk b) : BookBd b := ⟨fun t ht => (h.pr t ht).bd, fun r hr t ht => ((h.ts r hr).2.1 t ht).bd⟩
theorem BookOk.small {b : Book} (h : BookOk b) : SmallB b := ⟨by have := h.rs; omega, fun r hr => by have := (h.ts r hr).1; omega⟩
theorem BookOk.form {b : Book} (h : BookOk b) : FormOk b := ⟨fun r hr => (h.ts r hr).2.2, h.last⟩
theorem shw_bd {x : Int} (h : Bd x) : Shw 0 0 (.int x) := by
  obtain ⟨a, b⟩ := h
  exact shw_int (by omega) (by omega)
theorem shw_dS {s : Int × Int} (h : BdS s) : Shw 2 1 (dS s) := (shw_tup (shwL_cons (shw_bd h.1) (shwL_cons (shw_bd h.2) shwL_nil))).mono (by decide) (by decide)
end Ck
namespace Ck
open PySem PySem.Spec PyProof.Rows L2
local macro_rules | `(tactic| walk_at "ck") => `(tactic| try simp only [wNext, wBrk, wCnt, wSeq, wRet, wRetN, wSet, wOwn, wDrop, wUnp, wPar, wIfS, wApp, wExt, wSetIx, wAug, wFrz, wFor, k_var, k_vk1, k_vk2, k_par, wC, wL, wOp, wOpL, wF, wFL, wNil, wCons, wTup, wLst, wTV, wTAnd, wTOr, wTNot, wAnd, wOr, wNot, wIfx, wIsN, wNotN, wChain, wO0, wO1, wSl, wCall, wIsi, wLr1, wLr2, wNeg, wLc, wYes, wiSeq, wiR1, wiR2, wiEnum, wiZip, noOwnB, wipeD, wEmp, wListZip, wSortSet, wRevL, wRevT, wOneB, k_mulT, k_add1, k_add2, k_add3, k_add4, k_addL, k_sub, k_mul1, k_mul2, k_mulL, k_div, k_mod, k_pow, k_cmp, k_eq, k_ne, k_ea1, k_ea2, k_ea3, k_ea4, k_in1, k_in2, k_in3, k_in4, k_ix1, k_ix2, k_ix3, k_sl1, k_sl2, k_len1, k_len2, k_len3, k_int1, k_int2, k_abs, k_tuple1, k_tuple2, k_list1, k_list2, k_min2, k_max2, k_non_non, k_ty_int_non, k_ty_bool_non, k_ty_tuple_non, k_ty_str_non, k_ty_list_non, k_non_bl, k_ty_int_bl, k_ty_bool_bl, k_ty_tuple_bl, k_ty_str_bl, k_ty_list_bl, k_non_int, k_ty_int_int, k_ty_bool_int, k_ty_tuple_int, k_ty_str_int, k_ty_list_int, k_non_str, k_ty_int_str, k_ty_bool_str, k_ty_tuple_str, k_ty_str_str, k_ty_list_str, k_non_tup, k_ty_int_tup, k_ty_bool_tup, k_ty_tuple_tup, k_ty_str_tup, k_ty_list_tup, k_non_lst, k_ty_int_lst, k_ty_bool_lst, k_ty_tuple_lst, k_ty_str_lst, k_ty_list_lst, k_non_emp, k_ty_int_emp, k_ty_bool_emp, k_ty_tuple_emp, k_ty_str_emp, k_ty_list_emp, k_seq_non, k_seq_bl, k_seq_int, k_seq_str, k_seq_tup, k_seq_lst, k_seq_emp, k_sz0, k_sz1, k_sz2, k_sz3, k_sz4, k_sz5, k_sz6, k_sz7, k_sz8, k_sz9, k_sz10, k_sz11, k_sz12, k_sz13, k_sz14, k_sz15, k_sz16, k_sz17, k_sz18, k_sz19, k_sz20, k_sz21, k_sz22, k_sz23, k_at0, k_at1, k_at2, k_at3, k_iteT, k_iteF, k_bt1, k_bt2, k_sa0, k_sa1, k_endn, k_endr, List.getElem?_cons_succ, List.getElem?_cons_zero, List.set_cons_succ, List.set_cons_zero, List.length_cons, List.length_nil, List.length_map, List.all_cons, List.all_nil, Nat.reduceAdd, Nat.zero_add, Bool.and_true, Bool.and_self, Option.some.injEq, Dt.int.injEq, Dt.bl.injEq, Dt.str.injEq, Dt.tup.injEq, Dt.lst.injEq, Sv.dat.injEq, Sv.own.injEq, exists_eq_left', exists_eq_left, exists_eq_right, exists_eq', exists_eq, if_true, if_false, Bool.not_false, Bool.not_true, Bool.not_not, true_and, and_true, false_and, and_false, exists_const, reduceCtorEq])

/-! ### keepers as they are drawn -/
structure Turn where
  o : Int
  ts : List T3
  n : Int
def dT (t : Turn) : Dt := .tup [.int t.o, .tup (t.ts.map d3), .int t.n]
structure Keeper where
  w : Int
  ps : List T3
  ts : List Turn
def dK (k : Keeper) : Dt := .tup [.int k.w, .tup (k.ps.map d3), .tup (k.ts.map dT)]
structure KeeperOk (k : Keeper) : Prop where
  w : 1 ≤ k.w ∧ k.w ≤ 6
  ps : 2 ≤ k.ps.length ∧ k.ps.length ≤ 4
  pr : ∀ t ∈ k.ps, PriceOk k.w 1000000 t
  tl : k.ts.length ≤ 10
  ts : ∀ t ∈ k.ts, t.ts.length ≤ 5 ∧ (∀ u ∈ t.ts, TestOk u) ∧ (0 ≤ t.o ∧ t.o < k.ps.length) ∧ (0 ≤ t.n ∧ t.n < k.ps.length) ∧ t.o ≠ t.n
def S_law_keeper : Spc Dw := drawS (ι := Unit) (fun _ => []) (fun _ => True) (fun _ => 300) (fun _ d => ∃ k, d = dK k ∧ KeeperOk k ∧ k.w ≤ 4 ∧ k.ps.length ≤ 3 ∧ k.ts.length ≤ 5)
theorem turn_mod {o d n : Int} (h1 : 0 ≤ o) (h2 : o < n) (h3 : 0 ≤ d) (h4 : d < n - 1) : 0 ≤ (o + 1 + d) % n ∧ (o + 1 + d) % n < n ∧ o ≠ (o + 1 + d) % n := by
  refine ⟨Int.emod_nonneg _ (by omega), Int.emod_lt_of_pos _ (by omega), ?_⟩
  by_cases h : o + 1 + d < n
  · rw [Int.emod_eq_of_lt (by omega) h]
    omega
  · have e : o + 1 + d = (o + 1 + d - n) + n := by omega
    rw [e, Int.add_emod_right, Int.emod_eq_of_lt (by omega) (by omega)]
    omega
def p_law_keeper_1 : DS Dw :=
  (wSeq (wOwn 3 (wLst wNil))
  (wSeq (wFor (.one 4) (wiR1 (wCall S_law_draw (wCons (wVar 0) (wCons (wC (.int 6)) wNil)))) (wSeq (wSet 5 (wCall S_law_draw (wCons (wVar 0) (wCons (wF fLen (wVar 2)) wNil))))
  (wSeq (wSet 6 (wOp fMod (wF fInt (wOp fAdd (wOp fAdd (wVar 5) (wC (.int 1))) (wCall S_law_draw (wCons (wVar 0) (wCons (wOp fSub (wF fLen (wVar 2)) (wC (.int 1))) wNil))))) (wF fLen (wVar 2))))
  (wApp 3 (wTup (wCons (wVar 5) (wCons (wCall S_law_tests (wCons (wVar 0) (wCons (wVar 1) wNil))) (wCons (wVar 6) wNil))))))))
  (wRet (wTup (wCons (wVar 1) (wCons (wVar 2) (wCons (wF fTuple (wVar 3)) wNil)))))))
abbrev p_law_keeper : DS Dw :=
  (wSeq (wSet 1 (wOp fAdd (wC (.int 1)) (wCall S_law_draw (wCons (wVar 0) (wCons (wC (.int 4)) wNil)))))
  (wSeq (wSet 2 (wCall S_law_prices (wCons (wVar 0) (wCons (wVar 1) (wCons (wC (.int 3)) wNil)))))
  (wSeq (wIfS (wTV (wOp fEq (wF fLen (wVar 2)) (wC (.int 1)))) (wSet 2 (wOp fAdd (wVar 2) (wTup (wCons (wTup (wCons (wOp fAdd (wC (.int 1)) (wCall S_law_draw (wCons (wVar 0) (wCons (wC (.int 5)) wNil)))) (wCons (wC (.int 1)) (wCons (wC (.int 0)) wNil)))) wNil)))) wNext)
  p_law_keeper_1)))
theorem m_law_keeper : ∀ ds w C, S_law_keeper.run ds w C → p_law_keeper (endD C) (startD 7 ds) w := by
  rintro ds ⟨p, n⟩ C ⟨_, rfl, _, h3, q⟩
  replace h3 : 300 ≤ n := h3
  replace q : ∀ k m, KeeperOk k → k.w ≤ 4 → k.ps.length ≤ 3 → k.ts.length ≤ 5 → n ≤ m + 300 → C (dK k) ⟨p, m⟩ := fun k m a b c d e => q _ m ⟨k, rfl, a, b, c, d⟩ e
  show p_law_keeper _ [some (.dat (.opq (.ref p))), none, none, none, none, none, none] _
  unfold p_law_keeper
  walk_at "ck"
  refine use_draw (by decide) (by decide) (by omega) fun wd n1 w0 w1 e1 => ?_
  walk_at "ck"
  refine use_drawS (1 + wd, 3) ⟨by show 1 ≤ 1 + wd; omega, by show 1 + wd ≤ 1000; omega, by show (1 : Int) ≤ 3; decide, by show (3 : Int) ≤ 6; decide⟩ (by show 26 ≤ n1; omega) fun d n2 ⟨ps, hd, p1, p2, hps⟩ e2 => ?_
  subst hd
  replace e2 : n1 ≤ n2 + 26 := e2
  replace p2 : (ps.length : Int) ≤ 3 := p2
  replace hps : ∀ t ∈ ps, PriceOk (1 + wd) 1000000 t := hps
  walk_at "ck"
  -- behind the prices
  have rest : ∀ (ps : List T3) (n3 : Nat), 2 ≤ ps.length → ps.length ≤ 3 → (∀ t ∈ ps, PriceOk (1 + wd) 1000000 t) → n ≤ n3 + 28 → p_law_keeper_1 (endD C) [some (.dat (.opq (.ref p))), some (.dat (.int (1 + wd))), some (.dat (.tup (ps.map d3))), none, none, none, none] ⟨p, n3⟩ := by
    intro ps n3 p1 p2 hps e3
    unfold p_law_keeper_1
    walk_at "ck"
    refine use_draw (by decide) (by decide) (by omega) fun k n4 k0 k1 e4 => ?_
    refine ⟨k, rfl, by omega, by omega, ?_⟩
    rw [rngD_eq]
    refine loop_drawN (rngN 0) 33 (fun i sl => ∃ x4 x5 x6, ∃ ts : List Turn, sl = [some (.dat (.opq (.ref p))), some (.dat (.int (1 + wd))), some (.dat (.tup (ps.map d3))), some (.own (ts.map dT)), x4, x5, x6] ∧ ts.length = i ∧ ∀ t ∈ ts, t.ts.length ≤ 5 ∧ (∀ u ∈ t.ts, TestOk u) ∧ (0 ≤ t.o ∧ t.o < ps.length) ∧ (0 ≤ t.n ∧ t.n < ps.length) ∧ t.o ≠ t.n) _ ?_ ⟨_, _, _, [], rfl, rfl, fun _ h => nomatch h⟩ (by rw [List.length_range]; omega) ?_
    · rintro i j sl hj ⟨x4, x5, x6, ts, rfl, hl, hts⟩
      have hi : i < k.toNat := by
        have := (List.getElem?_eq_some_iff.mp hj).1
        rwa [List.length_range] at this
      refine ⟨_, rfl, fun n5 N hn5 hN => ?_⟩
      walk_at "ck"
      refine use_draw (by omega) (by omega) (by omega) fun o n6 o0 o1 e6 => ?_
      walk_at "ck"
      refine use_draw (by omega) (by omega) (by omega) fun d n7 d0 d1 e7 => ?_
      walk_at "ck"
      obtain ⟨m1, m2, m3⟩ := turn_mod o0 o1 d0 d1
      refine ⟨by omega, size1M (by omega), ?_⟩
      refine use_drawS (1 + wd) ⟨by omega, by omega⟩ (by show 31 ≤ n7; omega) fun d' n8 ⟨us, hd, u1, u2⟩ e8 => ?_
      subst hd
      replace e8 : n7 ≤ n8 + 31 := e8
      refine hN _ _ ⟨_, _, _, ts ++ [⟨o, us, (o + 1 + d) % (ps.length : Int)⟩], by rw [List.map_append]; rfl, by rw [List.length_append, hl]; rfl, fun t ht => ?_⟩ (by omega)
      rcases List.mem_append.mp ht with z | z
      · exact hts t z
      · rw [List.mem_singleton.mp z]
        exact ⟨u1, u2, ⟨o0, o1⟩, ⟨m1, m2⟩, m3⟩
    · rintro sl m ⟨x4, x5, x6, ts, rfl, hl, hts⟩ em
      rw [List.length_range] at em hl
      walk_at "ck"
      exact q ⟨1 + wd, ps, ts⟩ m ⟨⟨by show 1 ≤ 1 + wd; omega, by show 1 + wd ≤ 6; omega⟩, ⟨p1, by show ps.length ≤ 4; omega⟩, hps, by show ts.length ≤ 10; omega, hts⟩ (by show 1 + wd ≤ 4; omega) p2 (by show ts.length ≤ 5; omega) (by omega)
  refine ite2 (fun hd => ?_) (fun hd => ?_)
  · have h1 : ps.length = 1 := by have := of_decide_eq_true hd; omega
    refine use_draw (by decide) (by decide) (by omega) fun e n3 e0 e1' e3 => ?_
    walk_at "ck"
    have em : ps.map d3 ++ [Dt.tup [.int (1 + e), .int 1, .int 0]] = (ps ++ [(⟨1 + e, 1, 0⟩ : T3)]).map d3 := by rw [List.map_append]; rfl
    have el : (ps ++ [(⟨1 + e, 1, 0⟩ : T3)]).length = 2 := by rw [List.length_append, h1]; rfl
    rw [em]
    refine ⟨size1M (by omega), rest (ps ++ [⟨1 + e, 1, 0⟩]) n3 (by omega) (by omega) (fun t ht => ?_) (by omega)⟩
    rcases List.mem_append.mp ht with z | z
    · exact hps t z
    · rw [List.mem_singleton.mp z]
      refine ⟨⟨by show -1000000 ≤ 1 + e; omega, by show 1 + e ≤ 1000000; omega⟩, ⟨by show (-1000000 : Int) ≤ 1; decide, by show (1 : Int) ≤ 1000000; decide⟩, ⟨by show (-1000000 : Int) ≤ 0; decide, by show (0 : Int) ≤ 1000000; decide⟩, fun s hs => ?_⟩
      have := (price_room (m := s.1) (r := s.2) hs).1.1
      unfold roomAt
      dsimp only
      omega
  · have h1 : ps.length ≠ 1 := fun z => hd (decide_eq_true (by omega))
    exact rest ps n2 (by omega) (by omega) hps (by omega)
end Ck
namespace Ck
/-! ### ascending places and their runs -/
abbrev Asc (l : List Int) : Prop := l.Pairwise (· < ·)
/-- a run ahead of others: joined to the next one, if that begins just behind it -/
def mergeR (p : Int × Int) : List (Int × Int) → List (Int × Int)
  | [] => [p]
  | q :: t => if q.1 = p.2 + 1 then (p.1, q.2) :: t else p :: q :: t
theorem mergeR_pos {p q : Int × Int} {t : List (Int × Int)} (h : q.1 = p.2 + 1) : mergeR p (q :: t) = (p.1, q.2) :: t := if_pos h
theorem mergeR_neg {p q : Int × Int} {t : List (Int × Int)} (h : ¬ q.1 = p.2 + 1) : mergeR p (q :: t) = p :: q :: t := if_neg h
def runsC : List Int → List (Int × Int)
  | [] => []
  | x :: l => mergeR (x, x) (runsC l)
def pushR (acc : List (Int × Int)) (x : Int) : List (Int × Int) := match acc.getLast? with
  | none => acc ++ [(x, x)]
  | some p => if p.2 = x - 1 then acc.dropLast ++ [(p.1, x)] else acc ++ [(x, x)]
theorem merge_merge {a b x : Int} {R : List (Int × Int)} (h : x = b + 1) : mergeR (a, b) (mergeR (x, x) R) = mergeR (a, x) R := by
  cases R with
  | nil => simp [mergeR, h]
  | cons q t =>
    by_cases hq : q.1 = x + 1
    · rw [mergeR_pos hq, mergeR_pos (by exact h), mergeR_pos hq]
    · rw [mergeR_neg hq, mergeR_pos (by exact h), mergeR_neg hq]
theorem merge_apart {a b x : Int} {R : List (Int × Int)} (h : x ≠ b + 1) : mergeR (a, b) (mergeR (x, x) R) = (a, b) :: mergeR (x, x) R := by
  cases R with
  | nil => simp [mergeR, h]
  | cons q t =>
    by_cases hq : q.1 = x + 1
    · rw [mergeR_pos hq, mergeR_neg (by exact h)]
    · rw [mergeR_neg hq, mergeR_neg (by exact h)]
theorem foldl_push : ∀ (l : List Int) (r : List (Int × Int)) (a b : Int), l.foldl pushR (r ++ [(a, b)]) = r ++ mergeR (a, b) (runsC l)
  | [], r, a, b => by simp [runsC, mergeR]
  | x :: l, r, a, b => by
    rw [List.foldl_cons]
    have e : pushR (r ++ [(a, b)]) x = if b = x - 1 then r ++ [(a, x)] else (r ++ [(a, b)]) ++ [(x, x)] := by
      unfold pushR
      simp
    rw [e]
    by_cases h : b = x - 1
    · rw [if_pos h, foldl_push l r a x]
      show _ = r ++ mergeR (a, b) (mergeR (x, x) (runsC l))
      rw [merge_merge (by omega)]
    · rw [if_neg h, foldl_push l (r ++ [(a, b)]) x x]
      show _ = r ++ mergeR (a, b) (mergeR (x, x) (runsC l))
      rw [merge_apart (by omega), List.append_assoc]
      rfl
theorem foldl_runs (l : List Int) : l.foldl pushR [] = runsC l := by
  cases l with
  | nil => rfl
  | cons x l =>
    rw [List.foldl_cons]
    show l.foldl pushR ([] ++ [(x, x)]) = _
    rw [foldl_push]
    rfl
/-! ### the members of runs -/
def span (p : Int × Int) : List Int := (List.range (p.2 - p.1 + 1).toNat).map fun (k : Nat) => p.1 + (k : Int)
def placesR (rs : List (Int × Int)) : List Int := rs.flatMap span
theorem span_len {p : Int × Int} (h : p.1 ≤ p.2 + 1) : ((span p).length : Int) = p.2 - p.1 + 1 := by
  unfold span
  rw [List.length_map, List.length_range]
  omega
theorem span_cons {a b : Int} (h : a ≤ b) : span (a, b) = a :: span (a + 1, b) := by
  unfold span
  have e : (b - a + 1).toNat = (b - (a + 1) + 1).toNat + 1 := by omega
  dsimp only
  rw [e, List.range_succ_eq_map, List.map_cons, List.map_map]
  congr 1
  · simp
  · refine List.map_congr_left fun k _ => ?_
    simp [Function.comp]
    omega
theorem span_one (x : Int) : span (x, x) = [x] := by
  rw [span_cons (Int.le_refl x)]
  unfold span
  have : (x - (x + 1) + 1).toNat = 0 := by omega
  dsimp only
  rw [this]
  rfl
/-- the runs rs from lo on: ascending, with room between two -/
def RunsOk (lo : Int) : List (Int × Int) → Prop
  | [] => True
  | p :: r => lo ≤ p.1 ∧ p.1 ≤ p.2 ∧ RunsOk (p.2 + 2) r
theorem RunsOk.mono {lo lo' : Int} (h : lo' ≤ lo) : ∀ {rs : List (Int × Int)}, RunsOk lo rs → RunsOk lo' rs
  | [], _ => trivial
  | _ :: _, ⟨a, b, c⟩ => ⟨by omega, b, c⟩
theorem runsC_ok {lo : Int} : ∀ {l : List Int}, Asc l → (∀ x ∈ l, lo ≤ x) → RunsOk lo (runsC l) ∧ placesR (runsC l) = l
  | [], _, _ => ⟨trivial, rfl⟩
  | x :: l, h, hl => by
    obtain ⟨h1, h2⟩ := List.pairwise_cons.mp h
    obtain ⟨i1, i2⟩ := runsC_ok (lo := x + 1) h2 fun y hy => h1 y hy
    show RunsOk lo (mergeR (x, x) (runsC l)) ∧ placesR (mergeR (x, x) (runsC l)) = x :: l
    have hx := hl x List.mem_cons_self
    cases hR : runsC l with
    | nil =>
      rw [hR] at i2
      refine ⟨⟨hx, Int.le_refl _, trivial⟩, ?_⟩
      rw [← i2]
      show span (x, x) ++ [] = [x]
      rw [span_one]
      rfl
    | cons q t =>
      rw [hR] at i1 i2
      obtain ⟨j1, j2, j3⟩ := i1
      by_cases hq : q.1 = x + 1
      · rw [mergeR_pos hq]
        refine ⟨⟨hx, by show x ≤ q.2; omega, j3⟩, ?_⟩
        show span (x, q.2) ++ placesR t = x :: l
        rw [span_cons (by omega), List.cons_append]
        congr 1
        rw [← i2]
        show _ = span q ++ placesR t
        rw [← hq]
      · rw [mergeR_neg hq]
        refine ⟨⟨hx, Int.le_refl _, by show x + 2 ≤ q.1; omega, j2, j3⟩, ?_⟩
        show span (x, x) ++ (span q ++ placesR t) = x :: l
        rw [span_one, ← i2]
        rfl
/-! ### sizes and shapes -/
def sizeR (rs : List (Int × Int)) : Int := (rs.map fun p => p.2 - p.1 + 1).sum
theorem sizeR_places {lo : Int} : ∀ {rs : List (Int × Int)}, RunsOk lo rs → sizeR rs = (placesR rs).length
  | [], _ => rfl
  | (a, b) :: r, ⟨h1, h2, h3⟩ => by
    show (b - a + 1) + sizeR r = ((span (a, b) ++ placesR r).length : Nat)
    rw [List.length_append, sizeR_places h3]
    have := span_len (p := (a, b)) (by dsimp only at h2 ⊢; omega)
    dsimp only at this
    omega
/-! ### the law's own way -/
def starts (l : List Int) : List Int := l.filter fun x => !decide (x - 1 ∈ l)
def stops (l : List Int) : List Int := l.filter fun x => !decide (x + 1 ∈ l)
theorem starts_cons {x : Int} {l : List Int} (h : Asc (x :: l)) : starts (x :: l) = x :: (starts l).filter fun y => !decide (y = x + 1) := by
  obtain ⟨h1, h2⟩ := List.pairwise_cons.mp h
  unfold starts
  rw [List.filter_cons]
  have hx : decide (x - 1 ∈ x :: l) = false := by
    refine decide_eq_false fun z => ?_
    rcases List.mem_cons.mp z with z | z
    · omega
    · have := h1 _ z
      omega
  rw [hx, Bool.not_false, if_pos rfl]
  congr 1
  rw [List.filter_filter]
  refine List.filter_congr fun y hy => ?_
  by_cases e : y = x + 1
  · subst e
    simp
  · have : decide (y - 1 ∈ x :: l) = decide (y - 1 ∈ l) := by
      by_cases z : y - 1 ∈ l
      · rw [decide_eq_true z, decide_eq_true (List.mem_cons_of_mem _ z)]
      · rw [decide_eq_false z, decide_eq_false]
        intro q
        rcases List.mem_cons.mp q with q | q
        · omega
        · exact z q
    rw [this, decide_eq_false e]
    simp
theorem stops_cons {x : Int} {l : List Int} (h : Asc (x :: l)) : stops (x :: l) = if x + 1 ∈ l then stops l else x :: stops l := by
  obtain ⟨h1, h2⟩ := List.pairwise_cons.mp h
  unfold stops
  rw [List.filter_cons]
  have e1 : ∀ y ∈ l, (!decide (y + 1 ∈ x :: l)) = !decide (y + 1 ∈ l) := fun y hy => by
    by_cases z : y + 1 ∈ l
    · rw [decide_eq_true z, decide_eq_true (List.mem_cons_of_mem _ z)]
    · rw [decide_eq_false z, decide_eq_false]
      intro q
      rcases List.mem_cons.mp q with q | q
      · have := h1 y hy
        omega
      · exact z q
  rw [List.filter_congr e1]
  by_cases hx : x + 1 ∈ l
  · rw [if_pos hx, decide_eq_true (List.mem_cons_of_mem _ hx), Bool.not_true, if_neg Bool.false_ne_true]
  · rw [if_neg hx, decide_eq_false (fun q => by
      rcases List.mem_cons.mp q with q | q
      · omega
      · exact hx q), Bool.not_false, if_pos rfl]
/-- what stands at the head of the starts of ascending places -/
theorem starts_head {l : List Int} (h : Asc l) : (l = [] ∧ starts l = []) ∨ ∃ y t u, l = y :: t ∧ starts l = y :: u ∧ ∀ z ∈ u, y + 1 < z := by
  cases l with
  | nil => exact .inl ⟨rfl, rfl⟩
  | cons y t =>
    refine .inr ⟨y, t, _, rfl, starts_cons h, fun z hz => ?_⟩
    obtain ⟨h1, h2⟩ := List.pairwise_cons.mp h
    obtain ⟨k1, k2⟩ := List.mem_filter.mp hz
    have k3 := (List.mem_filter.mp k1).1
    have := h1 z k3
    have : z ≠ y + 1 := by simpa using k2
    omega
theorem zip_runs : ∀ {l : List Int}, Asc l → (starts l).zip (stops l) = runsC l ∧ (starts l).length = (stops l).length
  | [], _ => ⟨rfl, rfl⟩
  | x :: l, h => by
    obtain ⟨h1, h2⟩ := List.pairwise_cons.mp h
    obtain ⟨i1, i2⟩ := zip_runs h2
    rw [starts_cons h, stops_cons h]
    show _ = mergeR (x, x) (runsC l) ∧ _
    rw [← i1]
    rcases starts_head h2 with ⟨e1, e2⟩ | ⟨y, t, u, e1, e2, hu⟩
    · subst e1
      simp [starts, stops, mergeR]
    · have hu' : u.filter (fun z => !decide (z = x + 1)) = u := by
        rw [List.filter_eq_self]
        intro z hz
        have := hu z hz
        have := h1 y (by rw [e1]; exact List.mem_cons_self)
        simp
        omega
      rw [e2] at i2 ⊢
      cases hs : stops l with
      | nil => rw [hs] at i2; simp at i2
      | cons s v =>
        rw [hs] at i2
        have hl : u.length = v.length := by simpa using i2
        rw [List.filter_cons]
        by_cases hy : y = x + 1
        · have hm : x + 1 ∈ l := by rw [e1, hy]; exact List.mem_cons_self
          rw [if_pos hm]
          simp [hy, hu', mergeR, hl]
        · have hm : x + 1 ∉ l := by
            rw [e1]
            intro z
            rcases List.mem_cons.mp z with z | z
            · omega
            · have h3 := (List.pairwise_cons.mp (by rw [e1] at h2; exact h2)).1 _ z
              have := h1 y (by rw [e1]; exact List.mem_cons_self)
              omega
          rw [if_neg hm]
          simp [hy, hu', mergeR, hl]
theorem shape_runs {l : List Int} (h : Asc l) : ((starts l).length : Int) = (runsC l).length ∧ sizeR (runsC l) = l.length := by
  obtain ⟨i1, i2⟩ := zip_runs h
  constructor
  · rw [← i1, List.length_zip, ← i2, Nat.min_self]
  · obtain ⟨lo, hlo⟩ : ∃ lo : Int, ∀ x ∈ l, lo ≤ x := by
      cases l with
      | nil => exact ⟨0, fun x h => nomatch h⟩
      | cons y t =>
        refine ⟨y, fun x hx => ?_⟩
        rcases List.mem_cons.mp hx with z | z
        · omega
        · have := (List.pairwise_cons.mp h).1 x z
          omega
    obtain ⟨j1, j2⟩ := runsC_ok h hlo
    rw [sizeR_places j1, j2]
end Ck
namespace Ck
open PySem PySem.Spec PyProof.Rows L2
local macro_rules | `(tactic| walk_at "ck") => `(tactic| try simp only [wNext, wBrk, wCnt, wSeq, wRet, wRetN, wSet, wOwn, wDrop, wUnp, wPar, wIfS, wApp, wExt, wSetIx, wAug, wFrz, wFor, k_var, k_vk1, k_vk2, k_par, wC, wL, wOp, wOpL, wF, wFL, wNil, wCons, wTup, wLst, wTV, wTAnd, wTOr, wTNot, wAnd, wOr, wNot, wIfx, wIsN, wNotN, wChain, wO0, wO1, wSl, wCall, wIsi, wLr1, wLr2, wNeg, wLc, wYes, wiSeq, wiR1, wiR2, wiEnum, wiZip, noOwnB, wipeD, wEmp, wListZip, wSortSet, wRevL, wRevT, wOneB, k_mulT, k_add1, k_add2, k_add3, k_add4, k_addL, k_sub, k_mul1, k_mul2, k_mulL, k_div, k_mod, k_pow, k_cmp, k_eq, k_ne, k_ea1, k_ea2, k_ea3, k_ea4, k_in1, k_in2, k_in3, k_in4, k_ix1, k_ix2, k_ix3, k_sl1, k_sl2, k_len1, k_len2, k_len3, k_int1, k_int2, k_abs, k_tuple1, k_tuple2, k_list1, k_list2, k_min2, k_max2, k_non_non, k_ty_int_non, k_ty_bool_non, k_ty_tuple_non, k_ty_str_non, k_ty_list_non, k_non_bl, k_ty_int_bl, k_ty_bool_bl, k_ty_tuple_bl, k_ty_str_bl, k_ty_list_bl, k_non_int, k_ty_int_int, k_ty_bool_int, k_ty_tuple_int, k_ty_str_int, k_ty_list_int, k_non_str, k_ty_int_str, k_ty_bool_str, k_ty_tuple_str, k_ty_str_str, k_ty_list_str, k_non_tup, k_ty_int_tup, k_ty_bool_tup, k_ty_tuple_tup, k_ty_str_tup, k_ty_list_tup, k_non_lst, k_ty_int_lst, k_ty_bool_lst, k_ty_tuple_lst, k_ty_str_lst, k_ty_list_lst, k_non_emp, k_ty_int_emp, k_ty_bool_emp, k_ty_tuple_emp, k_ty_str_emp, k_ty_list_emp, k_seq_non, k_seq_bl, k_seq_int, k_seq_str, k_seq_tup, k_seq_lst, k_seq_emp, k_sz0, k_sz1, k_sz2, k_sz3, k_sz4, k_sz5, k_sz6, k_sz7, k_sz8, k_sz9, k_sz10, k_sz11, k_sz12, k_sz13, k_sz14, k_sz15, k_sz16, k_sz17, k_sz18, k_sz19, k_sz20, k_sz21, k_sz22, k_sz23, k_at0, k_at1, k_at2, k_at3, k_iteT, k_iteF, k_bt1, k_bt2, k_sa0, k_sa1, k_endn, k_endr, List.getElem?_cons_succ, List.getElem?_cons_zero, List.set_cons_succ, List.set_cons_zero, List.length_cons, List.length_nil, List.length_map, List.all_cons, List.all_nil, Nat.reduceAdd, Nat.zero_add, Bool.and_true, Bool.and_self, Option.some.injEq, Dt.int.injEq, Dt.bl.injEq, Dt.str.injEq, Dt.tup.injEq, Dt.lst.injEq, Sv.dat.injEq, Sv.own.injEq, exists_eq_left', exists_eq_left, exists_eq_right, exists_eq', exists_eq, if_true, if_false, Bool.not_false, Bool.not_true, Bool.not_not, true_and, and_true, false_and, and_false, exists_const, reduceCtorEq])

/-! ### drawn sets, their runs -/
theorem inD_int {x : Int} {l : List Int} : inD (.int x) (l.map .int) = decide (x ∈ l) := by
  unfold inD inV
  rw [List.map_map, List.any_map]
  by_cases h : x ∈ l
  · rw [decide_eq_true h]
    refine List.any_eq_true.mpr ⟨x, h, ?_⟩
    simp [Function.comp, fv, eqV]
  · rw [decide_eq_false h, List.any_eq_false]
    intro y hy hz
    have : y = x := by simpa [Function.comp, fv, eqV] using hz
    exact h (this ▸ hy)
theorem flat_ints (l : List Int) : (l.map Dt.int).all flatD = true := by
  rw [List.all_map]
  exact List.all_eq_true.mpr fun _ _ => rfl
theorem rngD_ints (lo : Int) (n : Nat) : rngD lo n = ((List.range n).map fun (k : Nat) => lo + (k : Int)).map Dt.int := by
  rw [rngD_eq, List.map_map]
  rfl
end Ck
namespace Ck
open PySem PySem.Spec PyProof.Rows L2
local macro_rules | `(tactic| walk_at "ck") => `(tactic| try simp only [wNext, wBrk, wCnt, wSeq, wRet, wRetN, wSet, wOwn, wDrop, wUnp, wPar, wIfS, wApp, wExt, wSetIx, wAug, wFrz, wFor, k_var, k_vk1, k_vk2, k_par, wC, wL, wOp, wOpL, wF, wFL, wNil, wCons, wTup, wLst, wTV, wTAnd, wTOr, wTNot, wAnd, wOr, wNot, wIfx, wIsN, wNotN, wChain, wO0, wO1, wSl, wCall, wIsi, wLr1, wLr2, wNeg, wLc, wYes, wiSeq, wiR1, wiR2, wiEnum, wiZip, noOwnB, wipeD, wEmp, wListZip, wSortSet, wRevL, wRevT, wOneB, k_mulT, k_add1, k_add2, k_add3, k_add4, k_addL, k_sub, k_mul1, k_mul2, k_mulL, k_div, k_mod, k_pow, k_cmp, k_eq, k_ne, k_ea1, k_ea2, k_ea3, k_ea4, k_in1, k_in2, k_in3, k_in4, k_ix1, k_ix2, k_ix3, k_sl1, k_sl2, k_len1, k_len2, k_len3, k_int1, k_int2, k_abs, k_tuple1, k_tuple2, k_list1, k_list2, k_min2, k_max2, k_non_non, k_ty_int_non, k_ty_bool_non, k_ty_tuple_non, k_ty_str_non, k_ty_list_non, k_non_bl, k_ty_int_bl, k_ty_bool_bl, k_ty_tuple_bl, k_ty_str_bl, k_ty_list_bl, k_non_int, k_ty_int_int, k_ty_bool_int, k_ty_tuple_int, k_ty_str_int, k_ty_list_int, k_non_str, k_ty_int_str, k_ty_bool_str, k_ty_tuple_str, k_ty_str_str, k_ty_list_str, k_non_tup, k_ty_int_tup, k_ty_bool_tup, k_ty_tuple_tup, k_ty_str_tup, k_ty_list_tup, k_non_lst, k_ty_int_lst, k_ty_bool_lst, k_ty_tuple_lst, k_ty_str_lst, k_ty_list_lst, k_non_emp, k_ty_int_emp, k_ty_bool_emp, k_ty_tuple_emp, k_ty_str_emp, k_ty_list_emp, k_seq_non, k_seq_bl, k_seq_int, k_seq_str, k_seq_tup, k_seq_lst, k_seq_emp, k_sz0, k_sz1, k_sz2, k_sz3, k_sz4, k_sz5, k_sz6, k_sz7, k_sz8, k_sz9, k_sz10, k_sz11, k_sz12, k_sz13, k_sz14, k_sz15, k_sz16, k_sz17, k_sz18, k_sz19, k_sz20, k_sz21, k_sz22, k_sz23, k_at0, k_at1, k_at2, k_at3, k_iteT, k_iteF, k_bt1, k_bt2, k_sa0, k_sa1, k_endn, k_endr, List.getElem?_cons_succ, List.getElem?_cons_zero, List.set_cons_succ, List.set_cons_zero, List.length_cons, List.length_nil, List.length_map, List.all_cons, List.all_nil, Nat.reduceAdd, Nat.zero_add, Bool.and_true, Bool.and_self, Option.some.injEq, Dt.int.injEq, Dt.bl.injEq, Dt.str.injEq, Dt.tup.injEq, Dt.lst.injEq, Sv.dat.injEq, Sv.own.injEq, exists_eq_left', exists_eq_left, exists_eq_right, exists_eq', exists_eq, if_true, if_false, Bool.not_false, Bool.not_true, Bool.not_not, true_and, and_true, false_and, and_false, exists_const, reduceCtorEq])

/-! ### a value with something in it changed -/
end Ck
namespace Ck
open PySem PySem.Spec PyProof.Rows L2
local macro_rules | `(tactic| walk_at "ck") => `(tactic| try simp only [wNext, wBrk, wCnt, wSeq, wRet, wRetN, wSet, wOwn, wDrop, wUnp, wPar, wIfS, wApp, wExt, wSetIx, wAug, wFrz, wFor, k_var, k_vk1, k_vk2, k_par, wC, wL, wOp, wOpL, wF, wFL, wNil, wCons, wTup, wLst, wTV, wTAnd, wTOr, wTNot, wAnd, wOr, wNot, wIfx, wIsN, wNotN, wChain, wO0, wO1, wSl, wCall, wIsi, wLr1, wLr2, wNeg, wLc, wYes, wiSeq, wiR1, wiR2, wiEnum, wiZip, noOwnB, wipeD, wEmp, wListZip, wSortSet, wRevL, wRevT, wOneB, k_mulT, k_add1, k_add2, k_add3, k_add4, k_addL, k_sub, k_mul1, k_mul2, k_mulL, k_div, k_mod, k_pow, k_cmp, k_eq, k_ne, k_ea1, k_ea2, k_ea3, k_ea4, k_in1, k_in2, k_in3, k_in4, k_ix1, k_ix2, k_ix3, k_sl1, k_sl2, k_len1, k_len2, k_len3, k_int1, k_int2, k_abs, k_tuple1, k_tuple2, k_list1, k_list2, k_min2, k_max2, k_non_non, k_ty_int_non, k_ty_bool_non, k_ty_tuple_non, k_ty_str_non, k_ty_list_non, k_non_bl, k_ty_int_bl, k_ty_bool_bl, k_ty_tuple_bl, k_ty_str_bl, k_ty_list_bl, k_non_int, k_ty_int_int, k_ty_bool_int, k_ty_tuple_int, k_ty_str_int, k_ty_list_int, k_non_str, k_ty_int_str, k_ty_bool_str, k_ty_tuple_str, k_ty_str_str, k_ty_list_str, k_non_tup, k_ty_int_tup, k_ty_bool_tup, k_ty_tuple_tup, k_ty_str_tup, k_ty_list_tup, k_non_lst, k_ty_int_lst, k_ty_bool_lst, k_ty_tuple_lst, k_ty_str_lst, k_ty_list_lst, k_non_emp, k_ty_int_emp, k_ty_bool_emp, k_ty_tuple_emp, k_ty_str_emp, k_ty_list_emp, k_seq_non, k_seq_bl, k_seq_int, k_seq_str, k_seq_tup, k_seq_lst, k_seq_emp, k_sz0, k_sz1, k_sz2, k_sz3, k_sz4, k_sz5, k_sz6, k_sz7, k_sz8, k_sz9, k_sz10, k_sz11, k_sz12, k_sz13, k_sz14, k_sz15, k_sz16, k_sz17, k_sz18, k_sz19, k_sz20, k_sz21, k_sz22, k_sz23, k_at0, k_at1, k_at2, k_at3, k_iteT, k_iteF, k_bt1, k_bt2, k_sa0, k_sa1, k_endn, k_endr, List.getElem?_cons_succ, List.getElem?_cons_zero, List.set_cons_succ, List.set_cons_zero, List.length_cons, List.length_nil, List.length_map, List.all_cons, List.all_nil, Nat.reduceAdd, Nat.zero_add, Bool.and_true, Bool.and_self, Option.some.injEq, Dt.int.injEq, Dt.bl.injEq, Dt.str.injEq, Dt.tup.injEq, Dt.lst.injEq, Sv.dat.injEq, Sv.own.injEq, exists_eq_left', exists_eq_left, exists_eq_right, exists_eq', exists_eq, if_true, if_false, Bool.not_false, Bool.not_true, Bool.not_not, true_and, and_true, false_and, and_false, exists_const, reduceCtorEq])

/-! ### runs: their shapes, their places, one place toggled -/
section
variable {Ω : Type} {tg : Tg} {body : DS Ω} {D : DD Ω} {w : Ω}
/-- a loop that ends at its end: J, what holds behind the first ones -/
theorem loop_pre {α : Type} (enc : α → Dt) (all : List α) (J : List α → Sl → Prop)
    (h : ∀ (pre : List α) (y : α) (suf : List α) (sl : Sl), pre ++ y :: suf = all → J pre sl → ∃ sl', bindTg tg (enc y) sl = some sl' ∧ ∀ N : Sl → Ω → Prop, (∀ s, J (pre ++ [y]) s → N s w) → body { D with nx := N, ct := N, bk := D.nx } sl' w)
    (hC : ∀ s, J all s → D.nx s w) : ∀ (ys pre : List α) {sl : Sl}, pre ++ ys = all → J pre sl → wLoop tg body D (ys.map enc) sl w
  | [], pre, sl, e, hj => hC sl (by rw [List.append_nil] at e; exact e ▸ hj)
  | y :: ys, pre, sl, e, hj => by
    obtain ⟨sl', h1, h2⟩ := h pre y ys sl e hj
    exact ⟨sl', h1, h2 _ fun s hs => loop_pre enc all J h hC ys (pre ++ [y]) (by rw [List.append_assoc]; exact e) hs⟩
end
theorem placesR_app (a b : List (Int × Int)) : placesR (a ++ b) = placesR a ++ placesR b := List.flatMap_append
theorem span_rng (s : Int × Int) : rngD s.1 (s.2 + 1 - s.1).toNat = (span s).map Dt.int := by
  rw [rngD_ints]
  unfold span
  have e : s.2 + 1 - s.1 = s.2 - s.1 + 1 := by omega
  rw [e]
theorem last_at {α : Type} {l : List α} {d : α} : L2.atI (l ++ [d]) (-1) = some d := by
  unfold L2.atI
  have e : ixN (l ++ [d]).length (-1) = some l.length := by
    unfold ixN
    rw [List.length_append]
    simp
    try omega
  rw [e]
  simp
theorem ixN_last {n : Nat} : ixN (n + 1) (-1) = some n := by
  unfold ixN
  simp
  try omega
def S_shape_of {Ω : Type} : Spc Ω := pureS (ι := List (Int × Int)) (fun i => [.tup (i.map dS)]) (fun i => i.length ≤ 100000) fun i => dS (sizeR i, i.length)
def S_places_in {Ω : Type} : Spc Ω := pureS (ι := List (Int × Int)) (fun i => [.tup (i.map dS)]) (fun i => (placesR i).length ≤ 100000 ∧ ∀ s ∈ i, -1000000 ≤ s.1 ∧ s.1 ≤ 1000000 ∧ -1000000 ≤ s.2 ∧ s.2 ≤ 1000000) fun i => .lst ((placesR i).map .int)
def S_runs_of {Ω : Type} : Spc Ω := pureS (ι := List Int) (fun i => [.lst (i.map .int)]) (fun i => i.length ≤ 100000) fun i => .tup ((runsC i).map dS)
abbrev p_shape_of {Ω : Type} : DS Ω :=
  (wRet (wTup (wCons (wF fSum (wL (wLc [1, 2] (.many [1, 2]) (wiSeq (wVar 0)) wYes (wOp fAdd (wOp fSub (wVar 2) (wVar 1)) (wC (.int 1)))))) (wCons (wF fLen (wVar 0)) wNil))))
abbrev p_places_in {Ω : Type} : DS Ω :=
  (wSeq (wOwn 1 (wLst wNil))
  (wSeq (wFor (.many [2, 3]) (wiSeq (wVar 0)) (wExt 1 (wLr2 (wVar 2) (wOp fAdd (wVar 3) (wC (.int 1))))))
  (wFrz 1 (wRet (wVar 1)))))
abbrev p_runs_of {Ω : Type} : DS Ω :=
  (wSeq (wOwn 1 (wLst wNil))
  (wSeq (wFor (.one 2) (wiSeq (wVar 0)) (wIfS (wTAnd (wTV (wOp fNe (wVar 1) (wL (wLst wNil)))) (wTV (wOp fEq (wOp fIx (wOp fIx (wVar 1) (wNeg (wC (.int 1)))) (wC (.int 1))) (wOp fSub (wVar 2) (wC (.int 1)))))) (wSetIx 1 (wTup (wCons (wOp fIx (wOp fIx (wVar 1) (wNeg (wC (.int 1)))) (wC (.int 0))) (wCons (wVar 2) wNil))) (wNeg (wC (.int 1)))) (wApp 1 (wTup (wCons (wVar 2) (wCons (wVar 2) wNil))))))
  (wRet (wF fTuple (wVar 1)))))
theorem m_shape_of {Ω : Type} : ∀ ds (w : Ω) C, S_shape_of.run ds w C → p_shape_of (endD C) (startD 3 ds) w := by
  rintro ds w C ⟨rs, rfl, hl, q⟩
  replace hl : rs.length ≤ 100000 := hl
  replace q : C (dS (sizeR rs, rs.length)) w := q
  show p_shape_of _ [some (.dat (.tup (rs.map dS))), none, none] _
  unfold p_shape_of
  walk_at "ck"
  refine ⟨size1M (by omega), lc_map dS (fun s => .int (s.2 - s.1 + 1)) rs (fun s hs => ⟨_, rfl, fun C' h => ?_⟩) ?_⟩
  · walk_at "ck"
    exact h
  · walk_at "ck"
    refine ⟨rs.map fun p => p.2 - p.1 + 1, by rw [List.map_map]; rfl, ?_⟩
    walk_at "ck"
    exact q
theorem m_places_in {Ω : Type} : ∀ ds (w : Ω) C, S_places_in.run ds w C → p_places_in (endD C) (startD 4 ds) w := by
  rintro ds w C ⟨rs, rfl, ⟨hl, hb⟩, q⟩
  replace hl : (placesR rs).length ≤ 100000 := hl
  replace hb : ∀ s ∈ rs, -1000000 ≤ s.1 ∧ s.1 ≤ 1000000 ∧ -1000000 ≤ s.2 ∧ s.2 ≤ 1000000 := hb
  replace q : C (.lst ((placesR rs).map .int)) w := q
  show p_places_in _ [some (.dat (.tup (rs.map dS))), none, none, none] _
  unfold p_places_in
  walk_at "ck"
  refine loop_pre dS rs (fun pre sl => ∃ x2 x3, sl = [some (.dat (.tup (rs.map dS))), some (.own ((placesR pre).map .int)), x2, x3]) (fun pre s suf sl e hj => ?_) (fun s hs => ?_) rs [] rfl ⟨_, _, rfl⟩
  · obtain ⟨x2, x3, rfl⟩ := hj
    obtain ⟨b1, b2, b3, b4⟩ := hb s (by rw [← e]; simp)
    have hl2 : (placesR (pre ++ [s])).length ≤ 100000 := by
      have e2 : placesR rs = placesR (pre ++ [s]) ++ placesR suf := by rw [← placesR_app, ← e]; simp
      rw [e2, List.length_append] at hl
      omega
    have es : placesR (pre ++ [s]) = placesR pre ++ span s := by
      rw [placesR_app]
      show _ ++ (span s ++ []) = _
      rw [List.append_nil]
    rw [es] at hl2
    rw [List.length_append] at hl2
    refine ⟨_, rfl, fun N hN => ?_⟩
    walk_at "ck"
    refine ⟨s.1, s.2 + 1, rfl, rfl, ⟨by omega, by omega, by omega, by omega⟩, ?_⟩
    rw [span_rng, List.length_map]
    exact ⟨size1M (by omega), hN _ ⟨_, _, by rw [es, List.map_append]⟩⟩
  · obtain ⟨x2, x3, rfl⟩ := hs
    walk_at "ck"
    exact q
theorem runs_push_len (l : List Int) : (l.foldl pushR []).length ≤ l.length := by
  rw [foldl_runs]
  induction l with
  | nil => exact Nat.le_refl _
  | cons x l ih =>
    show (mergeR (x, x) (runsC l)).length ≤ _
    unfold mergeR
    split
    · exact Nat.le_add_left _ _
    · rename_i q t e
      rw [e] at ih
      rw [List.length_cons] at ih ⊢
      split
      · rw [List.length_cons]; omega
      · rw [List.length_cons, List.length_cons]; omega
theorem m_runs_of {Ω : Type} : ∀ ds (w : Ω) C, S_runs_of.run ds w C → p_runs_of (endD C) (startD 3 ds) w := by
  rintro ds w C ⟨l, rfl, hl, q⟩
  replace hl : l.length ≤ 100000 := hl
  replace q : C (.tup ((runsC l).map dS)) w := q
  show p_runs_of _ [some (.dat (.lst (l.map .int))), none, none] _
  unfold p_runs_of
  walk_at "ck"
  refine loop_pre Dt.int l (fun pre sl => ∃ x2, sl = [some (.dat (.lst (l.map .int))), some (.own ((pre.foldl pushR []).map dS)), x2]) (fun pre x suf sl e hj => ?_) (fun s hs => ?_) l [] rfl ⟨_, rfl⟩
  · obtain ⟨x2, rfl⟩ := hj
    have hl2 : (pre.foldl pushR []).length ≤ 100000 := by
      have := runs_push_len pre
      have e2 : l.length = pre.length + (suf.length + 1) := by rw [← e]; simp
      omega
    refine ⟨_, rfl, fun N hN => ?_⟩
    have ef : (pre ++ [x]).foldl pushR [] = pushR (pre.foldl pushR []) x := by rw [List.foldl_append]; rfl
    rw [ef] at hN
    obtain ⟨acc, hacc⟩ : ∃ acc, pre.foldl pushR [] = acc := ⟨_, rfl⟩
    rw [hacc] at hN hl2 ⊢
    walk_at "ck"
    rcases List.eq_nil_or_concat acc with rfl | ⟨r, p, rfl⟩
    · refine ⟨by decide, hN _ ⟨_, rfl⟩⟩
    · rw [List.concat_eq_append] at hN hl2 ⊢
      have e1 : L2.atI ((r ++ [p]).map dS) (-1) = some (.tup [.int p.1, .int p.2]) := by
        rw [List.map_append]
        exact last_at
      have e2 : ((r ++ [p]).map dS).isEmpty = false := by simp
      have e3 : ixN (r ++ [p]).length (-1) = some r.length := by
        rw [List.length_append]
        exact ixN_last
      have ep : pushR (r ++ [p]) x = if p.2 = x - 1 then r ++ [(p.1, x)] else (r ++ [p]) ++ [(x, x)] := by
        unfold pushR
        simp
      rw [e2]
      refine ⟨_, e1, ?_⟩
      walk_at "ck"
      refine ite2 (fun hd => ?_) (fun hd => ?_)
      · have hd : p.2 = x - 1 := of_decide_eq_true hd
        rw [ep, if_pos hd] at hN
        refine ⟨_, e1, ?_⟩
        walk_at "ck"
        refine ⟨-1, r.length, rfl, e3, ?_⟩
        have e4 : ((r ++ [p]).map dS).set r.length (.tup [.int p.1, .int x]) = (r ++ [(p.1, x)]).map dS := by
          rw [List.map_append, List.map_append, List.set_append_right _ _ (by simp)]
          simp [dS]
        rw [e4]
        exact hN _ ⟨_, rfl⟩
      · have hd : ¬ p.2 = x - 1 := fun z => hd (decide_eq_true z)
        rw [ep, if_neg hd] at hN
        refine ⟨by have : 1000000 < sizeLine + 1 := Nat.lt_succ_of_le (size1M (Nat.le_refl _)); omega, ?_⟩
        have e4 : (r ++ [p]).map dS ++ [Dt.tup [.int x, .int x]] = ((r ++ [p]) ++ [(x, x)]).map dS := by
          rw [List.map_append (l₂ := [(x, x)])]
          rfl
        rw [e4]
        exact hN _ ⟨_, rfl⟩
  · obtain ⟨x2, rfl⟩ := hs
    rw [foldl_runs]
    walk_at "ck"
    exact q
/-! ### one place more or less -/
def insA (x : Int) : List Int → List Int
  | [] => [x]
  | y :: t => if x < y then x :: y :: t else y :: insA x t
theorem insA_perm (x : Int) : ∀ l : List Int, (insA x l).Perm (l ++ [x])
  | [] => List.Perm.refl _
  | y :: t => by
    unfold insA
    split
    · exact (List.perm_append_comm (l₁ := [x]) (l₂ := y :: t))
    · exact (insA_perm x t).cons y
theorem mem_insA {x z : Int} {l : List Int} : z ∈ insA x l ↔ z ∈ l ∨ z = x := by
  rw [(insA_perm x l).mem_iff, List.mem_append, List.mem_singleton]
theorem insA_asc {x : Int} : ∀ {l : List Int}, Asc l → x ∉ l → Asc (insA x l)
  | [], _, _ => List.pairwise_singleton _ _
  | y :: t, h, hx => by
    obtain ⟨h1, h2⟩ := List.pairwise_cons.mp h
    unfold insA
    split
    · rename_i hlt
      refine List.pairwise_cons.mpr ⟨fun z hz => ?_, h⟩
      rcases List.mem_cons.mp hz with rfl | hz
      · exact hlt
      · have := h1 z hz
        omega
    · rename_i hlt
      refine List.pairwise_cons.mpr ⟨fun z hz => ?_, insA_asc h2 fun z => hx (List.mem_cons_of_mem _ z)⟩
      rcases mem_insA.mp hz with hz | rfl
      · exact h1 z hz
      · have : z ≠ y := fun e => hx (e ▸ List.mem_cons_self)
        omega
theorem sorted_eq {l : List Int} {x : Int} (h : Asc l) (hx : x ∉ l) {ns : List Int} (hp : ns.Perm (l ++ [x])) (hs : ns.Pairwise (· ≤ ·)) : ns = insA x l := by
  refine List.Perm.eq_of_pairwise (le := fun a b => a ≤ b) (fun a b _ _ h1 h2 => Int.le_antisymm h1 h2) hs ((insA_asc h hx).imp fun h => Int.le_of_lt h) (hp.trans (insA_perm x l).symm)
def togA (l : List Int) (x : Int) : List Int := if x ∈ l then l.filter fun y => !decide (y = x) else insA x l
theorem togA_asc {l : List Int} {x : Int} (h : Asc l) : Asc (togA l x) := by
  unfold togA
  split
  · exact h.filter _
  · rename_i hx
    exact insA_asc h hx
theorem mem_togA {l : List Int} {x z : Int} (hz : z ∈ togA l x) : z ∈ l ∨ z = x := by
  unfold togA at hz
  split at hz
  · exact .inl (List.mem_filter.mp hz).1
  · exact mem_insA.mp hz
theorem togA_len {l : List Int} {x : Int} : (togA l x).length ≤ l.length + 1 := by
  unfold togA
  split
  · exact Nat.le_succ_of_le (List.length_filter_le _ _)
  · rw [(insA_perm x l).length_eq, List.length_append]
    exact Nat.le_refl _
/-- places in order, not too many and not too far -/
structure Pls (l : List Int) : Prop where
  a : Asc l
  n : l.length ≤ 10000
  b : ∀ x ∈ l, -100000 ≤ x ∧ x ≤ 100000
theorem runsC_mem {l : List Int} (h : Asc l) {s : Int × Int} (hs : s ∈ runsC l) : s.1 ∈ l ∧ s.2 ∈ l := by
  rw [← (zip_runs h).1] at hs
  obtain ⟨h1, h2⟩ := List.of_mem_zip (a := s.1) (b := s.2) hs
  exact ⟨(List.mem_filter.mp h1).1, (List.mem_filter.mp h2).1⟩
theorem runsC_len {l : List Int} (h : Asc l) : (runsC l).length ≤ l.length := by
  rw [← (zip_runs h).1, List.length_zip]
  have : (starts l).length ≤ l.length := List.length_filter_le _ _
  omega
theorem Pls.places {l : List Int} (h : Pls l) : placesR (runsC l) = l := (runsC_ok (lo := -100000) h.a fun x hx => (h.b x hx).1).2
theorem Pls.runs {l : List Int} (h : Pls l) : ∀ s ∈ runsC l, -1000000 ≤ s.1 ∧ s.1 ≤ 1000000 ∧ -1000000 ≤ s.2 ∧ s.2 ≤ 1000000 := fun s hs => by
  obtain ⟨m1, m2⟩ := runsC_mem h.a hs
  have := h.b _ m1
  have := h.b _ m2
  omega
theorem Pls.tog {l : List Int} (h : Pls l) {x : Int} (hx : -100000 ≤ x ∧ x ≤ 100000) (hl : l.length < 10000) : Pls (togA l x) :=
  ⟨togA_asc h.a, Nat.le_trans togA_len hl, fun z hz => by
    rcases mem_togA hz with hz | rfl
    · exact h.b z hz
    · exact hx⟩
def S_toggled {Ω : Type} : Spc Ω := pureS (ι := List Int × Int) (fun i => [.tup ((runsC i.1).map dS), .int i.2]) (fun i => Pls i.1) fun i => .tup ((runsC (togA i.1 i.2)).map dS)
abbrev p_toggled {Ω : Type} : DS Ω :=
  (wSeq (wSet 2 (wCall S_places_in (wCons (wVar 0) wNil)))
  (wSeq (wIfS (wTV (wOp (fIn false) (wVar 1) (wVar 2))) (wRet (wCall S_runs_of (wCons (wL (wLc [3] (.one 3) (wiSeq (wVar 2)) (wTV (wOp fNe (wVar 3) (wVar 1))) (wVar 3))) wNil))) wNext)
  (wRet (wCall S_runs_of (wCons (wL (wFL fSorted (wL (wOpL fAddL (wVar 2) (wL (wLst (wCons (wVar 1) wNil))))))) wNil)))))
theorem m_toggled {Ω : Type} : ∀ ds (w : Ω) C, S_toggled.run ds w C → p_toggled (endD C) (startD 4 ds) w := by
  rintro ds w C ⟨⟨l, x⟩, rfl, hl, q⟩
  replace hl : Pls l := hl
  replace q : C (.tup ((runsC (togA l x)).map dS)) w := q
  have hn := hl.n
  show p_toggled _ [some (.dat (.tup ((runsC l).map dS))), some (.dat (.int x)), none, none] _
  unfold p_toggled
  walk_at "ck"
  refine use_pure (runsC l) ⟨by rw [hl.places]; omega, hl.runs⟩ ?_
  rw [hl.places]
  have ht := togA_len (l := l) (x := x)
  walk_at "ck"
  refine ⟨rfl, flat_ints l, ?_⟩
  rw [inD_int]
  refine ite2 (fun hd => ?_) (fun hd => ?_)
  · have e : togA l x = l.filter fun y => !decide (y = x) := if_pos (of_decide_eq_true hd)
    rw [e] at q ht
    refine ⟨size1M (by omega), lc_typed Dt.int (fun y => !decide (y = x)) Dt.int l (fun y hy => ⟨_, rfl, fun C' h => ?_, fun _ C' h => ?_⟩) ?_⟩
    · walk_at "ck"
      exact h
    · walk_at "ck"
      exact h
    · exact use_pure (l.filter fun y => !decide (y = x)) (by show _ ≤ 100000; omega) q
  · have hx : x ∉ l := fun z => hd (decide_eq_true z)
    have e : togA l x = insA x l := if_neg hx
    rw [e] at q ht
    refine ⟨size1M (by omega), l ++ [x], by rw [List.map_append]; rfl, fun ns hp hs => ?_⟩
    rw [sorted_eq hl.a hx hp hs]
    exact use_pure (insA x l) (by show _ ≤ 100000; omega) q
end Ck
namespace Ck
open PySem PySem.Spec PyProof.Rows L2
local macro_rules | `(tactic| walk_at "ck") => `(tactic| try simp only [wNext, wBrk, wCnt, wSeq, wRet, wRetN, wSet, wOwn, wDrop, wUnp, wPar, wIfS, wApp, wExt, wSetIx, wAug, wFrz, wFor, k_var, k_vk1, k_vk2, k_par, wC, wL, wOp, wOpL, wF, wFL, wNil, wCons, wTup, wLst, wTV, wTAnd, wTOr, wTNot, wAnd, wOr, wNot, wIfx, wIsN, wNotN, wChain, wO0, wO1, wSl, wCall, wIsi, wLr1, wLr2, wNeg, wLc, wYes, wiSeq, wiR1, wiR2, wiEnum, wiZip, noOwnB, wipeD, wEmp, wListZip, wSortSet, wRevL, wRevT, wOneB, k_mulT, k_add1, k_add2, k_add3, k_add4, k_addL, k_sub, k_mul1, k_mul2, k_mulL, k_div, k_mod, k_pow, k_cmp, k_eq, k_ne, k_ea1, k_ea2, k_ea3, k_ea4, k_in1, k_in2, k_in3, k_in4, k_ix1, k_ix2, k_ix3, k_sl1, k_sl2, k_len1, k_len2, k_len3, k_int1, k_int2, k_abs, k_tuple1, k_tuple2, k_list1, k_list2, k_min2, k_max2, k_non_non, k_ty_int_non, k_ty_bool_non, k_ty_tuple_non, k_ty_str_non, k_ty_list_non, k_non_bl, k_ty_int_bl, k_ty_bool_bl, k_ty_tuple_bl, k_ty_str_bl, k_ty_list_bl, k_non_int, k_ty_int_int, k_ty_bool_int, k_ty_tuple_int, k_ty_str_int, k_ty_list_int, k_non_str, k_ty_int_str, k_ty_bool_str, k_ty_tuple_str, k_ty_str_str, k_ty_list_str, k_non_tup, k_ty_int_tup, k_ty_bool_tup, k_ty_tuple_tup, k_ty_str_tup, k_ty_list_tup, k_non_lst, k_ty_int_lst, k_ty_bool_lst, k_ty_tuple_lst, k_ty_str_lst, k_ty_list_lst, k_non_emp, k_ty_int_emp, k_ty_bool_emp, k_ty_tuple_emp, k_ty_str_emp, k_ty_list_emp, k_seq_non, k_seq_bl, k_seq_int, k_seq_str, k_seq_tup, k_seq_lst, k_seq_emp, k_sz0, k_sz1, k_sz2, k_sz3, k_sz4, k_sz5, k_sz6, k_sz7, k_sz8, k_sz9, k_sz10, k_sz11, k_sz12, k_sz13, k_sz14, k_sz15, k_sz16, k_sz17, k_sz18, k_sz19, k_sz20, k_sz21, k_sz22, k_sz23, k_at0, k_at1, k_at2, k_at3, k_iteT, k_iteF, k_bt1, k_bt2, k_sa0, k_sa1, k_endn, k_endr, List.getElem?_cons_succ, List.getElem?_cons_zero, List.set_cons_succ, List.set_cons_zero, List.length_cons, List.length_nil, List.length_map, List.all_cons, List.all_nil, Nat.reduceAdd, Nat.zero_add, Bool.and_true, Bool.and_self, Option.some.injEq, Dt.int.injEq, Dt.bl.injEq, Dt.str.injEq, Dt.tup.injEq, Dt.lst.injEq, Sv.dat.injEq, Sv.own.injEq, exists_eq_left', exists_eq_left, exists_eq_right, exists_eq', exists_eq, if_true, if_false, Bool.not_false, Bool.not_true, Bool.not_not, true_and, and_true, false_and, and_false, exists_const, reduceCtorEq])

/-! ### steps of keepers -/
/-- a loop over what is known that ends at the first bad one -/
theorem loop_hit {Ω α : Type} {tg : Tg} {body : DS Ω} {D : DD Ω} {w : Ω} (enc : α → Dt) (bad : α → Bool) (J : Sl → Prop) (R : α → Prop) : ∀ (ks : List α) {sl : Sl},
    (∀ (k : α) (sl : Sl), k ∈ ks → J sl → ∃ sl', bindTg tg (enc k) sl = some sl' ∧ ∀ N : Sl → Ω → Prop, (bad k = false → ∀ s, J s → N s w) → (bad k = true → R k) → body { D with nx := N, ct := N, bk := D.nx } sl' w) →
    J sl → (∀ k, ks.find? bad = some k → R k) → (ks.find? bad = none → ∀ s, J s → D.nx s w) → wLoop tg body D (ks.map enc) sl w
  | [], sl, _, h0, _, hC => hC rfl sl h0
  | k :: ks, sl, h, h0, hR, hC => by
    obtain ⟨sl', h1, h2⟩ := h k sl List.mem_cons_self h0
    refine ⟨sl', h1, h2 _ (fun hb s hs => ?_) fun hb => hR k ?_⟩
    · refine loop_hit enc bad J R ks (fun k sl hk => h k sl (List.mem_cons_of_mem _ hk)) hs (fun j hj => hR j ?_) (fun hj => hC ?_)
      · rw [List.find?_cons, hb]
        exact hj
      · rw [List.find?_cons, hb]
        exact hj
    · rw [List.find?_cons, hb]
def dueT (f : Int) (s : Int × Int) (t : Turn) : Bool := decide (t.o = f) && holdB t.ts s
def shapeA (l : List Int) : Int × Int := (l.length, (starts l).length)
def turnAt (k : Keeper) (l : List Int) (f x : Int) : Option Turn := k.ts.find? (dueT f (shapeA (togA l x)))
def priceAt (k : Keeper) (i : Int) : T3 := (k.ps[i.toNat]?).getD ⟨0, 0, 0⟩
def nextF (k : Keeper) (l : List Int) (f x : Int) : Int := match turnAt k l f x with
  | some t => t.n
  | none => f
def costF (k : Keeper) (l : List Int) (f x : Int) : Int := match turnAt k l f x with
  | some t => roomAt (priceAt k t.n) (shapeA (togA l x))
  | none => 0
/-- a standing: a set and a form -/
def dN (l : List Int) (f : Int) : Dt := .tup [.tup ((runsC l).map dS), .int f]
def stepD (k : Keeper) (l : List Int) (f x : Int) : Dt := .tup [dN (togA l x) (nextF k l f x), .int (costF k l f x)]
def S_step {Ω : Type} : Spc Ω := pureS (ι := Keeper × List Int × Int × Int) (fun i => [dK i.1, dN i.2.1 i.2.2.1, .int i.2.2.2]) (fun i => KeeperOk i.1 ∧ Pls i.2.1 ∧ i.2.1.length < 10000 ∧ (-100000 ≤ i.2.2.2 ∧ i.2.2.2 ≤ 100000)) fun i => stepD i.1 i.2.1 i.2.2.1 i.2.2.2
abbrev p_step {Ω : Type} : DS Ω :=
  (wSeq (wPar 3 4 (wCons (wCall S_toggled (wCons (wOp fIx (wVar 1) (wC (.int 0))) (wCons (wVar 2) wNil))) (wCons (wOp fIx (wVar 1) (wC (.int 1))) wNil)))
  (wSeq (wSet 5 (wCall S_shape_of (wCons (wVar 3) wNil)))
  (wSeq (wFor (.many [6, 7, 8]) (wiSeq (wOp fIx (wVar 0) (wC (.int 2)))) (wIfS (wTAnd (wTV (wOp fEq (wVar 6) (wVar 4))) (wTV (wCall S_do_hold (wCons (wVar 7) (wCons (wVar 5) wNil))))) (wRet (wTup (wCons (wTup (wCons (wVar 3) (wCons (wVar 8) wNil))) (wCons (wCall S_room_at (wCons (wOp fIx (wOp fIx (wVar 0) (wC (.int 1))) (wVar 8)) (wCons (wVar 5) wNil))) wNil)))) wNext))
  (wRet (wTup (wCons (wTup (wCons (wVar 3) (wCons (wVar 4) wNil))) (wCons (wC (.int 0)) wNil)))))))
theorem price_at {k : Keeper} {i : Int} (h0 : 0 ≤ i) (h1 : i < k.ps.length) : k.ps[i.toNat]? = some (priceAt k i) ∧ priceAt k i ∈ k.ps := by
  have e := List.getElem?_eq_getElem (l := k.ps) (i := i.toNat) (by omega)
  unfold priceAt
  rw [e]
  exact ⟨rfl, List.getElem_mem _⟩
theorem shapeA_bd {l : List Int} (h : l.length ≤ 10000) : BdS (shapeA l) := by
  have h2 : (starts l).length ≤ l.length := List.length_filter_le _ _
  exact ⟨⟨by show -(2 ^ 40) < (l.length : Int); omega, by show (l.length : Int) < 2 ^ 40; omega⟩, by show -(2 ^ 40) < ((starts l).length : Int); omega, by show ((starts l).length : Int) < 2 ^ 40; omega⟩
theorem m_step {Ω : Type} : ∀ ds (w : Ω) C, S_step.run ds w C → p_step (endD C) (startD 9 ds) w := by
  rintro ds w C ⟨⟨k, l, f, x⟩, rfl, ⟨ko, hl, hn, hx⟩, q⟩
  replace ko : KeeperOk k := ko
  replace hl : Pls l := hl
  replace hn : l.length < 10000 := hn
  replace hx : -100000 ≤ x ∧ x ≤ 100000 := hx
  replace q : C (stepD k l f x) w := q
  show p_step _ [some (.dat (dK k)), some (.dat (dN l f)), some (.dat (.int x)), none, none, none, none, none, none] _
  have ht := hl.tog hx hn
  have hsh := shape_runs ht.a
  have hbd := shapeA_bd ht.n
  unfold p_step
  unfold dK dN
  walk_at "ck"
  refine use_pure (l, x) hl ?_
  walk_at "ck"
  refine use_pure (runsC (togA l x)) (Nat.le_trans (runsC_len ht.a) (by have := ht.n; omega)) ?_
  have e1 : ((sizeR (runsC (togA l x)), ((runsC (togA l x)).length : Int)) : Int × Int) = shapeA (togA l x) := by
    unfold shapeA
    rw [hsh.2, hsh.1]
  rw [e1]
  walk_at "ck"
  unfold stepD nextF costF at q
  refine loop_hit dT (dueT f (shapeA (togA l x))) (fun sl => ∃ x6 x7 x8, sl = [some (.dat (.tup [.int k.w, .tup (k.ps.map d3), .tup (k.ts.map dT)])), some (.dat (.tup [.tup ((runsC l).map dS), .int f])), some (.dat (.int x)), some (.dat (.tup ((runsC (togA l x)).map dS))), some (.dat (.int f)), some (.dat (dS (shapeA (togA l x)))), x6, x7, x8])
    (fun t => C (.tup [dN (togA l x) t.n, .int (roomAt (priceAt k t.n) (shapeA (togA l x)))]) w) k.ts (fun t sl htm hj => ?_) ⟨_, _, _, rfl⟩ (fun t h => ?_) (fun h s hs => ?_)
  · obtain ⟨x6, x7, x8, rfl⟩ := hj
    obtain ⟨t1, t2, t3, t4, t5⟩ := ko.ts t htm
    refine ⟨_, rfl, fun N h3 h4 => ?_⟩
    walk_at "ck"
    unfold dueT at h3 h4
    refine ite2 (fun hd => ?_) (fun hd => ?_)
    · have hd : decide (t.o = f) = true := hd
      rw [hd, Bool.true_and] at h3 h4
      refine use_pure (t.ts, shapeA (togA l x)) ⟨fun u hu => (t2 u hu).bd, hbd⟩ ⟨_, rfl, ite2 (fun hd => ?_) (fun hd => ?_)⟩
      · obtain ⟨p1, p2⟩ := price_at t4.1 t4.2
        have e2 : L2.atI (k.ps.map d3) t.n = some (d3 (priceAt k t.n)) := atI_int t4.1 (by rw [List.getElem?_map, p1]; rfl)
        refine ⟨_, e2, use_pure (priceAt k t.n, shapeA (togA l x)) ⟨(ko.pr _ p2).bd, hbd⟩ ?_⟩
        exact h4 hd
      · exact h3 (by simpa using hd) _ ⟨_, _, _, rfl⟩
    · have hd : decide (t.o = f) = false := by simpa using hd
      rw [hd, Bool.false_and] at h3
      exact h3 rfl _ ⟨_, _, _, rfl⟩
  · have h : turnAt k l f x = some t := h
    rw [h] at q
    exact q
  · obtain ⟨x6, x7, x8, rfl⟩ := hs
    have h : turnAt k l f x = none := h
    rw [h] at q
    walk_at "ck"
    exact q
end Ck
namespace Ck
open PySem PySem.Spec PyProof.Rows L2
local macro_rules | `(tactic| walk_at "ck") => `(tactic| try simp only [wNext, wBrk, wCnt, wSeq, wRet, wRetN, wSet, wOwn, wDrop, wUnp, wPar, wIfS, wApp, wExt, wSetIx, wAug, wFrz, wFor, k_var, k_vk1, k_vk2, k_par, wC, wL, wOp, wOpL, wF, wFL, wNil, wCons, wTup, wLst, wTV, wTAnd, wTOr, wTNot, wAnd, wOr, wNot, wIfx, wIsN, wNotN, wChain, wO0, wO1, wSl, wCall, wIsi, wLr1, wLr2, wNeg, wLc, wYes, wiSeq, wiR1, wiR2, wiEnum, wiZip, noOwnB, wipeD, wEmp, wListZip, wSortSet, wRevL, wRevT, wOneB, k_mulT, k_add1, k_add2, k_add3, k_add4, k_addL, k_sub, k_mul1, k_mul2, k_mulL, k_div, k_mod, k_pow, k_cmp, k_eq, k_ne, k_ea1, k_ea2, k_ea3, k_ea4, k_in1, k_in2, k_in3, k_in4, k_ix1, k_ix2, k_ix3, k_sl1, k_sl2, k_len1, k_len2, k_len3, k_int1, k_int2, k_abs, k_tuple1, k_tuple2, k_list1, k_list2, k_min2, k_max2, k_non_non, k_ty_int_non, k_ty_bool_non, k_ty_tuple_non, k_ty_str_non, k_ty_list_non, k_non_bl, k_ty_int_bl, k_ty_bool_bl, k_ty_tuple_bl, k_ty_str_bl, k_ty_list_bl, k_non_int, k_ty_int_int, k_ty_bool_int, k_ty_tuple_int, k_ty_str_int, k_ty_list_int, k_non_str, k_ty_int_str, k_ty_bool_str, k_ty_tuple_str, k_ty_str_str, k_ty_list_str, k_non_tup, k_ty_int_tup, k_ty_bool_tup, k_ty_tuple_tup, k_ty_str_tup, k_ty_list_tup, k_non_lst, k_ty_int_lst, k_ty_bool_lst, k_ty_tuple_lst, k_ty_str_lst, k_ty_list_lst, k_non_emp, k_ty_int_emp, k_ty_bool_emp, k_ty_tuple_emp, k_ty_str_emp, k_ty_list_emp, k_seq_non, k_seq_bl, k_seq_int, k_seq_str, k_seq_tup, k_seq_lst, k_seq_emp, k_sz0, k_sz1, k_sz2, k_sz3, k_sz4, k_sz5, k_sz6, k_sz7, k_sz8, k_sz9, k_sz10, k_sz11, k_sz12, k_sz13, k_sz14, k_sz15, k_sz16, k_sz17, k_sz18, k_sz19, k_sz20, k_sz21, k_sz22, k_sz23, k_at0, k_at1, k_at2, k_at3, k_iteT, k_iteF, k_bt1, k_bt2, k_sa0, k_sa1, k_endn, k_endr, List.getElem?_cons_succ, List.getElem?_cons_zero, List.set_cons_succ, List.set_cons_zero, List.length_cons, List.length_nil, List.length_map, List.all_cons, List.all_nil, Nat.reduceAdd, Nat.zero_add, Bool.and_true, Bool.and_self, Option.some.injEq, Dt.int.injEq, Dt.bl.injEq, Dt.str.injEq, Dt.tup.injEq, Dt.lst.injEq, Sv.dat.injEq, Sv.own.injEq, exists_eq_left', exists_eq_left, exists_eq_right, exists_eq', exists_eq, if_true, if_false, Bool.not_false, Bool.not_true, Bool.not_not, true_and, and_true, false_and, and_false, exists_const, reduceCtorEq])

end Ck
namespace Ck
open PySem PySem.Spec PyProof.Rows L2
end Ck
namespace Ck
open PySem PySem.Spec PyProof.Rows L2
local macro_rules | `(tactic| walk_at "ck") => `(tactic| try simp only [wNext, wBrk, wCnt, wSeq, wRet, wRetN, wSet, wOwn, wDrop, wUnp, wPar, wIfS, wApp, wExt, wSetIx, wAug, wFrz, wFor, k_var, k_vk1, k_vk2, k_par, wC, wL, wOp, wOpL, wF, wFL, wNil, wCons, wTup, wLst, wTV, wTAnd, wTOr, wTNot, wAnd, wOr, wNot, wIfx, wIsN, wNotN, wChain, wO0, wO1, wSl, wCall, wIsi, wLr1, wLr2, wNeg, wLc, wYes, wiSeq, wiR1, wiR2, wiEnum, wiZip, noOwnB, wipeD, wEmp, wListZip, wSortSet, wRevL, wRevT, wOneB, k_mulT, k_add1, k_add2, k_add3, k_add4, k_addL, k_sub, k_mul1, k_mul2, k_mulL, k_div, k_mod, k_pow, k_cmp, k_eq, k_ne, k_ea1, k_ea2, k_ea3, k_ea4, k_in1, k_in2, k_in3, k_in4, k_ix1, k_ix2, k_ix3, k_sl1, k_sl2, k_len1, k_len2, k_len3, k_int1, k_int2, k_abs, k_tuple1, k_tuple2, k_list1, k_list2, k_min2, k_max2, k_non_non, k_ty_int_non, k_ty_bool_non, k_ty_tuple_non, k_ty_str_non, k_ty_list_non, k_non_bl, k_ty_int_bl, k_ty_bool_bl, k_ty_tuple_bl, k_ty_str_bl, k_ty_list_bl, k_non_int, k_ty_int_int, k_ty_bool_int, k_ty_tuple_int, k_ty_str_int, k_ty_list_int, k_non_str, k_ty_int_str, k_ty_bool_str, k_ty_tuple_str, k_ty_str_str, k_ty_list_str, k_non_tup, k_ty_int_tup, k_ty_bool_tup, k_ty_tuple_tup, k_ty_str_tup, k_ty_list_tup, k_non_lst, k_ty_int_lst, k_ty_bool_lst, k_ty_tuple_lst, k_ty_str_lst, k_ty_list_lst, k_non_emp, k_ty_int_emp, k_ty_bool_emp, k_ty_tuple_emp, k_ty_str_emp, k_ty_list_emp, k_seq_non, k_seq_bl, k_seq_int, k_seq_str, k_seq_tup, k_seq_lst, k_seq_emp, k_sz0, k_sz1, k_sz2, k_sz3, k_sz4, k_sz5, k_sz6, k_sz7, k_sz8, k_sz9, k_sz10, k_sz11, k_sz12, k_sz13, k_sz14, k_sz15, k_sz16, k_sz17, k_sz18, k_sz19, k_sz20, k_sz21, k_sz22, k_sz23, k_at0, k_at1, k_at2, k_at3, k_iteT, k_iteF, k_bt1, k_bt2, k_sa0, k_sa1, k_endn, k_endr, List.getElem?_cons_succ, List.getElem?_cons_zero, List.set_cons_succ, List.set_cons_zero, List.length_cons, List.length_nil, List.length_map, List.all_cons, List.all_nil, Nat.reduceAdd, Nat.zero_add, Bool.and_true, Bool.and_self, Option.some.injEq, Dt.int.injEq, Dt.bl.injEq, Dt.str.injEq, Dt.tup.injEq, Dt.lst.injEq, Sv.dat.injEq, Sv.own.injEq, exists_eq_left', exists_eq_left, exists_eq_right, exists_eq', exists_eq, if_true, if_false, Bool.not_false, Bool.not_true, Bool.not_not, true_and, and_true, false_and, and_false, exists_const, reduceCtorEq])

theorem mul_bd {b s M S : Int} (h1 : -M ≤ b) (h2 : b ≤ M) (h3 : 0 ≤ s) (h4 : s ≤ S) (h5 : 0 ≤ M) : -(M * S) ≤ b * s ∧ b * s ≤ M * S := by
  have a1 := Int.mul_le_mul_of_nonneg_right h2 h3
  have a2 := Int.mul_le_mul_of_nonneg_right h1 h3
  have a3 := Int.mul_le_mul_of_nonneg_left h4 h5
  rw [Int.neg_mul] at a2
  omega
theorem cost_bd {w : Int} {p : T3} {l : List Int} (h : PriceOk w 1000000 p) (hl : l.length ≤ 10000) : -30000000000 ≤ roomAt p (shapeA l) ∧ roomAt p (shapeA l) ≤ 30000000000 := by
  obtain ⟨⟨a1, a2⟩, ⟨b1, b2⟩, ⟨c1, c2⟩, _⟩ := h
  have h2 : (starts l).length ≤ l.length := List.length_filter_le _ _
  have m1 := mul_bd (s := (l.length : Int)) (S := 10000) b1 b2 (by omega) (by omega) (by decide)
  have m2 := mul_bd (s := ((starts l).length : Int)) (S := 10000) c1 c2 (by omega) (by omega) (by decide)
  unfold roomAt shapeA
  dsimp only
  omega
theorem asc_len {hi : Int} : ∀ {l : List Int} {lo : Int}, Asc l → (∀ x ∈ l, lo ≤ x ∧ x < hi) → lo ≤ hi → lo + l.length ≤ hi
  | [], lo, _, _, h => by simpa using h
  | x :: l, lo, h, hb, _ => by
    have hx := hb x List.mem_cons_self
    obtain ⟨h1, h2⟩ := List.pairwise_cons.mp h
    have := asc_len (lo := x + 1) h2 (fun y hy => ⟨by have := h1 y hy; omega, (hb y (List.mem_cons_of_mem _ hy)).2⟩) (by omega)
    rw [List.length_cons]
    omega
/-- a set of a width -/
structure SetOf (w : Int) (l : List Int) : Prop where
  a : Asc l
  b : ∀ x ∈ l, 0 ≤ x ∧ x < w
theorem SetOf.len {w : Int} {l : List Int} (h : SetOf w l) (hw : 0 ≤ w) : (l.length : Int) ≤ w := by
  have := asc_len h.a h.b hw
  omega
theorem SetOf.pls {w : Int} {l : List Int} (h : SetOf w l) (hw : 0 ≤ w) (h2 : w ≤ 9999) : Pls l ∧ l.length < 10000 := by
  have := h.len hw
  exact ⟨⟨h.a, by omega, fun x hx => by have := h.b x hx; omega⟩, by omega⟩
theorem SetOf.tog {w : Int} {l : List Int} {x : Int} (h : SetOf w l) (h1 : 0 ≤ x) (h2 : x < w) : SetOf w (togA l x) :=
  ⟨togA_asc h.a, fun z hz => by
    rcases mem_togA hz with hz | rfl
    · exact h.b z hz
    · exact ⟨h1, h2⟩⟩
theorem shw_runs {w : Int} {l : List Int} (h : SetOf w l) (hw : 0 ≤ w) (h2 : w ≤ 100) : Shw 300 2 (.tup ((runsC l).map dS)) := by
  have hl := runsC_len h.a
  have hn := h.len hw
  refine (shw_tup (shwL_map (f := dS) (k := 2) (n := 1) fun s hs => ?_)).mono (by omega) (by omega)
  obtain ⟨m1, m2⟩ := runsC_mem h.a hs
  have b1 := h.b _ m1
  have b2 := h.b _ m2
  exact shw_dS ⟨⟨by omega, by omega⟩, by omega, by omega⟩
theorem next_in {k : Keeper} (ko : KeeperOk k) {l : List Int} {f x : Int} (h0 : 0 ≤ f) (h1 : f < k.ps.length) : 0 ≤ nextF k l f x ∧ nextF k l f x < k.ps.length := by
  unfold nextF
  cases h : turnAt k l f x with
  | none => exact ⟨h0, h1⟩
  | some t => exact (ko.ts t (List.mem_of_find?_eq_some h)).2.2.2.1
theorem cost_in {k : Keeper} (ko : KeeperOk k) {l : List Int} {f x : Int} (hl : (togA l x).length ≤ 10000) : -30000000000 ≤ costF k l f x ∧ costF k l f x ≤ 30000000000 := by
  unfold costF
  cases h : turnAt k l f x with
  | none => exact ⟨by show (-30000000000 : Int) ≤ 0; decide, by show (0 : Int) ≤ 30000000000; decide⟩
  | some t =>
    have t4 := (ko.ts t (List.mem_of_find?_eq_some h)).2.2.2.1
    exact cost_bd (ko.pr _ (price_at t4.1 t4.2).2) hl
end Ck
namespace Ck
open PySem PySem.Spec PyProof.Rows L2
local macro_rules | `(tactic| walk_at "ck") => `(tactic| try simp only [wNext, wBrk, wCnt, wSeq, wRet, wRetN, wSet, wOwn, wDrop, wUnp, wPar, wIfS, wApp, wExt, wSetIx, wAug, wFrz, wFor, k_var, k_vk1, k_vk2, k_par, wC, wL, wOp, wOpL, wF, wFL, wNil, wCons, wTup, wLst, wTV, wTAnd, wTOr, wTNot, wAnd, wOr, wNot, wIfx, wIsN, wNotN, wChain, wO0, wO1, wSl, wCall, wIsi, wLr1, wLr2, wNeg, wLc, wYes, wiSeq, wiR1, wiR2, wiEnum, wiZip, noOwnB, wipeD, wEmp, wListZip, wSortSet, wRevL, wRevT, wOneB, k_mulT, k_add1, k_add2, k_add3, k_add4, k_addL, k_sub, k_mul1, k_mul2, k_mulL, k_div, k_mod, k_pow, k_cmp, k_eq, k_ne, k_ea1, k_ea2, k_ea3, k_ea4, k_in1, k_in2, k_in3, k_in4, k_ix1, k_ix2, k_ix3, k_sl1, k_sl2, k_len1, k_len2, k_len3, k_int1, k_int2, k_abs, k_tuple1, k_tuple2, k_list1, k_list2, k_min2, k_max2, k_non_non, k_ty_int_non, k_ty_bool_non, k_ty_tuple_non, k_ty_str_non, k_ty_list_non, k_non_bl, k_ty_int_bl, k_ty_bool_bl, k_ty_tuple_bl, k_ty_str_bl, k_ty_list_bl, k_non_int, k_ty_int_int, k_ty_bool_int, k_ty_tuple_int, k_ty_str_int, k_ty_list_int, k_non_str, k_ty_int_str, k_ty_bool_str, k_ty_tuple_str, k_ty_str_str, k_ty_list_str, k_non_tup, k_ty_int_tup, k_ty_bool_tup, k_ty_tuple_tup, k_ty_str_tup, k_ty_list_tup, k_non_lst, k_ty_int_lst, k_ty_bool_lst, k_ty_tuple_lst, k_ty_str_lst, k_ty_list_lst, k_non_emp, k_ty_int_emp, k_ty_bool_emp, k_ty_tuple_emp, k_ty_str_emp, k_ty_list_emp, k_seq_non, k_seq_bl, k_seq_int, k_seq_str, k_seq_tup, k_seq_lst, k_seq_emp, k_sz0, k_sz1, k_sz2, k_sz3, k_sz4, k_sz5, k_sz6, k_sz7, k_sz8, k_sz9, k_sz10, k_sz11, k_sz12, k_sz13, k_sz14, k_sz15, k_sz16, k_sz17, k_sz18, k_sz19, k_sz20, k_sz21, k_sz22, k_sz23, k_at0, k_at1, k_at2, k_at3, k_iteT, k_iteF, k_bt1, k_bt2, k_sa0, k_sa1, k_endn, k_endr, List.getElem?_cons_succ, List.getElem?_cons_zero, List.set_cons_succ, List.set_cons_zero, List.length_cons, List.length_nil, List.length_map, List.all_cons, List.all_nil, Nat.reduceAdd, Nat.zero_add, Bool.and_true, Bool.and_self, Option.some.injEq, Dt.int.injEq, Dt.bl.injEq, Dt.str.injEq, Dt.tup.injEq, Dt.lst.injEq, Sv.dat.injEq, Sv.own.injEq, exists_eq_left', exists_eq_left, exists_eq_right, exists_eq', exists_eq, if_true, if_false, Bool.not_false, Bool.not_true, Bool.not_not, true_and, and_true, false_and, and_false, exists_const, reduceCtorEq])

/-! ### stretches of shapes of one size: the tests change only where a stretch begins -/
end Ck
namespace Ck
open PySem PySem.Spec PyProof.Rows L2
local macro_rules | `(tactic| walk_at "ck") => `(tactic| try simp only [wNext, wBrk, wCnt, wSeq, wRet, wRetN, wSet, wOwn, wDrop, wUnp, wPar, wIfS, wApp, wExt, wSetIx, wAug, wFrz, wFor, k_var, k_vk1, k_vk2, k_par, wC, wL, wOp, wOpL, wF, wFL, wNil, wCons, wTup, wLst, wTV, wTAnd, wTOr, wTNot, wAnd, wOr, wNot, wIfx, wIsN, wNotN, wChain, wO0, wO1, wSl, wCall, wIsi, wLr1, wLr2, wNeg, wLc, wYes, wiSeq, wiR1, wiR2, wiEnum, wiZip, noOwnB, wipeD, wEmp, wListZip, wSortSet, wRevL, wRevT, wOneB, k_mulT, k_add1, k_add2, k_add3, k_add4, k_addL, k_sub, k_mul1, k_mul2, k_mulL, k_div, k_mod, k_pow, k_cmp, k_eq, k_ne, k_ea1, k_ea2, k_ea3, k_ea4, k_in1, k_in2, k_in3, k_in4, k_ix1, k_ix2, k_ix3, k_sl1, k_sl2, k_len1, k_len2, k_len3, k_int1, k_int2, k_abs, k_tuple1, k_tuple2, k_list1, k_list2, k_min2, k_max2, k_non_non, k_ty_int_non, k_ty_bool_non, k_ty_tuple_non, k_ty_str_non, k_ty_list_non, k_non_bl, k_ty_int_bl, k_ty_bool_bl, k_ty_tuple_bl, k_ty_str_bl, k_ty_list_bl, k_non_int, k_ty_int_int, k_ty_bool_int, k_ty_tuple_int, k_ty_str_int, k_ty_list_int, k_non_str, k_ty_int_str, k_ty_bool_str, k_ty_tuple_str, k_ty_str_str, k_ty_list_str, k_non_tup, k_ty_int_tup, k_ty_bool_tup, k_ty_tuple_tup, k_ty_str_tup, k_ty_list_tup, k_non_lst, k_ty_int_lst, k_ty_bool_lst, k_ty_tuple_lst, k_ty_str_lst, k_ty_list_lst, k_non_emp, k_ty_int_emp, k_ty_bool_emp, k_ty_tuple_emp, k_ty_str_emp, k_ty_list_emp, k_seq_non, k_seq_bl, k_seq_int, k_seq_str, k_seq_tup, k_seq_lst, k_seq_emp, k_sz0, k_sz1, k_sz2, k_sz3, k_sz4, k_sz5, k_sz6, k_sz7, k_sz8, k_sz9, k_sz10, k_sz11, k_sz12, k_sz13, k_sz14, k_sz15, k_sz16, k_sz17, k_sz18, k_sz19, k_sz20, k_sz21, k_sz22, k_sz23, k_at0, k_at1, k_at2, k_at3, k_iteT, k_iteF, k_bt1, k_bt2, k_sa0, k_sa1, k_endn, k_endr, List.getElem?_cons_succ, List.getElem?_cons_zero, List.set_cons_succ, List.set_cons_zero, List.length_cons, List.length_nil, List.length_map, List.all_cons, List.all_nil, Nat.reduceAdd, Nat.zero_add, Bool.and_true, Bool.and_self, Option.some.injEq, Dt.int.injEq, Dt.bl.injEq, Dt.str.injEq, Dt.tup.injEq, Dt.lst.injEq, Sv.dat.injEq, Sv.own.injEq, exists_eq_left', exists_eq_left, exists_eq_right, exists_eq', exists_eq, if_true, if_false, Bool.not_false, Bool.not_true, Bool.not_not, true_and, and_true, false_and, and_false, exists_const, reduceCtorEq])

/-! ### the walk through the stretches -/
end Ck
namespace Ck
open PySem PySem.Spec PyProof.Rows L2
local macro_rules | `(tactic| walk_at "ck") => `(tactic| try simp only [wNext, wBrk, wCnt, wSeq, wRet, wRetN, wSet, wOwn, wDrop, wUnp, wPar, wIfS, wApp, wExt, wSetIx, wAug, wFrz, wFor, k_var, k_vk1, k_vk2, k_par, wC, wL, wOp, wOpL, wF, wFL, wNil, wCons, wTup, wLst, wTV, wTAnd, wTOr, wTNot, wAnd, wOr, wNot, wIfx, wIsN, wNotN, wChain, wO0, wO1, wSl, wCall, wIsi, wLr1, wLr2, wNeg, wLc, wYes, wiSeq, wiR1, wiR2, wiEnum, wiZip, noOwnB, wipeD, wEmp, wListZip, wSortSet, wRevL, wRevT, wOneB, k_mulT, k_add1, k_add2, k_add3, k_add4, k_addL, k_sub, k_mul1, k_mul2, k_mulL, k_div, k_mod, k_pow, k_cmp, k_eq, k_ne, k_ea1, k_ea2, k_ea3, k_ea4, k_in1, k_in2, k_in3, k_in4, k_ix1, k_ix2, k_ix3, k_sl1, k_sl2, k_len1, k_len2, k_len3, k_int1, k_int2, k_abs, k_tuple1, k_tuple2, k_list1, k_list2, k_min2, k_max2, k_non_non, k_ty_int_non, k_ty_bool_non, k_ty_tuple_non, k_ty_str_non, k_ty_list_non, k_non_bl, k_ty_int_bl, k_ty_bool_bl, k_ty_tuple_bl, k_ty_str_bl, k_ty_list_bl, k_non_int, k_ty_int_int, k_ty_bool_int, k_ty_tuple_int, k_ty_str_int, k_ty_list_int, k_non_str, k_ty_int_str, k_ty_bool_str, k_ty_tuple_str, k_ty_str_str, k_ty_list_str, k_non_tup, k_ty_int_tup, k_ty_bool_tup, k_ty_tuple_tup, k_ty_str_tup, k_ty_list_tup, k_non_lst, k_ty_int_lst, k_ty_bool_lst, k_ty_tuple_lst, k_ty_str_lst, k_ty_list_lst, k_non_emp, k_ty_int_emp, k_ty_bool_emp, k_ty_tuple_emp, k_ty_str_emp, k_ty_list_emp, k_seq_non, k_seq_bl, k_seq_int, k_seq_str, k_seq_tup, k_seq_lst, k_seq_emp, k_sz0, k_sz1, k_sz2, k_sz3, k_sz4, k_sz5, k_sz6, k_sz7, k_sz8, k_sz9, k_sz10, k_sz11, k_sz12, k_sz13, k_sz14, k_sz15, k_sz16, k_sz17, k_sz18, k_sz19, k_sz20, k_sz21, k_sz22, k_sz23, k_at0, k_at1, k_at2, k_at3, k_iteT, k_iteF, k_bt1, k_bt2, k_sa0, k_sa1, k_endn, k_endr, List.getElem?_cons_succ, List.getElem?_cons_zero, List.set_cons_succ, List.set_cons_zero, List.length_cons, List.length_nil, List.length_map, List.all_cons, List.all_nil, Nat.reduceAdd, Nat.zero_add, Bool.and_true, Bool.and_self, Option.some.injEq, Dt.int.injEq, Dt.bl.injEq, Dt.str.injEq, Dt.tup.injEq, Dt.lst.injEq, Sv.dat.injEq, Sv.own.injEq, exists_eq_left', exists_eq_left, exists_eq_right, exists_eq', exists_eq, if_true, if_false, Bool.not_false, Bool.not_true, Bool.not_not, true_and, and_true, false_and, and_false, exists_const, reduceCtorEq])

/-! ### forms that are kept, by the first shapes -/
end Ck
namespace Ck
open PySem PySem.Spec PyProof.Rows L2
local macro_rules | `(tactic| walk_at "ck") => `(tactic| try simp only [wNext, wBrk, wCnt, wSeq, wRet, wRetN, wSet, wOwn, wDrop, wUnp, wPar, wIfS, wApp, wExt, wSetIx, wAug, wFrz, wFor, k_var, k_vk1, k_vk2, k_par, wC, wL, wOp, wOpL, wF, wFL, wNil, wCons, wTup, wLst, wTV, wTAnd, wTOr, wTNot, wAnd, wOr, wNot, wIfx, wIsN, wNotN, wChain, wO0, wO1, wSl, wCall, wIsi, wLr1, wLr2, wNeg, wLc, wYes, wiSeq, wiR1, wiR2, wiEnum, wiZip, noOwnB, wipeD, wEmp, wListZip, wSortSet, wRevL, wRevT, wOneB, k_mulT, k_add1, k_add2, k_add3, k_add4, k_addL, k_sub, k_mul1, k_mul2, k_mulL, k_div, k_mod, k_pow, k_cmp, k_eq, k_ne, k_ea1, k_ea2, k_ea3, k_ea4, k_in1, k_in2, k_in3, k_in4, k_ix1, k_ix2, k_ix3, k_sl1, k_sl2, k_len1, k_len2, k_len3, k_int1, k_int2, k_abs, k_tuple1, k_tuple2, k_list1, k_list2, k_min2, k_max2, k_non_non, k_ty_int_non, k_ty_bool_non, k_ty_tuple_non, k_ty_str_non, k_ty_list_non, k_non_bl, k_ty_int_bl, k_ty_bool_bl, k_ty_tuple_bl, k_ty_str_bl, k_ty_list_bl, k_non_int, k_ty_int_int, k_ty_bool_int, k_ty_tuple_int, k_ty_str_int, k_ty_list_int, k_non_str, k_ty_int_str, k_ty_bool_str, k_ty_tuple_str, k_ty_str_str, k_ty_list_str, k_non_tup, k_ty_int_tup, k_ty_bool_tup, k_ty_tuple_tup, k_ty_str_tup, k_ty_list_tup, k_non_lst, k_ty_int_lst, k_ty_bool_lst, k_ty_tuple_lst, k_ty_str_lst, k_ty_list_lst, k_non_emp, k_ty_int_emp, k_ty_bool_emp, k_ty_tuple_emp, k_ty_str_emp, k_ty_list_emp, k_seq_non, k_seq_bl, k_seq_int, k_seq_str, k_seq_tup, k_seq_lst, k_seq_emp, k_sz0, k_sz1, k_sz2, k_sz3, k_sz4, k_sz5, k_sz6, k_sz7, k_sz8, k_sz9, k_sz10, k_sz11, k_sz12, k_sz13, k_sz14, k_sz15, k_sz16, k_sz17, k_sz18, k_sz19, k_sz20, k_sz21, k_sz22, k_sz23, k_at0, k_at1, k_at2, k_at3, k_iteT, k_iteF, k_bt1, k_bt2, k_sa0, k_sa1, k_endn, k_endr, List.getElem?_cons_succ, List.getElem?_cons_zero, List.set_cons_succ, List.set_cons_zero, List.length_cons, List.length_nil, List.length_map, List.all_cons, List.all_nil, Nat.reduceAdd, Nat.zero_add, Bool.and_true, Bool.and_self, Option.some.injEq, Dt.int.injEq, Dt.bl.injEq, Dt.str.injEq, Dt.tup.injEq, Dt.lst.injEq, Sv.dat.injEq, Sv.own.injEq, exists_eq_left', exists_eq_left, exists_eq_right, exists_eq', exists_eq, if_true, if_false, Bool.not_false, Bool.not_true, Bool.not_not, true_and, and_true, false_and, and_false, exists_const, reduceCtorEq])

/-! ### the ends of stretches and the first greatest -/
end Ck
namespace Ck
open PySem PySem.Spec PyProof.Rows L2
local macro_rules | `(tactic| walk_at "ck") => `(tactic| try simp only [wNext, wBrk, wCnt, wSeq, wRet, wRetN, wSet, wOwn, wDrop, wUnp, wPar, wIfS, wApp, wExt, wSetIx, wAug, wFrz, wFor, k_var, k_vk1, k_vk2, k_par, wC, wL, wOp, wOpL, wF, wFL, wNil, wCons, wTup, wLst, wTV, wTAnd, wTOr, wTNot, wAnd, wOr, wNot, wIfx, wIsN, wNotN, wChain, wO0, wO1, wSl, wCall, wIsi, wLr1, wLr2, wNeg, wLc, wYes, wiSeq, wiR1, wiR2, wiEnum, wiZip, noOwnB, wipeD, wEmp, wListZip, wSortSet, wRevL, wRevT, wOneB, k_mulT, k_add1, k_add2, k_add3, k_add4, k_addL, k_sub, k_mul1, k_mul2, k_mulL, k_div, k_mod, k_pow, k_cmp, k_eq, k_ne, k_ea1, k_ea2, k_ea3, k_ea4, k_in1, k_in2, k_in3, k_in4, k_ix1, k_ix2, k_ix3, k_sl1, k_sl2, k_len1, k_len2, k_len3, k_int1, k_int2, k_abs, k_tuple1, k_tuple2, k_list1, k_list2, k_min2, k_max2, k_non_non, k_ty_int_non, k_ty_bool_non, k_ty_tuple_non, k_ty_str_non, k_ty_list_non, k_non_bl, k_ty_int_bl, k_ty_bool_bl, k_ty_tuple_bl, k_ty_str_bl, k_ty_list_bl, k_non_int, k_ty_int_int, k_ty_bool_int, k_ty_tuple_int, k_ty_str_int, k_ty_list_int, k_non_str, k_ty_int_str, k_ty_bool_str, k_ty_tuple_str, k_ty_str_str, k_ty_list_str, k_non_tup, k_ty_int_tup, k_ty_bool_tup, k_ty_tuple_tup, k_ty_str_tup, k_ty_list_tup, k_non_lst, k_ty_int_lst, k_ty_bool_lst, k_ty_tuple_lst, k_ty_str_lst, k_ty_list_lst, k_non_emp, k_ty_int_emp, k_ty_bool_emp, k_ty_tuple_emp, k_ty_str_emp, k_ty_list_emp, k_seq_non, k_seq_bl, k_seq_int, k_seq_str, k_seq_tup, k_seq_lst, k_seq_emp, k_sz0, k_sz1, k_sz2, k_sz3, k_sz4, k_sz5, k_sz6, k_sz7, k_sz8, k_sz9, k_sz10, k_sz11, k_sz12, k_sz13, k_sz14, k_sz15, k_sz16, k_sz17, k_sz18, k_sz19, k_sz20, k_sz21, k_sz22, k_sz23, k_at0, k_at1, k_at2, k_at3, k_iteT, k_iteF, k_bt1, k_bt2, k_sa0, k_sa1, k_endn, k_endr, List.getElem?_cons_succ, List.getElem?_cons_zero, List.set_cons_succ, List.set_cons_zero, List.length_cons, List.length_nil, List.length_map, List.all_cons, List.all_nil, Nat.reduceAdd, Nat.zero_add, Bool.and_true, Bool.and_self, Option.some.injEq, Dt.int.injEq, Dt.bl.injEq, Dt.str.injEq, Dt.tup.injEq, Dt.lst.injEq, Sv.dat.injEq, Sv.own.injEq, exists_eq_left', exists_eq_left, exists_eq_right, exists_eq', exists_eq, if_true, if_false, Bool.not_false, Bool.not_true, Bool.not_not, true_and, and_true, false_and, and_false, exists_const, reduceCtorEq])

/-! ### the greatest waste stands at an end of a stretch -/
end Ck
namespace Ck
open PySem PySem.Spec PyProof.Rows L2
local macro_rules | `(tactic| walk_at "ck") => `(tactic| try simp only [wNext, wBrk, wCnt, wSeq, wRet, wRetN, wSet, wOwn, wDrop, wUnp, wPar, wIfS, wApp, wExt, wSetIx, wAug, wFrz, wFor, k_var, k_vk1, k_vk2, k_par, wC, wL, wOp, wOpL, wF, wFL, wNil, wCons, wTup, wLst, wTV, wTAnd, wTOr, wTNot, wAnd, wOr, wNot, wIfx, wIsN, wNotN, wChain, wO0, wO1, wSl, wCall, wIsi, wLr1, wLr2, wNeg, wLc, wYes, wiSeq, wiR1, wiR2, wiEnum, wiZip, noOwnB, wipeD, wEmp, wListZip, wSortSet, wRevL, wRevT, wOneB, wParOD, wParDO, wParOO, k_mulT, k_add1, k_add2, k_add3, k_add4, k_addL, k_sub, k_mul1, k_mul2, k_mulL, k_div, k_mod, k_pow, k_cmp, k_eq, k_ne, k_ea1, k_ea2, k_ea3, k_ea4, k_in1, k_in2, k_in3, k_in4, k_ix1, k_ix2, k_ix3, k_sl1, k_sl2, k_len1, k_len2, k_len3, k_int1, k_int2, k_abs, k_tuple1, k_tuple2, k_list1, k_list2, k_min2, k_max2, k_non_non, k_ty_int_non, k_ty_bool_non, k_ty_tuple_non, k_ty_str_non, k_ty_list_non, k_non_bl, k_ty_int_bl, k_ty_bool_bl, k_ty_tuple_bl, k_ty_str_bl, k_ty_list_bl, k_non_int, k_ty_int_int, k_ty_bool_int, k_ty_tuple_int, k_ty_str_int, k_ty_list_int, k_non_str, k_ty_int_str, k_ty_bool_str, k_ty_tuple_str, k_ty_str_str, k_ty_list_str, k_non_tup, k_ty_int_tup, k_ty_bool_tup, k_ty_tuple_tup, k_ty_str_tup, k_ty_list_tup, k_non_lst, k_ty_int_lst, k_ty_bool_lst, k_ty_tuple_lst, k_ty_str_lst, k_ty_list_lst, k_non_emp, k_ty_int_emp, k_ty_bool_emp, k_ty_tuple_emp, k_ty_str_emp, k_ty_list_emp, k_seq_non, k_seq_bl, k_seq_int, k_seq_str, k_seq_tup, k_seq_lst, k_seq_emp, k_sz0, k_sz1, k_sz2, k_sz3, k_sz4, k_sz5, k_sz6, k_sz7, k_sz8, k_sz9, k_sz10, k_sz11, k_sz12, k_sz13, k_sz14, k_sz15, k_sz16, k_sz17, k_sz18, k_sz19, k_sz20, k_sz21, k_sz22, k_sz23, k_at0, k_at1, k_at2, k_at3, k_iteT, k_iteF, k_bt1, k_bt2, k_sa0, k_sa1, k_endn, k_endr, List.getElem?_cons_succ, List.getElem?_cons_zero, List.set_cons_succ, List.set_cons_zero, List.length_cons, List.length_nil, List.length_map, List.all_cons, List.all_nil, Nat.reduceAdd, Nat.zero_add, Bool.and_true, Bool.and_self, Option.some.injEq, Dt.int.injEq, Dt.bl.injEq, Dt.str.injEq, Dt.tup.injEq, Dt.lst.injEq, Sv.dat.injEq, Sv.own.injEq, exists_eq_left', exists_eq_left, exists_eq_right, exists_eq', exists_eq, if_true, if_false, Bool.not_false, Bool.not_true, Bool.not_not, true_and, and_true, false_and, and_false, exists_const, reduceCtorEq])

/-! ### excess, lost -/
def E0 : Int × Int × (Int × Int) := (0, 1, (0, 0))
end Ck
namespace Ck
open PySem PySem.Spec PyProof.Rows L2
local macro_rules | `(tactic| walk_at "ck") => `(tactic| try simp only [wNext, wBrk, wCnt, wSeq, wRet, wRetN, wSet, wOwn, wDrop, wUnp, wPar, wIfS, wApp, wExt, wSetIx, wAug, wFrz, wFor, k_var, k_vk1, k_vk2, k_par, wC, wL, wOp, wOpL, wF, wFL, wNil, wCons, wTup, wLst, wTV, wTAnd, wTOr, wTNot, wAnd, wOr, wNot, wIfx, wIsN, wNotN, wChain, wO0, wO1, wSl, wCall, wIsi, wLr1, wLr2, wNeg, wLc, wYes, wiSeq, wiR1, wiR2, wiEnum, wiZip, noOwnB, wipeD, wEmp, wListZip, wSortSet, wRevL, wRevT, wOneB, wParOD, wParDO, wParOO, k_mulT, k_add1, k_add2, k_add3, k_add4, k_addL, k_sub, k_mul1, k_mul2, k_mulL, k_div, k_mod, k_pow, k_cmp, k_eq, k_ne, k_ea1, k_ea2, k_ea3, k_ea4, k_in1, k_in2, k_in3, k_in4, k_ix1, k_ix2, k_ix3, k_sl1, k_sl2, k_len1, k_len2, k_len3, k_int1, k_int2, k_abs, k_tuple1, k_tuple2, k_list1, k_list2, k_min2, k_max2, k_non_non, k_ty_int_non, k_ty_bool_non, k_ty_tuple_non, k_ty_str_non, k_ty_list_non, k_non_bl, k_ty_int_bl, k_ty_bool_bl, k_ty_tuple_bl, k_ty_str_bl, k_ty_list_bl, k_non_int, k_ty_int_int, k_ty_bool_int, k_ty_tuple_int, k_ty_str_int, k_ty_list_int, k_non_str, k_ty_int_str, k_ty_bool_str, k_ty_tuple_str, k_ty_str_str, k_ty_list_str, k_non_tup, k_ty_int_tup, k_ty_bool_tup, k_ty_tuple_tup, k_ty_str_tup, k_ty_list_tup, k_non_lst, k_ty_int_lst, k_ty_bool_lst, k_ty_tuple_lst, k_ty_str_lst, k_ty_list_lst, k_non_emp, k_ty_int_emp, k_ty_bool_emp, k_ty_tuple_emp, k_ty_str_emp, k_ty_list_emp, k_seq_non, k_seq_bl, k_seq_int, k_seq_str, k_seq_tup, k_seq_lst, k_seq_emp, k_sz0, k_sz1, k_sz2, k_sz3, k_sz4, k_sz5, k_sz6, k_sz7, k_sz8, k_sz9, k_sz10, k_sz11, k_sz12, k_sz13, k_sz14, k_sz15, k_sz16, k_sz17, k_sz18, k_sz19, k_sz20, k_sz21, k_sz22, k_sz23, k_at0, k_at1, k_at2, k_at3, k_iteT, k_iteF, k_bt1, k_bt2, k_sa0, k_sa1, k_endn, k_endr, List.getElem?_cons_succ, List.getElem?_cons_zero, List.set_cons_succ, List.set_cons_zero, List.length_cons, List.length_nil, List.length_map, List.all_cons, List.all_nil, Nat.reduceAdd, Nat.zero_add, Bool.and_true, Bool.and_self, Option.some.injEq, Dt.int.injEq, Dt.bl.injEq, Dt.str.injEq, Dt.tup.injEq, Dt.lst.injEq, Sv.dat.injEq, Sv.own.injEq, exists_eq_left', exists_eq_left, exists_eq_right, exists_eq', exists_eq, if_true, if_false, Bool.not_false, Bool.not_true, Bool.not_not, true_and, and_true, false_and, and_false, exists_const, reduceCtorEq])

/-! ### the walk: excess, lost -/
def lowF (top bot : Int) : Int × Int := (top / (Nat.gcd top.natAbs bot.toNat : Nat), bot / (Nat.gcd top.natAbs bot.toNat : Nat))
def S_lowest {Ω : Type} : Spc Ω := pureS (ι := Int × Int) (fun i => [.int i.1, .int i.2]) (fun i => (-(2 ^ 50) < i.1 ∧ i.1 < 2 ^ 50) ∧ (1 ≤ i.2 ∧ i.2 < 2 ^ 50)) fun i => dS (lowF i.1 i.2)
abbrev p_lowest {Ω : Type} : DS Ω :=
  (wSeq (wPar 2 3 (wCons (wF fAbs (wVar 0)) (wCons (wVar 1) wNil)))
  (wSeq (wWhile (wTV (wOp fNe (wVar 3) (wC (.int 0)))) (wPar 2 3 (wCons (wVar 3) (wCons (wOp fMod (wVar 2) (wVar 3)) wNil))))
  (wRet (wTup (wCons (wOp fDiv (wVar 0) (wVar 2)) (wCons (wOp fDiv (wVar 1) (wVar 2)) wNil))))))
theorem m_lowest {Ω : Type} : ∀ ds (w : Ω) C, S_lowest.run ds w C → p_lowest (endD C) (startD 4 ds) w := by
  rintro ds w C ⟨⟨t, b⟩, rfl, ⟨⟨t0, t1⟩, b0, b1⟩, q⟩
  replace q : C (dS (lowF t b)) w := q
  dsimp only at t0 t1 b0 b1
  show p_lowest _ [some (.dat (.int t)), some (.dat (.int b)), none, none] _
  unfold p_lowest
  walk_at "ck"
  have ea : (if t < 0 then -t else t) = ((t.natAbs : Nat) : Int) := by
    split <;> omega
  rw [ea]
  refine ⟨fun n sl w' => w' = w ∧ ∃ x y : Nat, n = y ∧ sl = [some (.dat (.int t)), some (.dat (.int b)), some (.dat (.int x)), some (.dat (.int y))] ∧ Nat.gcd x y = Nat.gcd t.natAbs b.toNat, ⟨b.toNat, rfl, t.natAbs, b.toNat, rfl, by rw [show ((b.toNat : Nat) : Int) = b by omega], rfl⟩, ?_⟩
  rintro n sl w' ⟨rfl, x, y, rfl, rfl, hg⟩
  walk_at "ck"
  refine ite2 (fun hd => ?_) (fun hd => ?_)
  · have hd : n ≠ 0 := by
      intro z
      subst z
      simp at hd
    refine ⟨by omega, ?_⟩
    refine ⟨x % n, Nat.mod_lt _ (by omega), n, rfl, ?_⟩
    rw [← hg, Nat.gcd_comm n, ← Nat.gcd_rec, Nat.gcd_comm]
  · have hd : n = 0 := by simpa using hd
    subst hd
    rw [Nat.gcd_zero_right] at hg
    unfold lowF at q
    rw [← hg] at q
    have hgb : x ≤ b.toNat := by rw [hg]; exact Nat.gcd_le_right _ (by omega)
    have hg0 : 0 < x := by rw [hg]; exact Nat.gcd_pos_of_pos_right _ (by omega)
    refine ⟨divw60 (by omega) (by omega), divw60 (by omega) (by omega), q⟩
end Ck
namespace Ck
open PySem PySem.Spec PyProof.Rows L2
local macro_rules | `(tactic| walk_at "ck") => `(tactic| try simp only [wNext, wBrk, wCnt, wSeq, wRet, wRetN, wSet, wOwn, wDrop, wUnp, wPar, wIfS, wApp, wExt, wSetIx, wAug, wFrz, wFor, k_var, k_vk1, k_vk2, k_par, wC, wL, wOp, wOpL, wF, wFL, wNil, wCons, wTup, wLst, wTV, wTAnd, wTOr, wTNot, wAnd, wOr, wNot, wIfx, wIsN, wNotN, wChain, wO0, wO1, wSl, wCall, wIsi, wLr1, wLr2, wNeg, wLc, wYes, wiSeq, wiR1, wiR2, wiEnum, wiZip, noOwnB, wipeD, wEmp, wListZip, wSortSet, wRevL, wRevT, wOneB, k_mulT, k_add1, k_add2, k_add3, k_add4, k_addL, k_sub, k_mul1, k_mul2, k_mulL, k_div, k_mod, k_pow, k_cmp, k_eq, k_ne, k_ea1, k_ea2, k_ea3, k_ea4, k_in1, k_in2, k_in3, k_in4, k_ix1, k_ix2, k_ix3, k_sl1, k_sl2, k_len1, k_len2, k_len3, k_int1, k_int2, k_abs, k_tuple1, k_tuple2, k_list1, k_list2, k_min2, k_max2, k_non_non, k_ty_int_non, k_ty_bool_non, k_ty_tuple_non, k_ty_str_non, k_ty_list_non, k_non_bl, k_ty_int_bl, k_ty_bool_bl, k_ty_tuple_bl, k_ty_str_bl, k_ty_list_bl, k_non_int, k_ty_int_int, k_ty_bool_int, k_ty_tuple_int, k_ty_str_int, k_ty_list_int, k_non_str, k_ty_int_str, k_ty_bool_str, k_ty_tuple_str, k_ty_str_str, k_ty_list_str, k_non_tup, k_ty_int_tup, k_ty_bool_tup, k_ty_tuple_tup, k_ty_str_tup, k_ty_list_tup, k_non_lst, k_ty_int_lst, k_ty_bool_lst, k_ty_tuple_lst, k_ty_str_lst, k_ty_list_lst, k_non_emp, k_ty_int_emp, k_ty_bool_emp, k_ty_tuple_emp, k_ty_str_emp, k_ty_list_emp, k_seq_non, k_seq_bl, k_seq_int, k_seq_str, k_seq_tup, k_seq_lst, k_seq_emp, k_sz0, k_sz1, k_sz2, k_sz3, k_sz4, k_sz5, k_sz6, k_sz7, k_sz8, k_sz9, k_sz10, k_sz11, k_sz12, k_sz13, k_sz14, k_sz15, k_sz16, k_sz17, k_sz18, k_sz19, k_sz20, k_sz21, k_sz22, k_sz23, k_at0, k_at1, k_at2, k_at3, k_iteT, k_iteF, k_bt1, k_bt2, k_sa0, k_sa1, k_endn, k_endr, List.getElem?_cons_succ, List.getElem?_cons_zero, List.set_cons_succ, List.set_cons_zero, List.length_cons, List.length_nil, List.length_map, List.all_cons, List.all_nil, Nat.reduceAdd, Nat.zero_add, Bool.and_true, Bool.and_self, Option.some.injEq, Dt.int.injEq, Dt.bl.injEq, Dt.str.injEq, Dt.tup.injEq, Dt.lst.injEq, Sv.dat.injEq, Sv.own.injEq, exists_eq_left', exists_eq_left, exists_eq_right, exists_eq', exists_eq, if_true, if_false, Bool.not_false, Bool.not_true, Bool.not_not, true_and, and_true, false_and, and_false, exists_const, reduceCtorEq])

/-! ### how many sets have a shape -/
def ch : Nat → Nat → Nat
  | _, 0 => 1
  | 0, _ + 1 => 0
  | n + 1, k + 1 => ch n k + ch n (k + 1)
theorem ch_zero (n : Nat) : ch n 0 = 1 := by cases n <;> rfl
theorem ch_succ (n k : Nat) : ch (n + 1) (k + 1) = ch n k + ch n (k + 1) := rfl
theorem ch_none (k : Nat) : ch 0 (k + 1) = 0 := rfl
theorem ch_big : ∀ {n k : Nat}, n < k → ch n k = 0
  | _, 0, h => absurd h (Nat.not_lt_zero _)
  | 0, k + 1, _ => rfl
  | n + 1, k + 1, h => by rw [ch_succ, ch_big (by omega), ch_big (by omega)]
/-- the number of sets of a shape -/
def T : Nat → Nat → Nat → Nat
  | _, m, 0 => if m = 0 then 1 else 0
  | _, 0, _ + 1 => 0
  | w, m + 1, r + 1 => ch m r * ch (w - m) (r + 1)
/-- those that hold the last place -/
def Bf : Nat → Nat → Nat → Nat
  | w, m + 1, r + 1 => if m + 1 ≤ w then ch m r * ch (w - (m + 1)) r else 0
  | _, _, _ => 0
theorem T_step (w m r : Nat) : T (w + 1) m r = T w m r + Bf (w + 1) m r := by
  cases r with
  | zero => cases m <;> rfl
  | succ r =>
    cases m with
    | zero => rfl
    | succ m =>
      show ch m r * ch (w + 1 - m) (r + 1) = ch m r * ch (w - m) (r + 1) + if m + 1 ≤ w + 1 then ch m r * ch (w + 1 - (m + 1)) r else 0
      by_cases h : m + 1 ≤ w + 1
      · rw [if_pos h, show w + 1 - m = (w - m) + 1 by omega, show w + 1 - (m + 1) = w - m by omega, ch_succ, Nat.mul_add, Nat.add_comm]
      · rw [if_neg h, show w + 1 - m = 0 by omega, show w - m = 0 by omega]
        exact (Nat.add_zero _).symm
/-- one place more, held -/
theorem B_step (w m r : Nat) : Bf (w + 1) (m + 1) r = Bf w m r + match r with | 0 => 0 | r + 1 => T w m r - Bf w m r := by
  cases r with
  | zero => cases m <;> rfl
  | succ r =>
    show (if m + 1 ≤ w + 1 then ch m r * ch (w + 1 - (m + 1)) r else 0) = Bf w m (r + 1) + (T w m r - Bf w m r)
    cases m with
    | zero =>
      rw [if_pos (by omega)]
      cases r with
      | zero => show ch 0 0 * ch (w + 1 - 1) 0 = 0 + (1 - 0); rw [ch_zero, ch_zero]
      | succ r => show ch 0 (r + 1) * _ = 0 + (0 - 0); rw [ch_none, Nat.zero_mul]
    | succ k =>
      cases r with
      | zero =>
        show (if k + 1 + 1 ≤ w + 1 then ch (k + 1) 0 * ch (w + 1 - (k + 1 + 1)) 0 else 0) = (if k + 1 ≤ w then ch k 0 * ch (w - (k + 1)) 0 else 0) + (0 - 0)
        simp only [ch_zero]
        by_cases h : k + 1 ≤ w
        · rw [if_pos h, if_pos (by omega)]
        · rw [if_neg h, if_neg (by omega)]
      | succ j =>
        show (if k + 1 + 1 ≤ w + 1 then ch (k + 1) (j + 1) * ch (w + 1 - (k + 1 + 1)) (j + 1) else 0) = (if k + 1 ≤ w then ch k (j + 1) * ch (w - (k + 1)) (j + 1) else 0) + (ch k j * ch (w - k) (j + 1) - if k + 1 ≤ w then ch k j * ch (w - (k + 1)) j else 0)
        by_cases h : k + 1 ≤ w
        · rw [if_pos h, if_pos h, if_pos (by omega), show w + 1 - (k + 1 + 1) = w - (k + 1) by omega, show w - k = (w - (k + 1)) + 1 by omega, ch_succ (w - (k + 1)) j, ch_succ k j, Nat.mul_add, Nat.add_mul, Nat.add_sub_cancel_left, Nat.add_comm]
        · rw [if_neg h, if_neg h, if_neg (by omega), show w - k = 0 by omega, ch_none]
          rfl
theorem B_le (w m r : Nat) : Bf w m r ≤ T w m r := by
  cases w with
  | zero =>
    cases m with
    | zero => exact Nat.zero_le _
    | succ m => cases r with
      | zero => exact Nat.zero_le _
      | succ r =>
        have e : Bf 0 (m + 1) (r + 1) = 0 := by
          show (if m + 1 ≤ 0 then ch m r * ch (0 - (m + 1)) r else 0) = 0
          rw [if_neg (by omega)]
        rw [e]
        exact Nat.zero_le _
  | succ w => rw [T_step]; exact Nat.le_add_left _ _
/-! ### all sets of a width -/
def setsTo : Nat → List (List Int)
  | 0 => [[]]
  | n + 1 => setsTo n ++ (setsTo n).map fun s => s ++ [(n : Int)]
theorem setsTo_ok : ∀ (n : Nat), ∀ s ∈ setsTo n, SetOf n s
  | 0, s, hs => by
    rw [List.mem_singleton.mp hs]
    exact ⟨List.Pairwise.nil, by simp⟩
  | n + 1, s, hs => by
    rcases List.mem_append.mp hs with z | z
    · have h := setsTo_ok n s z
      exact ⟨h.a, fun x hx => by have := h.b x hx; omega⟩
    · obtain ⟨t, ht, rfl⟩ := List.mem_map.mp z
      have h := setsTo_ok n t ht
      refine ⟨List.pairwise_append.mpr ⟨h.a, List.pairwise_singleton _ _, fun x hx y hy => ?_⟩, fun x hx => ?_⟩
      · rw [List.mem_singleton.mp hy]
        exact (h.b x hx).2
      · rcases List.mem_append.mp hx with z | z
        · have := h.b x z
          omega
        · rw [List.mem_singleton.mp z]
          omega
theorem starts_app {l : List Int} {x : Int} (h : ∀ y ∈ l, y < x) : starts (l ++ [x]) = starts l ++ if x - 1 ∈ l then [] else [x] := by
  unfold starts
  rw [List.filter_append]
  congr 1
  · refine List.filter_congr fun y hy => ?_
    have := h y hy
    rw [← decide_not, ← decide_not]
    refine decide_eq_decide.mpr ?_
    rw [List.mem_append, List.mem_singleton]
    constructor
    · intro k z
      exact k (.inl z)
    · rintro k (z | z)
      · exact k z
      · omega
  · have e : (x - 1 ∈ l ++ [x]) ↔ x - 1 ∈ l := by
      rw [List.mem_append, List.mem_singleton]
      constructor
      · rintro (z | z)
        · exact z
        · omega
      · exact .inl
    by_cases k : x - 1 ∈ l
    · rw [if_pos k, List.filter_cons, decide_eq_true (e.mpr k)]
      rfl
    · rw [if_neg k, List.filter_cons, decide_eq_false fun z => k (e.mp z)]
      rfl
/-- sizes and runs as counts -/
def shN (s : List Int) : Nat × Nat := (s.length, (starts s).length)
def cnt (w m r : Nat) : Nat := (setsTo w).countP fun s => decide (shN s = (m, r))
def cntB (w m r : Nat) : Nat := (setsTo w).countP fun s => decide (shN s = (m, r)) && decide ((w : Int) - 1 ∈ s)
theorem shN_app {n : Nat} {s : List Int} (h : SetOf n s) : shN (s ++ [(n : Int)]) = (s.length + 1, (starts s).length + if (n : Int) - 1 ∈ s then 0 else 1) := by
  unfold shN
  rw [starts_app fun y hy => (h.b y hy).2, List.length_append, List.length_append]
  split <;> rfl
theorem cnt_split (w m r : Nat) : cntB w m r + (setsTo w).countP (fun s => decide (shN s = (m, r)) && !decide ((w : Int) - 1 ∈ s)) = cnt w m r := by
  unfold cntB cnt
  generalize setsTo w = l
  induction l with
  | nil => rfl
  | cons s l ih =>
    simp only [List.countP_cons]
    rw [← ih]
    by_cases h1 : shN s = (m, r) <;> by_cases h2 : (w : Int) - 1 ∈ s <;> simp [h1, h2] <;> omega
theorem cnt_closed : ∀ (w m r : Nat), cnt w m r = T w m r ∧ cntB w m r = Bf w m r
  | 0, m, r => by
    constructor
    · unfold cnt setsTo
      cases m with
      | zero => cases r <;> rfl
      | succ m =>
        cases r with
        | zero => simp [shN, T]
        | succ r =>
          have e : T 0 (m + 1) (r + 1) = 0 := by
            show ch m r * ch (0 - m) (r + 1) = 0
            rw [show 0 - m = 0 by omega, ch_none, Nat.mul_zero]
          rw [e]
          simp [shN]
    · unfold cntB setsTo
      have e : Bf 0 m r = 0 := by
        have := B_le 0 m r
        cases m with
        | zero => cases r <;> rfl
        | succ m => cases r with
          | zero => rfl
          | succ r =>
            show (if m + 1 ≤ 0 then ch m r * ch (0 - (m + 1)) r else 0) = 0
            rw [if_neg (by omega)]
      rw [e]
      simp
  | w + 1, m, r => by
    have ok := setsTo_ok w
    have hB : cntB (w + 1) m r = Bf (w + 1) m r := by
      have e1 : ((w + 1 : Nat) : Int) - 1 = (w : Int) := by omega
      have f1 : (setsTo w).countP (fun s => decide (shN s = (m, r)) && decide ((w : Int) ∈ s)) = 0 := by
        rw [List.countP_eq_zero]
        intro s hs
        have h := ok s hs
        have : (w : Int) ∉ s := fun z => by have := (h.b _ z).2; omega
        simp [this]
      have f2 : ((setsTo w).map fun s => s ++ [(w : Int)]).countP (fun s => decide (shN s = (m, r)) && decide ((w : Int) ∈ s)) = (setsTo w).countP fun s => decide (s.length + 1 = m ∧ ((starts s).length + if (w : Int) - 1 ∈ s then 0 else 1) = r) := by
        rw [List.countP_map]
        refine List.countP_congr fun s hs => ?_
        have h := ok s hs
        show (decide (shN (s ++ [(w : Int)]) = (m, r)) && decide ((w : Int) ∈ s ++ [(w : Int)])) = true ↔ _
        rw [shN_app h]
        simp
      unfold cntB
      rw [e1]
      show ((setsTo w) ++ (setsTo w).map fun s => s ++ [(w : Int)]).countP _ = _
      rw [List.countP_append, f1, f2, Nat.zero_add]
      cases m with
      | zero =>
        have : Bf (w + 1) 0 r = 0 := by cases r <;> rfl
        rw [this, List.countP_eq_zero]
        intro s _
        simp
      | succ m =>
        rw [B_step, ← (cnt_closed w m r).2]
        have f3 : (setsTo w).countP (fun s => decide (s.length + 1 = m + 1 ∧ ((starts s).length + if (w : Int) - 1 ∈ s then 0 else 1) = r)) = cntB w m r + (setsTo w).countP fun s => decide (s.length = m ∧ (starts s).length + 1 = r) && !decide ((w : Int) - 1 ∈ s) := by
          unfold cntB
          generalize setsTo w = l
          induction l with
          | nil => rfl
          | cons s l ih =>
            simp only [List.countP_cons]
            rw [ih]
            have e : (shN s = (m, r)) ↔ (s.length = m ∧ (starts s).length = r) := by unfold shN; rw [Prod.mk.injEq]
            by_cases h2 : (w : Int) - 1 ∈ s <;> simp [h2, e] <;> omega
        rw [f3]
        congr 1
        cases r with
        | zero =>
          rw [List.countP_eq_zero]
          intro s _
          simp
        | succ r =>
          show _ = T w m r - Bf w m r
          have c := cnt_split w m r
          rw [(cnt_closed w m r).1, (cnt_closed w m r).2] at c
          have f4 : (setsTo w).countP (fun s => decide (s.length = m ∧ (starts s).length + 1 = r + 1) && !decide ((w : Int) - 1 ∈ s)) = (setsTo w).countP fun s => decide (shN s = (m, r)) && !decide ((w : Int) - 1 ∈ s) := by
            refine List.countP_congr fun s _ => ?_
            unfold shN
            simp
          rw [f4]
          omega
    refine ⟨?_, hB⟩
    have hA : (setsTo (w + 1)).countP (fun s => decide (shN s = (m, r)) && !decide (((w + 1 : Nat) : Int) - 1 ∈ s)) = cnt w m r := by
      have e1 : ((w + 1 : Nat) : Int) - 1 = (w : Int) := by omega
      rw [e1]
      show ((setsTo w) ++ (setsTo w).map fun s => s ++ [(w : Int)]).countP _ = _
      rw [List.countP_append]
      have f1 : ((setsTo w).map fun s => s ++ [(w : Int)]).countP (fun s => decide (shN s = (m, r)) && !decide ((w : Int) ∈ s)) = 0 := by
        rw [List.countP_eq_zero]
        intro s hs
        obtain ⟨t, _, rfl⟩ := List.mem_map.mp hs
        simp
      rw [f1, Nat.add_zero]
      unfold cnt
      refine List.countP_congr fun s hs => ?_
      have h := ok s hs
      have : (w : Int) ∉ s := fun z => by have := (h.b _ z).2; omega
      simp [this]
    rw [← cnt_split, hB, hA, (cnt_closed w m r).1, T_step]
    exact Nat.add_comm _ _
/-! ### all shapes of one size -/
/-! ### the walk: choices, many -/
end Ck
namespace Ck
open PySem PySem.Spec PyProof.Rows L2
local macro_rules | `(tactic| walk_at "ck") => `(tactic| try simp only [wNext, wBrk, wCnt, wSeq, wRet, wRetN, wSet, wOwn, wDrop, wUnp, wPar, wIfS, wApp, wExt, wSetIx, wAug, wFrz, wFor, k_var, k_vk1, k_vk2, k_par, wC, wL, wOp, wOpL, wF, wFL, wNil, wCons, wTup, wLst, wTV, wTAnd, wTOr, wTNot, wAnd, wOr, wNot, wIfx, wIsN, wNotN, wChain, wO0, wO1, wSl, wCall, wIsi, wLr1, wLr2, wNeg, wLc, wYes, wiSeq, wiR1, wiR2, wiEnum, wiZip, noOwnB, wipeD, wEmp, wListZip, wSortSet, wRevL, wRevT, wOneB, wParOD, wParDO, wParOO, wIndex, wNever, wUnp2, k_s20, k_s21, Option.bind_some, Option.map_some, wDNew, wDPut, wDGet, wDGetD, wDIn, wFrzD, wiKeys, Sv.dic.injEq, keysD, keyD, k_mulT, k_add1, k_add2, k_add3, k_add4, k_addL, k_sub, k_mul1, k_mul2, k_mulL, k_div, k_mod, k_pow, k_cmp, k_eq, k_ne, k_ea1, k_ea2, k_ea3, k_ea4, k_in1, k_in2, k_in3, k_in4, k_ix1, k_ix2, k_ix3, k_sl1, k_sl2, k_len1, k_len2, k_len3, k_int1, k_int2, k_abs, k_tuple1, k_tuple2, k_list1, k_list2, k_min2, k_max2, k_non_non, k_ty_int_non, k_ty_bool_non, k_ty_tuple_non, k_ty_str_non, k_ty_list_non, k_non_bl, k_ty_int_bl, k_ty_bool_bl, k_ty_tuple_bl, k_ty_str_bl, k_ty_list_bl, k_non_int, k_ty_int_int, k_ty_bool_int, k_ty_tuple_int, k_ty_str_int, k_ty_list_int, k_non_str, k_ty_int_str, k_ty_bool_str, k_ty_tuple_str, k_ty_str_str, k_ty_list_str, k_non_tup, k_ty_int_tup, k_ty_bool_tup, k_ty_tuple_tup, k_ty_str_tup, k_ty_list_tup, k_non_lst, k_ty_int_lst, k_ty_bool_lst, k_ty_tuple_lst, k_ty_str_lst, k_ty_list_lst, k_non_emp, k_ty_int_emp, k_ty_bool_emp, k_ty_tuple_emp, k_ty_str_emp, k_ty_list_emp, k_seq_non, k_seq_bl, k_seq_int, k_seq_str, k_seq_tup, k_seq_lst, k_seq_emp, k_sz0, k_sz1, k_sz2, k_sz3, k_sz4, k_sz5, k_sz6, k_sz7, k_sz8, k_sz9, k_sz10, k_sz11, k_sz12, k_sz13, k_sz14, k_sz15, k_sz16, k_sz17, k_sz18, k_sz19, k_sz20, k_sz21, k_sz22, k_sz23, k_at0, k_at1, k_at2, k_at3, k_iteT, k_iteF, k_bt1, k_bt2, k_sa0, k_sa1, k_endn, k_endr, List.getElem?_cons_succ, List.getElem?_cons_zero, List.set_cons_succ, List.set_cons_zero, List.length_cons, List.length_nil, List.length_map, List.all_cons, List.all_nil, Nat.reduceAdd, Nat.zero_add, Bool.and_true, Bool.and_self, Option.some.injEq, Dt.int.injEq, Dt.bl.injEq, Dt.str.injEq, Dt.tup.injEq, Dt.lst.injEq, Sv.dat.injEq, Sv.own.injEq, exists_eq_left', exists_eq_left, exists_eq_right, exists_eq', exists_eq, if_true, if_false, Bool.not_false, Bool.not_true, Bool.not_not, true_and, and_true, false_and, and_false, exists_const, reduceCtorEq])

/-! ### dicts over data -/
/-! ### all sets of a width -/
theorem setsTo_len : ∀ n : Nat, (setsTo n).length = 2 ^ n
  | 0 => rfl
  | n + 1 => by
    show (setsTo n ++ (setsTo n).map _).length = _
    rw [List.length_append, List.length_map, setsTo_len n, Nat.pow_succ]
    omega
/-! ### rows of the triangle -/
end Ck
namespace Ck
open PySem PySem.Spec PyProof.Rows L2
/-! ### the deck's world, dicts with nested tuple keys beside -/
abbrev NkT := Dw × Dm
abbrev nkG : NkT → Dm := fun w => w.2
abbrev nkP : NkT → Dm → NkT := fun w m => (w.1, m)
theorem upG_nk {P : Program} {wd : World} {K : PySem.W.Frag} : UpG (NkW P wd K) := fun _ _ _ _ e h a fz kvs q => let ⟨us, h1, h2, h3⟩ := h a fz kvs q; ⟨us, h1, fun z => e _ _ (h2 z), h3⟩
theorem nkIo {Ω0 : Type} {W0 : Wd Ω0} {P : Program} {wd : World} {K : PySem.W.Frag} : CompIn (W0.sep (NkW P wd K)) (fun w => w.2) (fun w m => (w.1, m)) (NkOk P wd K) := (CompIn.self upG_nk).right
theorem HR.addNk {Ω : Type} {P : Program} {wd : World} {K : PySem.W.Frag} {W : Wd Ω} {B F G H : Hp} {w : Ω} (r : HR W B F G H w) : HR (W.sep (NkW P wd K)) B F G H (w, fun _ => none) :=
  ⟨r.b, r.f, r.g, r.d, ⟨G, fun _ => none, r.w, (fun a fz kvs h => nomatch h), Same.refl _, (fun a o e => nomatch e), fun a o _ => .inl rfl⟩, r.k, trivial⟩
end Ck
namespace Ck
open PySem PySem.Spec PyProof.Rows L2
local macro_rules | `(tactic| walk_at "ck") => `(tactic| try simp only [wNNew, wNGet, wNIn, wNGetD, wNPut, wNDictL, wNDisp1, wiKeysN, wPopTo, strtD, Dt.opq.injEq, L2.V.ref.injEq, wNext, wBrk, wCnt, wSeq, wRet, wRetN, wSet, wOwn, wDrop, wUnp, wPar, wIfS, wApp, wExt, wSetIx, wAug, wFrz, wFor, wShp, wMx, wMN, wMD, wMO, setMx, k_var, k_vk1, k_vk2, k_par, wC, wL, wOp, wOpL, wF, wFL, wNil, wCons, wTup, wLst, wTV, wTAnd, wTOr, wTNot, wAnd, wOr, wNot, wIfx, wIsN, wNotN, wChain, wO0, wO1, wSl, wCall, wIsi, wLr1, wLr2, wNeg, wLc, wYes, wiSeq, wiR1, wiR2, wiEnum, wiZip, noOwnB, wipeD, wEmp, wListZip, wSortSet, wRevL, wRevT, wOneB, wParOD, wParDO, wParOO, wIndex, wNever, wUnp2, k_s20, k_s21, Option.bind_some, Option.map_some, wDNew, wDPut, wDGet, wDGetD, wDIn, wFrzD, wiKeys, Sv.dic.injEq, keysD, keyD, k_mulT, k_add1, k_add2, k_add3, k_add4, k_addL, k_sub, k_mul1, k_mul2, k_mulL, k_div, k_mod, k_pow, k_cmp, k_eq, k_ne, k_ea1, k_ea2, k_ea3, k_ea4, k_in1, k_in2, k_in3, k_in4, k_ix1, k_ix2, k_ix3, k_sl1, k_sl2, k_len1, k_len2, k_len3, k_int1, k_int2, k_abs, k_tuple1, k_tuple2, k_list1, k_list2, k_min2, k_max2, k_non_non, k_ty_int_non, k_ty_bool_non, k_ty_tuple_non, k_ty_str_non, k_ty_list_non, k_non_bl, k_ty_int_bl, k_ty_bool_bl, k_ty_tuple_bl, k_ty_str_bl, k_ty_list_bl, k_non_int, k_ty_int_int, k_ty_bool_int, k_ty_tuple_int, k_ty_str_int, k_ty_list_int, k_non_str, k_ty_int_str, k_ty_bool_str, k_ty_tuple_str, k_ty_str_str, k_ty_list_str, k_non_tup, k_ty_int_tup, k_ty_bool_tup, k_ty_tuple_tup, k_ty_str_tup, k_ty_list_tup, k_non_lst, k_ty_int_lst, k_ty_bool_lst, k_ty_tuple_lst, k_ty_str_lst, k_ty_list_lst, k_non_emp, k_ty_int_emp, k_ty_bool_emp, k_ty_tuple_emp, k_ty_str_emp, k_ty_list_emp, k_seq_non, k_seq_bl, k_seq_int, k_seq_str, k_seq_tup, k_seq_lst, k_seq_emp, k_sz0, k_sz1, k_sz2, k_sz3, k_sz4, k_sz5, k_sz6, k_sz7, k_sz8, k_sz9, k_sz10, k_sz11, k_sz12, k_sz13, k_sz14, k_sz15, k_sz16, k_sz17, k_sz18, k_sz19, k_sz20, k_sz21, k_sz22, k_sz23, k_at0, k_at1, k_at2, k_at3, k_iteT, k_iteF, k_bt1, k_bt2, k_sa0, k_sa1, k_endn, k_endr, List.getElem?_cons_succ, List.getElem?_cons_zero, List.set_cons_succ, List.set_cons_zero, List.length_cons, List.length_nil, List.length_map, List.all_cons, List.all_nil, Nat.reduceAdd, Nat.zero_add, Bool.and_true, Bool.and_self, Option.some.injEq, Dt.int.injEq, Dt.bl.injEq, Dt.str.injEq, Dt.tup.injEq, Dt.lst.injEq, Sv.dat.injEq, Sv.own.injEq, exists_eq_left', exists_eq_left, exists_eq_right, exists_eq', exists_eq, if_true, if_false, Bool.not_false, Bool.not_true, Bool.not_not, true_and, and_true, false_and, and_false, exists_const, reduceCtorEq])
/-! ### standings as keys -/
abbrev Std := List Int × Int
def dSt (s : Std) : Dt := dN s.1 s.2
def nkS (s : Int × Int) : NestedKey := .tup [.num s.1, .num s.2]
def kSt (s : Std) : NestedKey := .tup [.tup ((runsC s.1).map nkS), .num s.2]
theorem nkL_dS : ∀ l : List (Int × Int), nkL (l.map dS) = some (l.map nkS)
  | [] => rfl
  | s :: l => by
    rw [List.map_cons, List.map_cons]
    simp only [nkL, nkL_dS l, dS, nkD]
    rfl
theorem depth_nkS : ∀ l : List (Int × Int), NestedKey.depthAll (l.map nkS) ≤ 1
  | [] => by decide
  | s :: l => by
    rw [List.map_cons]
    have := depth_nkS l
    show max (nkS s).depth _ ≤ 1
    have h : (nkS s).depth = 1 := rfl
    omega
theorem keyN_dSt (s : Std) : keyN (dSt s) = some (kSt s) := by
  have h1 : nkL [.tup ((runsC s.1).map dS), .int s.2] = some [.tup ((runsC s.1).map nkS), .num s.2] := by
    simp only [nkL, nkD, nkL_dS]
    rfl
  unfold dSt dN keyN
  simp only [h1, Option.bind_some]
  rw [if_pos]
  · rfl
  · have h2 := depth_nkS (runsC s.1)
    show max (NestedKey.depthAll ((runsC s.1).map nkS) + 1) (max 0 0) + 1 ≤ 8
    omega
theorem nkS_inj {s t : Int × Int} (h : nkS s = nkS t) : s = t := by
  injection h with h
  injection h with h1 h2
  injection h2 with h2 _
  injection h1 with h1
  injection h2 with h2
  exact Prod.ext h1 h2
theorem map_inj' {α β : Type} {f : α → β} (hf : ∀ a b, f a = f b → a = b) : ∀ {l r : List α}, l.map f = r.map f → l = r
  | [], [], _ => rfl
  | [], _ :: _, h => by simp at h
  | _ :: _, [], h => by simp at h
  | a :: l, b :: r, h => by
    rw [List.map_cons, List.map_cons] at h
    injection h with h1 h2
    rw [hf a b h1, map_inj' hf h2]
structure GoodS (k : Keeper) (s : Std) : Prop where
  so : SetOf k.w s.1
  f0 : 0 ≤ s.2
  f1 : s.2 < k.ps.length
theorem GoodS.pls {k : Keeper} {s : Std} (ko : KeeperOk k) (h : GoodS k s) : Pls s.1 ∧ s.1.length < 10000 := by
  have := ko.w
  exact h.so.pls (by omega) (by omega)
theorem kSt_inj {k : Keeper} (ko : KeeperOk k) {s t : Std} (hs : GoodS k s) (ht : GoodS k t) (h : kSt s = kSt t) : s = t := by
  injection h with h
  injection h with h1 h2
  injection h1 with h1
  injection h2 with h2 _
  injection h2 with h2
  have h3 : runsC s.1 = runsC t.1 := map_inj' (fun _ _ => nkS_inj) h1
  refine Prod.ext ?_ h2
  rw [← (hs.pls ko).1.places, ← (ht.pls ko).1.places, h3]
/-! ### a dict over things with keys -/
theorem valN_in {α : Type} {f g : α → Dt} {a : α} : ∀ {ws : List α}, a ∈ ws → (∀ b ∈ ws, keyN (f b) = keyN (f a) → b = a) → valN (ws.map fun b => (f b, g b)) (f a) = some (g a)
  | [], h, _ => by cases h
  | b :: ws, h, inj => by
    rw [List.map_cons, valN_cons]
    by_cases e : keyN (f b) = keyN (f a)
    · rw [if_pos e, inj b List.mem_cons_self e]
    · rw [if_neg e]
      rcases List.mem_cons.mp h with rfl | h
      · exact absurd rfl e
      · exact valN_in h fun c hc => inj c (List.mem_cons_of_mem _ hc)
theorem valN_out {α : Type} {f g : α → Dt} {a : α} : ∀ {ws : List α}, (∀ b ∈ ws, keyN (f b) ≠ keyN (f a)) → valN (ws.map fun b => (f b, g b)) (f a) = none
  | [], _ => rfl
  | b :: ws, h => by
    rw [List.map_cons, valN_cons, if_neg (h b List.mem_cons_self)]
    exact valN_out fun c hc => h c (List.mem_cons_of_mem _ hc)
theorem putN_new {kvs : DEnt} {kd d : Dt} (h : valN kvs kd = none) : putN kvs kd d = kvs ++ [(kd, d)] := by
  unfold putN
  rw [h]
  rfl
/-- a state of the dicts that knows all of another one -/
def Grow (m m' : Dm) : Prop := ∀ a x, m a = some x → m' a = some x
theorem Grow.refl (m : Dm) : Grow m m := fun _ _ h => h
theorem Grow.trans {m m1 m2 : Dm} (h : Grow m m1) (h' : Grow m1 m2) : Grow m m2 := fun a x e => h' a x (h a x e)
theorem Grow.set {m m' : Dm} {q : Addr} {x : Bool × DEnt} (h : Grow m m') (hq : m q = none) : Grow m (updN m' q x) := fun a y e => by
  rw [updN_ne (fun z => by rw [z, hq] at e; cases e)]
  exact h a y e
theorem Grow.ne {m m' : Dm} {a q : Addr} {x : Bool × DEnt} (h : Grow m m') (e : m a = some x) (hq : m' q = none) : a ≠ q := fun z => by
  have := h a x e
  rw [z, hq] at this
  cases this
/-- a loop that may change what stands around -/
theorem loop_W {Ω α : Type} {tg : Tg} {body : DS Ω} {D : DD Ω} (enc : α → Dt) (J : Nat → Sl → Ω → Prop) : ∀ (zs : List α) (i : Nat) {sl : Sl} {w : Ω},
    (∀ (j : Nat) (y : α) (sl : Sl) (w : Ω), zs[j]? = some y → J (i + j) sl w → ∃ sl', bindTg tg (enc y) sl = some sl' ∧ ∀ N : Sl → Ω → Prop, (∀ s w', J (i + j + 1) s w' → N s w') → body { D with nx := N, ct := N, bk := D.nx } sl' w) →
    J i sl w → (∀ s w', J (i + zs.length) s w' → D.nx s w') → wLoop tg body D (zs.map enc) sl w
  | [], i, sl, w, _, h0, hC => hC _ _ h0
  | z :: zs, i, sl, w, h, h0, hC => by
    obtain ⟨sl', h1, h2⟩ := h 0 z sl w rfl h0
    refine ⟨sl', h1, h2 _ fun s w' hj => ?_⟩
    refine loop_W enc J zs (i + 1) (fun j y sl w hy hj => ?_) hj fun s w' hj => hC s w' (by rw [List.length_cons]; rwa [Nat.add_right_comm] at hj)
    have := h (j + 1) y sl w (by simpa using hy) (by rwa [Nat.add_right_comm] at hj)
    rwa [show i + (j + 1) + 1 = i + 1 + j + 1 from by omega] at this
theorem loop_W0 {Ω α : Type} {tg : Tg} {body : DS Ω} {D : DD Ω} (enc : α → Dt) (J : Nat → Sl → Ω → Prop) (zs : List α) {sl : Sl} {w : Ω}
    (h : ∀ (j : Nat) (y : α) (sl : Sl) (w : Ω), zs[j]? = some y → J j sl w → ∃ sl', bindTg tg (enc y) sl = some sl' ∧ ∀ N : Sl → Ω → Prop, (∀ s w', J (j + 1) s w' → N s w') → body { D with nx := N, ct := N, bk := D.nx } sl' w)
    (h0 : J 0 sl w) (hC : ∀ s w', J zs.length s w' → D.nx s w') : wLoop tg body D (zs.map enc) sl w :=
  loop_W enc J zs 0 (fun j y sl w hy hj => by rw [Nat.zero_add] at hj ⊢; exact h j y sl w hy hj) h0 fun s w' hj => hC s w' (by rwa [Nat.zero_add] at hj)
theorem use_pureP {Ω Ω2 ι : Type} {args : ι → List Dt} {ok : ι → Prop} {res : ι → Dt} {w : Ω × Ω2} {C : Dt → Ω × Ω2 → Prop} (i : ι) (h : ok i) (hC : C (res i) w) : (pureS (Ω := Ω) args ok res).left.run (args i) w C := ⟨i, rfl, h, hC⟩
/-! ### the web -/
def nxt (k : Keeper) (s : Std) (x : Int) : Std := (togA s.1 x, nextF k s.1 s.2 x)
def costS (k : Keeper) (s : Std) (x : Int) : Int := costF k s.1 s.2 x
def pl (j : Nat) : Int := 0 + (j : Int)
abbrev plcs (k : Keeper) : List Nat := List.range k.w.toNat
def stepsD (k : Keeper) (s : Std) : List Dt := (plcs k).map fun j => .tup [dSt (nxt k s (pl j)), .int (costS k s (pl j))]
def succs (k : Keeper) (s : Std) : List Std := (plcs k).map fun j => nxt k s (pl j)
def webE (k : Keeper) (ws : List Std) : DEnt := ws.map fun s => (dSt s, .lst (stepsD k s))
def dfs (k : Keeper) : Nat → List Std → List Std → Option (List Std)
  | _, ws, [] => some ws
  | 0, _, _ :: _ => none
  | n + 1, ws, s :: st => if s ∈ ws then dfs k n ws st else dfs k n (ws ++ [s]) ((succs k s).reverse ++ st)
abbrev st0 : Std := ([], 0)
theorem GoodS.nxt {k : Keeper} (ko : KeeperOk k) {s : Std} (h : GoodS k s) {j : Nat} (hj : j ∈ plcs k) : GoodS k (nxt k s (pl j)) := by
  have hw := ko.w
  have hj := List.mem_range.mp hj
  have hn := next_in (l := s.1) (x := pl j) ko h.f0 h.f1
  exact ⟨h.so.tog (by unfold pl; omega) (by unfold pl; omega), hn.1, hn.2⟩
theorem GoodS.zero {k : Keeper} (ko : KeeperOk k) : GoodS k st0 := by
  have hp := ko.ps
  exact ⟨⟨.nil, fun x h => by cases h⟩, Int.le_refl _, by show (0 : Int) < k.ps.length; omega⟩
theorem stepOk {k : Keeper} (ko : KeeperOk k) {s : Std} (h : GoodS k s) {j : Nat} (hj : j ∈ plcs k) : KeeperOk k ∧ Pls s.1 ∧ s.1.length < 10000 ∧ (-100000 ≤ pl j ∧ pl j ≤ 100000) := by
  obtain ⟨a, b⟩ := h.pls ko
  have hw := ko.w
  have hj := List.mem_range.mp hj
  exact ⟨ko, a, b, by unfold pl; omega, by unfold pl; omega⟩
theorem mem_setsTo24 : ∀ {n : Nat} {r : List Int}, SetOf n r → r ∈ setsTo n
  | 0, r, h => by
    cases r with
    | nil => exact List.mem_singleton.mpr rfl
    | cons x l =>
      have := h.b x List.mem_cons_self
      omega
  | n + 1, r, h => by
    rcases List.eq_nil_or_concat r with rfl | ⟨l, a, rfl⟩
    · exact List.mem_append_left _ (mem_setsTo24 ⟨.nil, fun x hx => by cases hx⟩)
    · rw [List.concat_eq_append] at h ⊢
      obtain ⟨h1, h2, h3⟩ := List.pairwise_append.mp h.a
      have ha := h.b a (by simp)
      have lt : ∀ x ∈ l, x < a := fun x hx => h3 x hx a (by simp)
      by_cases e : a = (n : Int)
      · subst e
        exact List.mem_append_right _ (List.mem_map.mpr ⟨l, mem_setsTo24 ⟨h1, fun x hx => ⟨(h.b x (by simp [hx])).1, lt x hx⟩⟩, rfl⟩)
      · refine List.mem_append_left _ (mem_setsTo24 ⟨h.a, fun x hx => ⟨(h.b x hx).1, ?_⟩⟩)
        rcases List.mem_append.mp hx with z | z
        · have := lt x z
          omega
        · rw [List.mem_singleton.mp z]
          omega
/-- all standings of a keeper -/
def allSt (k : Keeper) : List Std := (setsTo k.w.toNat).flatMap fun l => (List.range k.ps.length).map fun (i : Nat) => (l, (i : Int))
theorem mem_allSt {k : Keeper} (ko : KeeperOk k) {s : Std} (h : GoodS k s) : s ∈ allSt k := by
  have hw := ko.w
  refine List.mem_flatMap.mpr ⟨s.1, mem_setsTo24 (n := k.w.toNat) ⟨h.so.a, fun x hx => by have := h.so.b x hx; omega⟩, List.mem_map.mpr ⟨s.2.toNat, List.mem_range.mpr ?_, ?_⟩⟩
  · have := h.f0
    have := h.f1
    omega
  · have := h.f0
    exact Prod.ext rfl (by show ((s.2.toNat : Nat) : Int) = s.2; omega)
theorem len_allSt {k : Keeper} (ko : KeeperOk k) : (allSt k).length ≤ 256 := by
  have hw := ko.w
  have hp := ko.ps
  have h1 : (allSt k).length = (setsTo k.w.toNat).length * k.ps.length := by
    unfold allSt
    generalize setsTo k.w.toNat = l
    induction l with
    | nil => simp
    | cons a l ih =>
      rw [List.flatMap_cons, List.length_append, List.length_map, List.length_range, ih, List.length_cons, Nat.succ_mul, Nat.add_comm]
  rw [h1, setsTo_len]
  have h2 : 2 ^ k.w.toNat ≤ 2 ^ 6 := Nat.pow_le_pow_right (by decide) (by omega)
  exact Nat.mul_le_mul h2 hp.2
theorem len_succs (k : Keeper) (s : Std) : (succs k s).length = k.w.toNat := by simp [succs]
theorem dfs_ends {k : Keeper} (ko : KeeperOk k) : ∀ (n : Nat) (ws st : List Std), ws.Nodup → (∀ s ∈ ws, GoodS k s) → (∀ s ∈ st, GoodS k s) → ((allSt k).length - ws.length) * 7 + st.length ≤ n → ∃ W, dfs k n ws st = some W
  | n, ws, [], _, _, _, _ => ⟨ws, by cases n <;> rfl⟩
  | 0, ws, s :: st, _, _, _, h => by
    rw [List.length_cons] at h
    omega
  | n + 1, ws, s :: st, nd, g1, g2, h => by
    rw [List.length_cons] at h
    unfold dfs
    by_cases e : s ∈ ws
    · rw [if_pos e]
      exact dfs_ends ko n ws st nd g1 (fun t ht => g2 t (List.mem_cons_of_mem _ ht)) (by omega)
    · rw [if_neg e]
      have gs := g2 s List.mem_cons_self
      have g1' : ∀ t ∈ ws ++ [s], GoodS k t := fun t ht => by
        rcases List.mem_append.mp ht with z | z
        · exact g1 t z
        · rw [List.mem_singleton.mp z]
          exact gs
      have nd' : (ws ++ [s]).Nodup := List.nodup_append.mpr ⟨nd, List.nodup_cons.mpr ⟨by simp, List.nodup_nil⟩, fun a ha b hb z => by
        rw [List.mem_singleton.mp hb] at z
        exact e (z ▸ ha)⟩
      have hl := nodup_le nd' fun t ht => mem_allSt ko (g1' t ht)
      rw [List.length_append] at hl
      have hw := ko.w
      refine dfs_ends ko n _ _ nd' g1' (fun t ht => ?_) ?_
      · rcases List.mem_append.mp ht with z | z
        · obtain ⟨j, hj, rfl⟩ := List.mem_map.mp (List.mem_reverse.mp z)
          exact gs.nxt ko hj
        · exact g2 t (List.mem_cons_of_mem _ z)
      · rw [List.length_append, List.length_append, List.length_reverse, len_succs]
        simp only [List.length_cons, List.length_nil] at hl ⊢
        omega
/-- what is found -/
structure WebF (k : Keeper) (W : List Std) : Prop where
  run : dfs k 100000 [] [st0] = some W
  nd : W.Nodup
  good : ∀ s ∈ W, GoodS k s
  cl : ∀ s ∈ W, ∀ t ∈ succs k s, t ∈ W
  st : st0 ∈ W
theorem dfs_ok {k : Keeper} (ko : KeeperOk k) : ∀ (n : Nat) (ws st W : List Std), dfs k n ws st = some W → ws.Nodup → (∀ s ∈ ws, GoodS k s) → (∀ s ∈ st, GoodS k s) → (∀ s ∈ ws, ∀ t ∈ succs k s, t ∈ ws ∨ t ∈ st) →
    W.Nodup ∧ (∀ s ∈ W, GoodS k s) ∧ (∀ s ∈ W, ∀ t ∈ succs k s, t ∈ W) ∧ (∀ s ∈ ws, s ∈ W) ∧ ∀ s ∈ st, s ∈ W
  | n, ws, [], W, e, nd, g1, _, cl => by
    have e : ws = W := by cases n <;> exact Option.some.inj e
    subst e
    exact ⟨nd, g1, fun s hs t ht => (cl s hs t ht).resolve_right (by simp), fun s h => h, fun s h => by cases h⟩
  | 0, ws, s :: st, W, e, _, _, _, _ => by cases e
  | n + 1, ws, s :: st, W, e, nd, g1, g2, cl => by
    unfold dfs at e
    by_cases z : s ∈ ws
    · rw [if_pos z] at e
      obtain ⟨a, b, c, d, f⟩ := dfs_ok ko n ws st W e nd g1 (fun t ht => g2 t (List.mem_cons_of_mem _ ht)) fun u hu t ht => by
        rcases cl u hu t ht with y | y
        · exact .inl y
        · rcases List.mem_cons.mp y with rfl | y
          · exact .inl z
          · exact .inr y
      refine ⟨a, b, c, d, fun t ht => ?_⟩
      rcases List.mem_cons.mp ht with rfl | ht
      · exact d _ z
      · exact f t ht
    · rw [if_neg z] at e
      have gs := g2 s List.mem_cons_self
      obtain ⟨a, b, c, d, f⟩ := dfs_ok ko n _ _ W e (List.nodup_append.mpr ⟨nd, List.nodup_cons.mpr ⟨by simp, List.nodup_nil⟩, fun a ha b hb y => by
          rw [List.mem_singleton.mp hb] at y
          exact z (y ▸ ha)⟩) (fun t ht => by
          rcases List.mem_append.mp ht with y | y
          · exact g1 t y
          · rw [List.mem_singleton.mp y]
            exact gs) (fun t ht => by
          rcases List.mem_append.mp ht with y | y
          · obtain ⟨j, hj, rfl⟩ := List.mem_map.mp (List.mem_reverse.mp y)
            exact gs.nxt ko hj
          · exact g2 t (List.mem_cons_of_mem _ y)) fun u hu t ht => by
          rcases List.mem_append.mp hu with y | y
          · rcases cl u y t ht with x | x
            · exact .inl (List.mem_append_left _ x)
            · rcases List.mem_cons.mp x with rfl | x
              · exact .inl (List.mem_append_right _ (by simp))
              · exact .inr (List.mem_append_right _ x)
          · rw [List.mem_singleton.mp y] at ht
            exact .inr (List.mem_append_left _ (List.mem_reverse.mpr ht))
      refine ⟨a, b, c, fun t ht => d t (List.mem_append_left _ ht), fun t ht => ?_⟩
      rcases List.mem_cons.mp ht with rfl | ht
      · exact d _ (List.mem_append_right _ (by simp))
      · exact f t (List.mem_append_right _ ht)
theorem web_there {k : Keeper} (ko : KeeperOk k) : ∃ W, WebF k W := by
  have hl := len_allSt ko
  have g0 : ∀ s ∈ [st0], GoodS k s := fun s hs => by
    rw [List.mem_singleton.mp hs]
    exact GoodS.zero ko
  obtain ⟨W, e⟩ := dfs_ends ko 100000 [] [st0] List.nodup_nil (fun s hs => by cases hs) g0 (by simp only [List.length_nil, List.length_cons]; omega)
  obtain ⟨a, b, c, _, f⟩ := dfs_ok ko _ _ _ _ e List.nodup_nil (fun s hs => by cases hs) g0 fun s hs => by cases hs
  exact ⟨W, e, a, b, c, f _ (by simp)⟩
theorem WebF.len {k : Keeper} (ko : KeeperOk k) {W : List Std} (h : WebF k W) : W.length ≤ 256 :=
  Nat.le_trans (nodup_le h.nd fun t ht => mem_allSt ko (h.good t ht)) (len_allSt ko)

end Ck
namespace Ck
open PySem PySem.Spec PyProof.Rows L2
local macro_rules | `(tactic| walk_at "ck") => `(tactic| try simp only [wNNew, wNGet, wNIn, wNGetD, wNPut, wNDictL, wNDisp1, wiKeysN, wPopTo, strtD, nkG, nkP, Dt.opq.injEq, L2.V.ref.injEq, wNext, wBrk, wCnt, wSeq, wRet, wRetN, wSet, wOwn, wDrop, wUnp, wPar, wIfS, wApp, wExt, wSetIx, wAug, wFrz, wFor, wShp, wMx, wMN, wMD, wMO, setMx, k_var, k_vk1, k_vk2, k_par, wC, wL, wOp, wOpL, wF, wFL, wNil, wCons, wTup, wLst, wTV, wTAnd, wTOr, wTNot, wAnd, wOr, wNot, wIfx, wIsN, wNotN, wChain, wO0, wO1, wSl, wCall, wIsi, wLr1, wLr2, wNeg, wLc, wYes, wiSeq, wiR1, wiR2, wiEnum, wiZip, noOwnB, wipeD, wEmp, wListZip, wSortSet, wRevL, wRevT, wOneB, wParOD, wParDO, wParOO, wIndex, wNever, wUnp2, k_s20, k_s21, Option.bind_some, Option.map_some, wDNew, wDPut, wDGet, wDGetD, wDIn, wFrzD, wiKeys, Sv.dic.injEq, keysD, keyD, k_mulT, k_add1, k_add2, k_add3, k_add4, k_addL, k_sub, k_mul1, k_mul2, k_mulL, k_div, k_mod, k_pow, k_cmp, k_eq, k_ne, k_ea1, k_ea2, k_ea3, k_ea4, k_in1, k_in2, k_in3, k_in4, k_ix1, k_ix2, k_ix3, k_sl1, k_sl2, k_len1, k_len2, k_len3, k_int1, k_int2, k_abs, k_tuple1, k_tuple2, k_list1, k_list2, k_min2, k_max2, k_non_non, k_ty_int_non, k_ty_bool_non, k_ty_tuple_non, k_ty_str_non, k_ty_list_non, k_non_bl, k_ty_int_bl, k_ty_bool_bl, k_ty_tuple_bl, k_ty_str_bl, k_ty_list_bl, k_non_int, k_ty_int_int, k_ty_bool_int, k_ty_tuple_int, k_ty_str_int, k_ty_list_int, k_non_str, k_ty_int_str, k_ty_bool_str, k_ty_tuple_str, k_ty_str_str, k_ty_list_str, k_non_tup, k_ty_int_tup, k_ty_bool_tup, k_ty_tuple_tup, k_ty_str_tup, k_ty_list_tup, k_non_lst, k_ty_int_lst, k_ty_bool_lst, k_ty_tuple_lst, k_ty_str_lst, k_ty_list_lst, k_non_emp, k_ty_int_emp, k_ty_bool_emp, k_ty_tuple_emp, k_ty_str_emp, k_ty_list_emp, k_seq_non, k_seq_bl, k_seq_int, k_seq_str, k_seq_tup, k_seq_lst, k_seq_emp, k_sz0, k_sz1, k_sz2, k_sz3, k_sz4, k_sz5, k_sz6, k_sz7, k_sz8, k_sz9, k_sz10, k_sz11, k_sz12, k_sz13, k_sz14, k_sz15, k_sz16, k_sz17, k_sz18, k_sz19, k_sz20, k_sz21, k_sz22, k_sz23, k_at0, k_at1, k_at2, k_at3, k_iteT, k_iteF, k_bt1, k_bt2, k_sa0, k_sa1, k_endn, k_endr, List.getElem?_cons_succ, List.getElem?_cons_zero, List.set_cons_succ, List.set_cons_zero, List.length_cons, List.length_nil, List.length_map, List.all_cons, List.all_nil, Nat.reduceAdd, Nat.zero_add, Bool.and_true, Bool.and_self, Option.some.injEq, Dt.int.injEq, Dt.bl.injEq, Dt.str.injEq, Dt.tup.injEq, Dt.lst.injEq, Sv.dat.injEq, Sv.own.injEq, exists_eq_left', exists_eq_left, exists_eq_right, exists_eq', exists_eq, if_true, if_false, Bool.not_false, Bool.not_true, Bool.not_not, true_and, and_true, false_and, and_false, exists_const, reduceCtorEq])
def S_web_of : Spc NkT := ⟨fun ds w C => ∃ k W, ds = [dK k] ∧ (KeeperOk k ∧ WebF k W) ∧ ∀ (q : Addr) (m' : Dm), w.2 q = none → m' q = some (false, webE k W) → Grow w.2 m' → C (.opq (.ref q)) (w.1, m'),
  fun ds w C C2 h z => by
    obtain ⟨k, W, h1, h2, h3⟩ := z
    exact ⟨k, W, h1, h2, fun q m2 a b c => h _ _ (h3 q m2 a b c)⟩⟩
abbrev p_web_of : DS NkT :=
  (wSeq (wParDO 1 2 (wNNew nkG nkP) (wLst (wCons (wC strtD) wNil)))
  (wSeq (wWhile (wTV (wOp fNe (wVar 2) (wL (wLst wNil)))) (wSeq (wPopTo 3 2)
  (wIfS (wTV (wNIn nkG true (wVar 3) (wVar 1))) (wSeq (wNPut nkG nkP (wL (wLc [4] (.one 4) (wiR1 (wOp fIx (wVar 0) (wC (.int 0)))) wYes (wCall S_step.left (wCons (wVar 0) (wCons (wVar 3) (wCons (wVar 4) wNil)))))) (wVar 1) (wVar 3))
  (wExt 2 (wLc [5, 6] (.many [5, 6]) (wiSeq (wNGet nkG (wVar 1) (wVar 3))) wYes (wVar 5)))) wNext)))
  (wRet (wVar 1))))
theorem size1M' {n : Nat} (h : n ≤ 1000000) : n < sizeLine := by rw [sizeLine_eq]; omega
theorem webE_in {k : Keeper} (ko : KeeperOk k) {ws : List Std} (g : ∀ s ∈ ws, GoodS k s) {s : Std} (gs : GoodS k s) (h : s ∈ ws) : valN (webE k ws) (dSt s) = some (.lst (stepsD k s)) :=
  valN_in (g := fun s => .lst (stepsD k s)) h fun b hb e => by
    rw [keyN_dSt, keyN_dSt] at e
    exact kSt_inj ko (g b hb) gs (Option.some.inj e)
theorem webE_out {k : Keeper} (ko : KeeperOk k) {ws : List Std} (g : ∀ s ∈ ws, GoodS k s) {s : Std} (gs : GoodS k s) (h : s ∉ ws) : valN (webE k ws) (dSt s) = none :=
  valN_out (g := fun s => .lst (stepsD k s)) fun b hb e => by
    rw [keyN_dSt, keyN_dSt] at e
    exact h (kSt_inj ko (g b hb) gs (Option.some.inj e) ▸ hb)
theorem keyN_some (s : Std) : (keyN (dSt s)).isSome = true := by rw [keyN_dSt]; rfl
theorem webE_put {k : Keeper} (ko : KeeperOk k) {ws : List Std} (g : ∀ s ∈ ws, GoodS k s) {s : Std} (gs : GoodS k s) (h : s ∉ ws) : putN (webE k ws) (dSt s) (.lst (stepsD k s)) = webE k (ws ++ [s]) := by
  rw [putN_new (webE_out ko g gs h)]
  simp [webE]
theorem m_web_of : ∀ ds w C, S_web_of.run ds w C → p_web_of (endD C) (startD 7 ds) w := by
  rintro ds ⟨d, m⟩ C ⟨k, W, rfl, ⟨ko, wf⟩, q⟩
  show p_web_of _ [some (.dat (dK k)), none, none, none, none, none, none] _
  have hw := ko.w
  unfold p_web_of
  walk_at "ck"
  intro p hp
  refine ⟨fun n sl w => ∃ x3 ws st m', sl = [some (.dat (dK k)), some (.dat (.opq (.ref p))), some (.own (st.reverse.map dSt)), x3, none, none, none] ∧ w = (d, m') ∧ m' p = some (false, webE k ws) ∧ Grow m m' ∧ dfs k n ws st = some W ∧ (∀ s ∈ ws, GoodS k s) ∧ (∀ s ∈ st, GoodS k s) ∧ ws.Nodup ∧ st.length ≤ 7 * ws.length + 1, ?_, ?_⟩
  · refine ⟨100000, none, [], [st0], _, rfl, rfl, updN_same, (Grow.refl m).set hp, wf.run, (fun s hs => by cases hs), (fun s hs => ?_), List.nodup_nil, by decide⟩
    rw [List.mem_singleton.mp hs]
    exact GoodS.zero ko
  rintro n sl w ⟨x3, ws, st, m', rfl, rfl, hm, hg, hd, g1, g2, nd, l2⟩
  cases st with
  | nil =>
    have e : ws = W := by cases n <;> exact Option.some.inj hd
    subst e
    walk_at "ck"
    exact ite2 (fun h => absurd h (by simp)) fun _ => q p m' hp hm hg
  | cons s st =>
    cases n with
    | zero => cases hd
    | succ n =>
      have gs := g2 s List.mem_cons_self
      rw [List.reverse_cons, List.map_append]
      walk_at "ck"
      refine ite2 (fun _ => ?_) fun h => absurd h (by simp)
      refine ⟨_, _, rfl, p, false, webE k ws, rfl, hm, keyN_some s, ?_⟩
      unfold dfs at hd
      by_cases e : s ∈ ws
      · rw [if_pos e] at hd
        rw [webE_in ko g1 gs e]
        refine ite2 (fun h => absurd h (by simp)) fun _ => ?_
        exact ⟨n, Nat.lt_succ_self n, _, ws, st, m', rfl, rfl, hm, hg, hd, g1, fun t ht => g2 t (List.mem_cons_of_mem _ ht), nd, by rw [List.length_cons] at l2; omega⟩
      · rw [if_neg e] at hd
        rw [webE_out ko g1 gs e]
        refine ite2 (fun _ => ?_) fun h => absurd h (by simp)
        have eK : dK k = .tup [.int k.w, .tup (k.ps.map d3), .tup (k.ts.map dT)] := rfl
        rw [eK]
        walk_at "ck"
        have hlen : ws.length ≤ 256 := Nat.le_trans (nodup_le nd fun t ht => mem_allSt ko (g1 t ht)) (len_allSt ko)
        have g1' : ∀ t ∈ ws ++ [s], GoodS k t := fun t ht => by
          rcases List.mem_append.mp ht with z | z
          · exact g1 t z
          · rw [List.mem_singleton.mp z]
            exact gs
        refine ⟨by omega, by omega, by rw [rngD_eq, List.length_map, List.length_range]; exact size1M (by omega), ?_⟩
        rw [rngD_eq]
        refine lc_map (rngN 0) (fun j => Dt.tup [dSt (nxt k s (pl j)), .int (costS k s (pl j))]) _ (fun j hj => ⟨_, rfl, fun C' h => ?_⟩) ?_
        · walk_at "ck"
          exact use_pureP (k, s.1, s.2, pl j) (stepOk ko gs hj) h
        rw [show (List.range k.w.toNat).map (fun j => Dt.tup [dSt (nxt k s (pl j)), .int (costS k s (pl j))]) = stepsD k s from rfl]
        have hsl : (stepsD k s).length = k.w.toNat := by simp [stepsD]
        refine ⟨webE k ws, hm, by rw [webE, List.length_map]; exact size1M' (by omega), keyN_some s, false, _, _, updN_same, keyN_some s, by rw [webE_put ko g1 gs e]; exact webE_in ko g1' gs (by simp), stepsD k s, rfl, by rw [hsl]; exact size1M (by omega), ?_⟩
        rw [webE_put ko g1 gs e]
        refine lc_map (fun j => Dt.tup [dSt (nxt k s (pl j)), .int (costS k s (pl j))]) (fun j => dSt (nxt k s (pl j))) (plcs k) (fun j hj => ⟨_, rfl, fun C' h => h⟩) ?_
        rw [List.length_cons] at l2
        refine ⟨by rw [List.length_reverse, List.length_map, List.length_range]; exact size1M (by omega), n, Nat.lt_succ_self n, some (.dat (dSt s)), ws ++ [s], (succs k s).reverse ++ st, _, ?_, rfl, updN_same, fun a x ha => ?_, hd, g1', fun t ht => ?_, List.nodup_append.mpr ⟨nd, List.nodup_cons.mpr ⟨by simp, List.nodup_nil⟩, fun a ha b hb y => by
          rw [List.mem_singleton.mp hb] at y
          exact e (y ▸ ha)⟩, ?_⟩
        · rw [List.reverse_append, List.reverse_reverse, List.map_append, succs, List.map_map]
          rfl
        · by_cases z : a = p
          · rw [z, hp] at ha
            cases ha
          · rw [updN_ne z]
            exact hg a x ha
        · rcases List.mem_append.mp ht with y | y
          · obtain ⟨j, hj, rfl⟩ := List.mem_map.mp (List.mem_reverse.mp y)
            exact gs.nxt ko hj
          · exact g2 t (List.mem_cons_of_mem _ y)
        · simp only [List.length_append, List.length_reverse, len_succs, List.length_cons, List.length_nil]
          omega
/-- a dict of ints over the standings -/
def intE (W : List Std) (b : Std → Int) : DEnt := W.map fun s => (dSt s, .int (b s))
theorem intE_in {k : Keeper} (ko : KeeperOk k) {ws : List Std} {b : Std → Int} (g : ∀ s ∈ ws, GoodS k s) {s : Std} (gs : GoodS k s) (h : s ∈ ws) : valN (intE ws b) (dSt s) = some (.int (b s)) :=
  valN_in (g := fun s => .int (b s)) h fun c hc e => by
    rw [keyN_dSt, keyN_dSt] at e
    exact kSt_inj ko (g c hc) gs (Option.some.inj e)
theorem intE_out {k : Keeper} (ko : KeeperOk k) {ws : List Std} {b : Std → Int} (g : ∀ s ∈ ws, GoodS k s) {s : Std} (gs : GoodS k s) (h : s ∉ ws) : valN (intE ws b) (dSt s) = none :=
  valN_out (g := fun s => .int (b s)) fun c hc e => by
    rw [keyN_dSt, keyN_dSt] at e
    exact h (kSt_inj ko (g c hc) gs (Option.some.inj e) ▸ hc)
theorem intE_put {k : Keeper} (ko : KeeperOk k) {ws : List Std} {b : Std → Int} (g : ∀ s ∈ ws, GoodS k s) {s : Std} (gs : GoodS k s) (h : s ∉ ws) : putN (intE ws b) (dSt s) (.int (b s)) = intE (ws ++ [s]) b := by
  rw [putN_new (intE_out ko g gs h)]
  simp [intE]
/-- dict([(k, v) ..]) -/
theorem pairs_int {k : Keeper} : ∀ {W : List Std} {b : Std → Int}, pairsD (W.map fun s => Dt.tup [dSt s, .int (b s)]) = some (intE W b)
  | [], _ => rfl
  | s :: W, b => by
    rw [List.map_cons]
    unfold pairsD
    rw [if_pos (keyN_some s), pairs_int (k := k) (W := W)]
    rfl
theorem merge_int {k : Keeper} (ko : KeeperOk k) {b : Std → Int} : ∀ {W U : List Std}, (U ++ W).Nodup → (∀ s ∈ U ++ W, GoodS k s) → mergeN (intE U b) (intE W b) = intE (U ++ W) b
  | [], U, _, _ => by rw [List.append_nil]; rfl
  | s :: W, U, nd, g => by
    have h1 : s ∉ U := fun h => by
      obtain ⟨_, _, h3⟩ := List.nodup_append.mp nd
      exact h3 s h s List.mem_cons_self rfl
    have e : mergeN (intE U b) (intE (s :: W) b) = mergeN (putN (intE U b) (dSt s) (.int (b s))) (intE W b) := rfl
    rw [e, intE_put ko (fun t ht => g t (List.mem_append_left _ ht)) (g s (List.mem_append_right _ List.mem_cons_self)) h1, merge_int ko (by rwa [List.append_assoc]) (by rwa [List.append_assoc]), List.append_assoc]
    rfl
def S_nothing_for : Spc NkT := ⟨fun ds w C => ∃ k W a fz, ds = [.opq (.ref a)] ∧ (KeeperOk k ∧ WebF k W) ∧ w.2 a = some (fz, webE k W) ∧ ∀ (q : Addr) (m' : Dm), q ≠ a → w.2 q = none → m' q = some (false, intE W fun _ => 0) → m' a = some (true, webE k W) → (∀ b x, b ≠ a → w.2 b = some x → m' b = some x) → C (.opq (.ref q)) (w.1, m'),
  fun ds w C C2 h z => by
    obtain ⟨k, W, a, fz, h1, h2, h3, h4⟩ := z
    exact ⟨k, W, a, fz, h1, h2, h3, fun q m2 a b c d e => h _ _ (h4 q m2 a b c d e)⟩⟩
abbrev p_nothing_for : DS NkT :=
  (wRet (wNDictL nkG nkP (wL (wLc [1] (.one 1) (wiKeysN nkG nkP (wVar 0)) wYes (wTup (wCons (wVar 1) (wCons (wC (.int 0)) wNil)))))))
theorem m_nothing_for : ∀ ds w C, S_nothing_for.run ds w C → p_nothing_for (endD C) (startD 2 ds) w := by
  rintro ds ⟨d, m⟩ C ⟨k, W, a, fz, rfl, ⟨ko, wf⟩, hm, q⟩
  show p_nothing_for _ [some (.dat (.opq (.ref a))), none] _
  have hm : m a = some (fz, webE k W) := hm
  unfold p_nothing_for
  walk_at "ck"
  refine ⟨a, fz, webE k W, rfl, hm, by rw [webE, List.length_map]; exact size1M (by have := wf.len ko; omega), ?_⟩
  have e1 : (webE k W).map (fun x => x.fst) = W.map dSt := by
    rw [webE, List.map_map]
    rfl
  rw [e1]
  refine lc_map dSt (fun s => Dt.tup [dSt s, .int 0]) W (fun s hs => ⟨_, rfl, fun C' h => by
    walk_at "ck"
    exact h⟩) ?_
  refine ⟨_, _, rfl, pairs_int (k := k) (b := fun _ => 0), fun p hp => ?_⟩
  have e2 := merge_int ko (b := fun _ => 0) (U := []) (W := W) (by rw [List.nil_append]; exact wf.nd) (by rw [List.nil_append]; exact wf.good)
  rw [show mergeN [] (intE W fun _ => 0) = intE W fun _ => 0 from e2]
  have hpa : p ≠ a := fun z => by
    rw [z] at hp
    have hp : updN m a (true, webE k W) a = none := hp
    rw [updN_same] at hp
    cases hp
  have hp : updN m a (true, webE k W) p = none := hp
  rw [updN_ne hpa] at hp
  refine q p _ hpa hp updN_same ?_ fun b x hb hx => ?_
  · show updN (updN m a (true, webE k W)) p _ a = _
    rw [updN_ne (Ne.symm hpa), updN_same]
  · show updN (updN m a (true, webE k W)) p _ b = _
    have hx : m b = some x := hx
    rw [updN_ne (fun z => by rw [z, hp] at hx; cases hx), updN_ne hb]
    exact hx

/-! ### most changes -/
def mxL : List Int → Int
  | [] => 0
  | x :: r => r.foldl max x
theorem mx_foldl : ∀ (r : List Int) (x m : Int), (m = x ∨ m ∈ r) → x ≤ m → (∀ y ∈ r, y ≤ m) → r.foldl max x = m
  | [], x, m, h, _, _ => by
    rcases h with h | h
    · exact h.symm
    · cases h
  | y :: r, x, m, h, h1, h2 => by
    have hy := h2 y List.mem_cons_self
    rw [List.foldl_cons]
    refine mx_foldl r (max x y) m ?_ (by omega) fun z hz => h2 z (List.mem_cons_of_mem _ hz)
    rcases h with h | h
    · exact .inl (by omega)
    · rcases List.mem_cons.mp h with h | h
      · exact .inl (by omega)
      · exact .inr h
theorem mxL_eq {l : List Int} {m : Int} (h : m ∈ l) (h2 : ∀ y ∈ l, y ≤ m) : m = mxL l := by
  cases l with
  | nil => cases h
  | cons x r => exact (mx_foldl r x m (by simpa using h) (h2 x List.mem_cons_self) fun y hy => h2 y (List.mem_cons_of_mem _ hy)).symm
def turned (k : Keeper) (s : Std) (j : Nat) : Int := if nextF k s.1 s.2 (pl j) ≠ s.2 then 1 else 0
def bestF (k : Keeper) : Nat → Std → Int
  | 0, _ => 0
  | n + 1, s => mxL ((plcs k).map fun j => turned k s j + bestF k n (nxt k s (pl j)))
def S_most_changes : Spc NkT := ⟨fun ds w C => ∃ k W n, ds = [dK k, .int n] ∧ (KeeperOk k ∧ WebF k W ∧ 0 ≤ n ∧ n ≤ 1000) ∧ ∀ m' : Dm, Grow w.2 m' → C (.int (bestF k n.toNat st0)) (w.1, m'),
  fun ds w C C2 h z => by
    obtain ⟨k, W, n, h1, h2, h3⟩ := z
    exact ⟨k, W, n, h1, h2, fun m2 a => h _ _ (h3 m2 a)⟩⟩
abbrev p_most_changes : DS NkT :=
  (wSeq (wSet 2 (wCall S_web_of (wCons (wVar 0) wNil)))
  (wSeq (wSet 3 (wCall S_nothing_for (wCons (wVar 2) wNil)))
  (wSeq (wFor (.one 4) (wiR1 (wVar 1)) (wSeq (wSet 5 (wNNew nkG nkP))
  (wSeq (wFor (.one 6) (wiKeysN nkG nkP (wVar 2)) (wNPut nkG nkP (wF fMax1 (wL (wLc [7, 8] (.many [7, 8]) (wiSeq (wNGet nkG (wVar 2) (wVar 6))) wYes (wOp fAdd (wF fInt (wOp fNe (wOp fIx (wVar 7) (wC (.int 1))) (wOp fIx (wVar 6) (wC (.int 1))))) (wNGet nkG (wVar 3) (wVar 7)))))) (wVar 5) (wVar 6)))
  (wSet 3 (wVar 5)))))
  (wRet (wNGet nkG (wVar 3) (wC strtD))))))
theorem m_most_changes : ∀ ds w C, S_most_changes.run ds w C → p_most_changes (endD C) (startD 9 ds) w := by
  rintro ds ⟨d, m⟩ C ⟨k, W, n, rfl, ⟨ko, wf, n0, n1⟩, q⟩
  show p_most_changes _ [some (.dat (dK k)), some (.dat (.int n)), none, none, none, none, none, none, none] _
  have hw := ko.w
  unfold p_most_changes
  walk_at "ck"
  refine ⟨k, W, rfl, ⟨ko, wf⟩, fun p m1 hp hm1 hg1 => ?_⟩
  walk_at "ck"
  refine ⟨k, W, p, false, rfl, ⟨ko, wf⟩, hm1, fun b m2 hbp hb hm2 hm2p hg2 => ?_⟩
  walk_at "ck"
  refine ⟨by omega, by omega, ?_⟩
  have gm2 : Grow m m2 := fun a x ha => hg2 a x (fun z => by rw [z] at ha; have hp : m p = none := hp; rw [hp] at ha; cases ha) (hg1 a x ha)
  have hbm : m b = none := by
    cases z : m b with
    | none => rfl
    | some x =>
      have := hg1 b x z
      have hb : m1 b = none := hb
      rw [hb] at this
      cases this
  have hpm : m p = none := hp
  rw [rngD_eq]
  refine loop_W0 (rngN 0) (fun i sl w => ∃ b x4 x5 x6 fz m', sl = [some (.dat (dK k)), some (.dat (.int n)), some (.dat (.opq (.ref p))), some (.dat (.opq (.ref b))), x4, x5, x6, none, none] ∧ w = (d, m') ∧ m' p = some (true, webE k W) ∧ m' b = some (fz, intE W (bestF k i)) ∧ m b = none ∧ b ≠ p ∧ Grow m m') _ ?_ ?_ ?_
  · rintro i y sl w hy ⟨b, x4, x5, x6, fz, m', rfl, rfl, hp', hb', hbm', hne, hg⟩
    refine ⟨_, rfl, fun N hN => ?_⟩
    walk_at "ck"
    intro c hc
    have hcp : p ≠ c := fun z => by rw [← z, hp'] at hc; cases hc
    have hcb : b ≠ c := fun z => by rw [← z, hb'] at hc; cases hc
    refine ⟨p, true, webE k W, rfl, by rw [updN_ne hcp]; exact hp', ?_⟩
    have e1 : (webE k W).map (fun x => x.fst) = W.map dSt := by
      rw [webE, List.map_map]
      rfl
    rw [e1]
    refine loop_W0 dSt (fun j sl w => ∃ x6 m3, sl = [some (.dat (dK k)), some (.dat (.int n)), some (.dat (.opq (.ref p))), some (.dat (.opq (.ref b))), some (.dat (rngN 0 y)), some (.dat (.opq (.ref c))), x6, none, none] ∧ w = (d, m3) ∧ m3 p = some (true, webE k W) ∧ m3 b = some (fz, intE W (bestF k i)) ∧ m3 c = some (false, intE (W.take j) (bestF k (i + 1))) ∧ Grow m m3) W ?_ ?_ ?_
    · rintro j s sl w hs ⟨x6, m3, rfl, rfl, hp3, hb3, hc3, hg3⟩
      have hsW : s ∈ W := List.mem_of_getElem? hs
      have gs := wf.good s hsW
      refine ⟨_, rfl, fun N2 hN2 => ?_⟩
      walk_at "ck"
      have hsl : (stepsD k s).length = k.w.toNat := by simp [stepsD]
      refine ⟨true, webE k W, _, hp3, keyN_some s, webE_in ko wf.good gs hsW, stepsD k s, rfl, by rw [hsl]; exact size1M (by omega), ?_⟩
      refine lc_map (fun j => Dt.tup [dSt (nxt k s (pl j)), .int (costS k s (pl j))]) (fun j => .int (turned k s j + bestF k i (nxt k s (pl j)))) (plcs k) (fun j hj => ⟨_, rfl, fun C' h => ?_⟩) ?_
      · have gn := gs.nxt ko hj
        have hnW : nxt k s (pl j) ∈ W := wf.cl s hsW _ (List.mem_map.mpr ⟨j, hj, rfl⟩)
        have e2 : dSt (nxt k s (pl j)) = .tup [.tup ((runsC (togA s.1 (pl j))).map dS), .int (nextF k s.1 s.2 (pl j))] := rfl
        have e3 : dSt s = .tup [.tup ((runsC s.1).map dS), .int s.2] := rfl
        rw [e2, e3]
        walk_at "ck"
        refine ⟨fz, _, _, hb3, keyN_some (nxt k s (pl j)), intE_in ko wf.good gn hnW, ?_⟩
        have et : (if (!decide (nextF k s.1 s.2 (pl j) = s.2)) = true then (1 : Int) else 0) = turned k s j := by
          unfold turned
          by_cases z : nextF k s.1 s.2 (pl j) = s.2
          · rw [if_neg (by simp [z]), if_neg (by simp [z])]
          · rw [if_pos (by simp [z]), if_pos z]
        rw [et]
        walk_at "ck"
        exact h
      · refine ⟨(plcs k).map fun j => turned k s j + bestF k i (nxt k s (pl j)), by rw [List.map_map]; rfl, by rw [List.length_map, List.length_range]; omega, fun x h1 h2 => ?_⟩
        have ex : x = bestF k (i + 1) s := mxL_eq h1 h2
        subst ex
        have hlen := wf.len ko
        have hnot : s ∉ W.take j := fun h => by
          obtain ⟨j2, hj2, e⟩ := List.mem_iff_getElem.mp h
          rw [List.length_take] at hj2
          rw [List.getElem_take] at e
          have hj3 := (List.getElem?_eq_some_iff.mp hs)
          obtain ⟨hj4, e4⟩ := hj3
          have := (List.getElem_inj wf.nd).mp (e.trans e4.symm)
          omega
        refine ⟨_, hc3, by rw [intE, List.length_map, List.length_take]; exact size1M' (by omega), keyN_some s, ?_⟩
        have gt : ∀ t ∈ W.take j, GoodS k t := fun t ht => wf.good t (List.mem_of_mem_take ht)
        rw [intE_put ko gt gs hnot]
        refine hN2 _ _ ⟨_, _, rfl, rfl, ?_, ?_, ?_, ?_⟩
        · show updN m3 c _ p = _
          rw [updN_ne hcp]
          exact hp3
        · show updN m3 c _ b = _
          rw [updN_ne hcb]
          exact hb3
        · show updN m3 c _ c = _
          rw [updN_same, List.take_add_one, hs]
          rfl
        · intro a x ha
          show updN m3 c _ a = _
          have h2 := hg a x ha
          rw [updN_ne (fun z => by rw [z, hc] at h2; cases h2)]
          exact hg3 a x ha
    · refine ⟨x6, _, rfl, rfl, updN_same, ?_, ?_, ?_⟩
      · show updN (updN m' c (false, [])) p _ b = _
        rw [updN_ne hne, updN_ne hcb]
        exact hb'
      · show updN (updN m' c (false, [])) p _ c = _
        rw [updN_ne (Ne.symm hcp), updN_same]
        rfl
      · intro a x ha
        show updN (updN m' c (false, [])) p _ a = _
        have h2 := hg a x ha
        rw [updN_ne (fun z => by rw [z, hpm] at ha; cases ha), updN_ne (fun z => by rw [z, hc] at h2; cases h2)]
        exact h2
    · rintro sl w ⟨x6, m3, rfl, rfl, hp3, hb3, hc3, hg3⟩
      rw [List.take_length] at hc3
      walk_at "ck"
      have hmc : m c = none := by
        cases z : m c with
        | none => rfl
        | some x =>
          have := hg c x z
          rw [hc] at this
          cases this
      exact hN _ _ ⟨c, _, _, _, false, m3, rfl, rfl, hp3, hc3, hmc, Ne.symm hcp, hg3⟩
  · exact ⟨b, none, none, none, false, m2, rfl, rfl, hm2p, hm2, hbm, hbp, gm2⟩
  · rintro sl w ⟨b, x4, x5, x6, fz, m', rfl, rfl, hp', hb', hbm', hne, hg⟩
    rw [List.length_range] at hb'
    walk_at "ck"
    refine ⟨fz, _, _, hb', keyN_some st0, intE_in ko wf.good (GoodS.zero ko) wf.st, ?_⟩
    exact q m' hg

end Ck
namespace Kp
/-! ### walks in a finite graph; the greatest mean of a round (Karp) -/
structure Gr (α : Type) where
  W : List α
  P : List Nat
  nx : α → Nat → α
  c : α → Nat → Int
section
variable {α : Type} (g : Gr α)
def en : α → List Nat → α
  | s, [] => s
  | s, p :: w => en (g.nx s p) w
def co : α → List Nat → Int
  | _, [] => 0
  | s, p :: w => g.c s p + co (g.nx s p) w
def Wd (w : List Nat) : Prop := ∀ p ∈ w, p ∈ g.P
/-- weight: cost times L less P for each edge -/
def wt (A L : Int) (s : α) (w : List Nat) : Int := co g s w * L - A * w.length
structure Ok (s0 : α) : Prop where
  nd : g.W.Nodup
  cl : ∀ s ∈ g.W, ∀ p ∈ g.P, g.nx s p ∈ g.W
  st : s0 ∈ g.W
  pne : g.P ≠ []
  rch : ∀ s ∈ g.W, ∃ w, Wd g w ∧ en g s0 w = s
  cp : ∀ s ∈ g.W, ∀ p ∈ g.P, 0 ≤ g.c s p
variable {g}
theorem en_app : ∀ (s : α) (a b : List Nat), en g s (a ++ b) = en g (en g s a) b
  | _, [], _ => rfl
  | s, p :: a, b => en_app (g.nx s p) a b
theorem co_app : ∀ (s : α) (a b : List Nat), co g s (a ++ b) = co g s a + co g (en g s a) b
  | s, [], b => by
    show co g s b = 0 + co g s b
    omega
  | s, p :: a, b => by
    have := co_app (g.nx s p) a b
    show g.c s p + co g (g.nx s p) (a ++ b) = g.c s p + co g (g.nx s p) a + co g (en g (g.nx s p) a) b
    omega
theorem wt_app (A L : Int) (s : α) (a b : List Nat) : wt g A L s (a ++ b) = wt g A L s a + wt g A L (en g s a) b := by
  unfold wt
  rw [co_app, List.length_append, Int.add_mul, Int.natCast_add, Int.mul_add]
  omega
theorem Wd.app {a b : List Nat} (h : Wd g a) (h' : Wd g b) : Wd g (a ++ b) := fun p hp => (List.mem_append.mp hp).elim (h p) (h' p)
theorem Wd.left {a b : List Nat} (h : Wd g (a ++ b)) : Wd g a := fun p hp => h p (List.mem_append_left _ hp)
theorem Wd.right {a b : List Nat} (h : Wd g (a ++ b)) : Wd g b := fun p hp => h p (List.mem_append_right _ hp)
variable {s0 : α}
theorem Ok.enW (ok : Ok g s0) : ∀ {w : List Nat} {s : α}, s ∈ g.W → Wd g w → en g s w ∈ g.W
  | [], _, h, _ => h
  | p :: w, s, h, hw => ok.enW (w := w) (ok.cl s h p (hw p List.mem_cons_self)) fun q hq => hw q (List.mem_cons_of_mem _ hq)
theorem Ok.co0 (ok : Ok g s0) : ∀ {w : List Nat} {s : α}, s ∈ g.W → Wd g w → 0 ≤ co g s w
  | [], _, _, _ => Int.le_refl _
  | p :: w, s, h, hw => by
    have h1 := ok.cp s h p (hw p List.mem_cons_self)
    have h2 := ok.co0 (w := w) (ok.cl s h p (hw p List.mem_cons_self)) fun q hq => hw q (List.mem_cons_of_mem _ hq)
    show 0 ≤ g.c s p + co g (g.nx s p) w
    omega
end
/-! pigeons -/
theorem nodup_len {α : Type} [DecidableEq α] : ∀ {l m : List α}, l.Nodup → (∀ k ∈ l, k ∈ m) → l.length ≤ m.length
  | [], _, _, _ => Nat.zero_le _
  | a :: l, m, nd, h => by
    have hn := List.nodup_cons.mp nd
    have ha := h a List.mem_cons_self
    have ih := nodup_len (l := l) (m := m.erase a) hn.2 fun k hk => (List.mem_erase_of_ne (fun z => hn.1 (by rw [← z]; exact hk))).mpr (h k (List.mem_cons_of_mem _ hk))
    have e := List.length_erase_of_mem ha
    have hp : 0 < m.length := List.length_pos_of_mem ha
    rw [List.length_cons]
    omega
theorem dup_split {α : Type} [DecidableEq α] : ∀ {l : List α}, ¬ l.Nodup → ∃ i j, i < j ∧ j < l.length ∧ l[i]? = l[j]? 
  | [], h => absurd List.nodup_nil h
  | a :: l, h => by
    by_cases ha : a ∈ l
    · obtain ⟨j, hj, e⟩ := List.mem_iff_getElem.mp ha
      refine ⟨0, j + 1, by omega, by rw [List.length_cons]; omega, ?_⟩
      rw [List.getElem?_cons_zero, List.getElem?_cons_succ, List.getElem?_eq_getElem hj, e]
    · have hn : ¬ l.Nodup := fun z => h (List.nodup_cons.mpr ⟨ha, z⟩)
      obtain ⟨i, j, h1, h2, h3⟩ := dup_split hn
      exact ⟨i + 1, j + 1, by omega, by rw [List.length_cons]; omega, by rw [List.getElem?_cons_succ, List.getElem?_cons_succ]; exact h3⟩
section
variable {α : Type} [DecidableEq α] {g : Gr α} {s0 : α}
/-- the things that are passed, the first and the last one too -/
def nodes (g : Gr α) : α → List Nat → List α
  | s, [] => [s]
  | s, p :: w => s :: nodes g (g.nx s p) w
theorem nodes_len : ∀ (s : α) (w : List Nat), (nodes g s w).length = w.length + 1
  | _, [] => rfl
  | s, p :: w => by
    show (nodes g (g.nx s p) w).length + 1 = _
    rw [nodes_len, List.length_cons]
theorem nodes_at : ∀ (s : α) (w : List Nat) (i : Nat), i ≤ w.length → (nodes g s w)[i]? = some (en g s (w.take i))
  | _, [], 0, _ => rfl
  | _, [], i + 1, h => by simp at h
  | s, p :: w, 0, _ => rfl
  | s, p :: w, i + 1, h => by
    show (nodes g (g.nx s p) w)[i]? = _
    rw [nodes_at _ w i (by simpa using h)]
    rfl
theorem nodes_in (ok : Ok g s0) : ∀ {w : List Nat} {s : α}, s ∈ g.W → Wd g w → ∀ t ∈ nodes g s w, t ∈ g.W
  | [], s, h, _, t, ht => by
    rw [List.mem_singleton.mp ht]
    exact h
  | p :: w, s, h, hw, t, ht => by
    rcases List.mem_cons.mp ht with rfl | ht
    · exact h
    · exact nodes_in ok (w := w) (ok.cl s h p (hw p List.mem_cons_self)) (fun q hq => hw q (List.mem_cons_of_mem _ hq)) t ht
/-- a long walk goes round -/
theorem Ok.loop (ok : Ok g s0) {w : List Nat} {s : α} (h : s ∈ g.W) (hw : Wd g w) (hl : g.W.length ≤ w.length) : ∃ a b d, w = a ++ (b ++ d) ∧ b ≠ [] ∧ b.length ≤ g.W.length ∧ en g (en g s a) b = en g s a := by
  -- the first |W| edges alone
  have hw' : Wd g (w.take g.W.length) := fun p hp => hw p (List.mem_of_mem_take hp)
  have hn : ¬ (nodes g s (w.take g.W.length)).Nodup := fun nd => by
    have h1 := nodup_len nd (nodes_in ok h hw')
    rw [nodes_len, List.length_take] at h1
    omega
  obtain ⟨i, j, h1, h2, h3⟩ := dup_split hn
  rw [nodes_len, List.length_take] at h2
  have h4 := nodes_at (g := g) s (w.take g.W.length) i (by rw [List.length_take]; omega)
  have h5 := nodes_at (g := g) s (w.take g.W.length) j (by rw [List.length_take]; omega)
  rw [h4, h5, List.take_take, List.take_take, Nat.min_eq_left (by omega), Nat.min_eq_left (by omega)] at h3
  have h3 := Option.some.inj h3
  have e1 : w.take j = w.take i ++ (w.drop i).take (j - i) := by
    have e := List.take_append_drop i (w.take j)
    rw [List.take_take, Nat.min_eq_left (by omega), List.drop_take] at e
    exact e.symm
  refine ⟨w.take i, (w.drop i).take (j - i), (w.drop i).drop (j - i), by rw [List.take_append_drop, List.take_append_drop], fun z => ?_, ?_, ?_⟩
  · have := congrArg List.length z
    rw [List.length_take, List.length_drop, List.length_nil] at this
    omega
  · rw [List.length_take, List.length_drop]
    omega
  · rw [← en_app, ← e1]
    exact h3.symm
/-- A, L tell a greatest mean of the short rounds -/
structure Top (g : Gr α) (A L : Int) : Prop where
  l : 0 < L
  le : ∀ s ∈ g.W, ∀ b, Wd g b → b ≠ [] → b.length ≤ g.W.length → en g s b = s → co g s b * L ≤ A * b.length
/-- all rounds then -/
theorem Top.all (ok : Ok g s0) {A L : Int} (t : Top g A L) : ∀ (n : Nat) (b : List Nat) (s : α), b.length ≤ n → s ∈ g.W → Wd g b → en g s b = s → wt g A L s b ≤ 0
  | 0, b, s, hn, _, _, _ => by
    have : b = [] := List.length_eq_zero_iff.mp (by omega)
    subst this
    show 0 * L - A * (0 : Nat) ≤ 0
    simp
  | n + 1, b, s, hn, hs, hb, he => by
    by_cases z : b.length ≤ g.W.length
    · by_cases z2 : b = []
      · subst z2
        show 0 * L - A * (0 : Nat) ≤ 0
        simp
      · have := t.le s hs b hb z2 z he
        unfold wt
        omega
    · obtain ⟨x, y, d, rfl, h1, h2, h3⟩ := ok.loop hs hb (by omega)
      have hx := hb.left
      have hy := hb.right.left
      have hd := hb.right.right
      have hsx := ok.enW hs hx
      have w1 := t.all ok n y (en g s x) (by
        rw [List.length_append, List.length_append] at hn
        rw [List.length_append, List.length_append] at z
        omega) hsx hy h3
      have e2 : en g s (x ++ d) = s := by
        rw [en_app, en_app, h3] at he
        rw [en_app]
        exact he
      have hpos : 0 < y.length := List.length_pos_iff.mpr h1
      have w2 := t.all ok n (x ++ d) s (by
        rw [List.length_append, List.length_append] at hn
        rw [List.length_append]
        omega) hs (hx.app hd) e2
      rw [wt_app, wt_app, h3]
      rw [wt_app] at w2
      omega
/-- a walk may be made short without loss -/
theorem Top.short (ok : Ok g s0) {A L : Int} (t : Top g A L) : ∀ (n : Nat) (w : List Nat) (s : α), w.length ≤ n → s ∈ g.W → Wd g w → ∃ w', Wd g w' ∧ w'.length ≤ g.W.length ∧ en g s w' = en g s w ∧ wt g A L s w ≤ wt g A L s w'
  | 0, w, s, hn, _, hw => ⟨w, hw, by omega, rfl, Int.le_refl _⟩
  | n + 1, w, s, hn, hs, hw => by
    by_cases z : w.length ≤ g.W.length
    · exact ⟨w, hw, z, rfl, Int.le_refl _⟩
    · obtain ⟨x, y, d, rfl, h1, h2, h3⟩ := ok.loop hs hw (by omega)
      have hx := hw.left
      have hy := hw.right.left
      have hd := hw.right.right
      have w1 := t.all ok y.length y (en g s x) (Nat.le_refl _) (ok.enW hs hx) hy h3
      have hpos : 0 < y.length := List.length_pos_iff.mpr h1
      obtain ⟨w', q1, q2, q3, q4⟩ := t.short ok n (x ++ d) s (by
        rw [List.length_append, List.length_append] at hn
        rw [List.length_append]
        omega) hs (hx.app hd)
      refine ⟨w', q1, q2, ?_, ?_⟩
      · rw [q3, en_app, en_app, en_app, h3]
      · rw [wt_app, wt_app, h3]
        rw [wt_app] at q4
        omega
end
/-! finite searches -/
theorem max_int {β : Type} (f : β → Int) : ∀ {l : List β}, l ≠ [] → ∃ b ∈ l, ∀ x ∈ l, f x ≤ f b
  | [], h => absurd rfl h
  | [a], _ => ⟨a, by simp, fun x hx => by rw [List.mem_singleton.mp hx]; exact Int.le_refl _⟩
  | a :: b :: l, _ => by
    obtain ⟨m, h1, h2⟩ := max_int f (l := b :: l) (fun z => nomatch z)
    by_cases z : f a ≤ f m
    · exact ⟨m, List.mem_cons_of_mem _ h1, fun x hx => by
        rcases List.mem_cons.mp hx with rfl | hx
        · exact z
        · exact h2 x hx⟩
    · exact ⟨a, List.mem_cons_self, fun x hx => by
        rcases List.mem_cons.mp hx with rfl | hx
        · exact Int.le_refl _
        · have := h2 x hx
          omega⟩
theorem frac_trans {a b c : Int} {a' b' c' : Int} (hb : 0 < b') (hc : 0 < c') (ha : 0 < a') (h1 : a * b' ≤ b * a') (h2 : b * c' ≤ c * b') : a * c' ≤ c * a' := by
  have k1 := Int.mul_le_mul_of_nonneg_right h1 (Int.le_of_lt hc)
  have k2 := Int.mul_le_mul_of_nonneg_right h2 (Int.le_of_lt ha)
  have e1 : a * b' * c' = b' * (a * c') := by rw [Int.mul_comm a b', Int.mul_assoc]
  have e2 : b * a' * c' = b * c' * a' := by rw [Int.mul_assoc, Int.mul_assoc, Int.mul_comm a' c']
  have e3 : c * b' * a' = b' * (c * a') := by rw [Int.mul_comm c b', Int.mul_assoc]
  rw [e1, e2] at k1
  rw [e3] at k2
  exact Int.le_of_mul_le_mul_left (Int.le_trans k1 k2) hb
theorem max_frac {β : Type} (f : β → Int) (d : β → Int) : ∀ {l : List β}, l ≠ [] → (∀ x ∈ l, 0 < d x) → ∃ b ∈ l, ∀ x ∈ l, f x * d b ≤ f b * d x
  | [], h, _ => absurd rfl h
  | [a], _, _ => ⟨a, by simp, fun x hx => by rw [List.mem_singleton.mp hx]; exact Int.le_refl _⟩
  | a :: b :: l, _, hd => by
    obtain ⟨m, h1, h2⟩ := max_frac f d (l := b :: l) (fun z => nomatch z) fun x hx => hd x (List.mem_cons_of_mem _ hx)
    by_cases z : f a * d m ≤ f m * d a
    · exact ⟨m, List.mem_cons_of_mem _ h1, fun x hx => by
        rcases List.mem_cons.mp hx with rfl | hx
        · exact z
        · exact h2 x hx⟩
    · refine ⟨a, List.mem_cons_self, fun x hx => ?_⟩
      rcases List.mem_cons.mp hx with rfl | hx
      · exact Int.le_refl _
      · exact frac_trans (hd m (List.mem_cons_of_mem _ h1)) (hd a List.mem_cons_self) (hd x (List.mem_cons_of_mem _ hx)) (h2 x hx) (by omega)
def words (P : List Nat) : Nat → List (List Nat)
  | 0 => [[]]
  | n + 1 => (words P n).flatMap fun w => P.map fun p => p :: w
theorem mem_words {P : List Nat} : ∀ {n : Nat} {w : List Nat}, w ∈ words P n ↔ w.length = n ∧ ∀ p ∈ w, p ∈ P
  | 0, w => by
    constructor
    · intro h
      rw [List.mem_singleton.mp h]
      exact ⟨rfl, fun p hp => nomatch hp⟩
    · rintro ⟨h, _⟩
      rw [List.length_eq_zero_iff.mp h]
      exact List.mem_singleton.mpr rfl
  | n + 1, w => by
    constructor
    · intro h
      obtain ⟨v, hv, h⟩ := List.mem_flatMap.mp h
      obtain ⟨p, hp, rfl⟩ := List.mem_map.mp h
      obtain ⟨h1, h2⟩ := mem_words.mp hv
      refine ⟨by rw [List.length_cons, h1], fun q hq => ?_⟩
      rcases List.mem_cons.mp hq with rfl | hq
      · exact hp
      · exact h2 q hq
    · rintro ⟨h1, h2⟩
      cases w with
      | nil => cases h1
      | cons p v => exact List.mem_flatMap.mpr ⟨v, mem_words.mpr ⟨by simpa using h1, fun q hq => h2 q (List.mem_cons_of_mem _ hq)⟩, List.mem_map.mpr ⟨p, h2 p List.mem_cons_self, rfl⟩⟩
section
variable {α : Type} [DecidableEq α] {g : Gr α} {s0 : α}
/-- all words of at most so many edges -/
def upto (g : Gr α) (n : Nat) : List (List Nat) := (List.range (n + 1)).flatMap (words g.P)
theorem mem_upto {n : Nat} {w : List Nat} : w ∈ upto g n ↔ w.length ≤ n ∧ Wd g w := by
  unfold upto
  rw [List.mem_flatMap]
  constructor
  · rintro ⟨i, hi, hw⟩
    obtain ⟨h1, h2⟩ := mem_words.mp hw
    have := List.mem_range.mp hi
    exact ⟨by omega, h2⟩
  · rintro ⟨h1, h2⟩
    exact ⟨w.length, List.mem_range.mpr (by omega), mem_words.mpr ⟨rfl, h2⟩⟩
/-- there is a greatest mean, and a round that has it -/
theorem Ok.top (ok : Ok g s0) : ∃ (A L : Int) (u : α) (z : List Nat), Top g A L ∧ u ∈ g.W ∧ Wd g z ∧ z ≠ [] ∧ en g u z = u ∧ wt g A L u z = 0 ∧ 0 ≤ A := by
  obtain ⟨p0, hp0⟩ : ∃ p, p ∈ g.P := List.exists_mem_of_ne_nil _ ok.pne
  have hw0 : Wd g (List.replicate g.W.length p0) := fun p hp => by rw [List.eq_of_mem_replicate hp]; exact hp0
  obtain ⟨a, b, d, e, h1, h2, h3⟩ := ok.loop ok.st hw0 (by rw [List.length_replicate]; exact Nat.le_refl _)
  rw [e] at hw0
  let cand := (g.W.flatMap fun s => (upto g g.W.length).map fun w => (s, w)).filter fun x => decide (x.2 ≠ []) && decide (en g x.1 x.2 = x.1)
  have mem : ∀ {s : α} {w : List Nat}, (s, w) ∈ cand ↔ s ∈ g.W ∧ (w.length ≤ g.W.length ∧ Wd g w) ∧ w ≠ [] ∧ en g s w = s := fun {s w} => by
    show (s, w) ∈ List.filter _ _ ↔ _
    rw [List.mem_filter, List.mem_flatMap, Bool.and_eq_true, decide_eq_true_eq, decide_eq_true_eq]
    constructor
    · rintro ⟨⟨s', hs, hm⟩, k1, k2⟩
      obtain ⟨w', hw', ee⟩ := List.mem_map.mp hm
      cases ee
      exact ⟨hs, mem_upto.mp hw', k1, k2⟩
    · rintro ⟨hs, hw, k1, k2⟩
      exact ⟨⟨s, hs, List.mem_map.mpr ⟨w, mem_upto.mpr hw, rfl⟩⟩, k1, k2⟩
  have hne : cand ≠ [] := fun z => by
    have : (en g s0 a, b) ∈ cand := mem.mpr ⟨ok.enW ok.st hw0.left, ⟨h2, hw0.right.left⟩, h1, h3⟩
    rw [z] at this
    cases this
  obtain ⟨⟨u, z⟩, k1, k2⟩ := max_frac (fun x : α × List Nat => co g x.1 x.2) (fun x => (x.2.length : Int)) hne fun x hx => by
    obtain ⟨s, w⟩ := x
    have := (mem.mp hx).2.2.1
    have := List.length_pos_iff.mpr this
    show (0 : Int) < (w.length : Int)
    omega
  obtain ⟨q1, ⟨q2, q3⟩, q4, q5⟩ := mem.mp k1
  have hpos := List.length_pos_iff.mpr q4
  refine ⟨co g u z, z.length, u, z, ⟨by omega, fun s hs b hb hb0 hbl he => ?_⟩, q1, q3, q4, q5, ?_, ok.co0 q1 q3⟩
  · exact k2 (s, b) (mem.mpr ⟨hs, ⟨hbl, hb⟩, hb0, he⟩)
  · unfold wt
    omega
/-- what rows tell: the greatest cost of so many edges from the beginning -/
structure Row (g : Gr α) (s0 : α) (k : Nat) (R : List α) (D : α → Int) : Prop where
  mem : ∀ t, t ∈ R ↔ ∃ w, Wd g w ∧ w.length = k ∧ en g s0 w = t
  at_ : ∀ t ∈ R, ∃ w, Wd g w ∧ w.length = k ∧ en g s0 w = t ∧ co g s0 w = D t
  le : ∀ w, Wd g w → w.length = k → co g s0 w ≤ D (en g s0 w)
/-- no one's least mean is beyond -/
theorem karp_le (ok : Ok g s0) {A L : Int} (t : Top g A L) {R : Nat → List α} {D : Nat → α → Int} (hr : ∀ k, k ≤ g.W.length → Row g s0 k (R k) (D k)) {v : α} (hv : v ∈ R g.W.length) :
    ∃ k, k < g.W.length ∧ v ∈ R k ∧ (D g.W.length v - D k v) * L ≤ A * ((g.W.length : Int) - k) := by
  obtain ⟨w, h1, h2, h3, h4⟩ := (hr _ (Nat.le_refl _)).at_ v hv
  obtain ⟨a, b, d, rfl, k1, k2, k3⟩ := ok.loop ok.st h1 (by omega)
  have hpos := List.length_pos_iff.mpr k1
  have hb := h1.right.left
  have wb := t.le _ (ok.enW ok.st h1.left) b hb k1 k2 k3
  rw [List.length_append, List.length_append] at h2
  have hl : (a ++ d).length = g.W.length - b.length := by rw [List.length_append]; omega
  have e : en g s0 (a ++ d) = v := by
    rw [en_app, en_app, k3] at h3
    rw [en_app]
    exact h3
  have hk := hr (g.W.length - b.length) (by omega)
  refine ⟨g.W.length - b.length, by omega, (hk.mem v).mpr ⟨a ++ d, h1.left.app h1.right.right, hl, e⟩, ?_⟩
  have h5 := hk.le (a ++ d) (h1.left.app h1.right.right) hl
  rw [e] at h5
  rw [co_app, co_app, k3] at h4
  rw [co_app] at h5
  have h6 : D g.W.length v - D (g.W.length - b.length) v ≤ co g (en g s0 a) b := by omega
  have h7 := Int.mul_le_mul_of_nonneg_right h6 (Int.le_of_lt t.l)
  have h8 : ((g.W.length : Int) - ((g.W.length - b.length : Nat) : Int)) = (b.length : Int) := by omega
  rw [h8]
  omega
theorem rep_len (z : List Nat) : ∀ m : Nat, ((List.replicate m z).flatten).length = m * z.length
  | 0 => by simp
  | m + 1 => by rw [List.replicate_succ, List.flatten_cons, List.length_append, rep_len z m, Nat.succ_mul, Nat.add_comm]
theorem rep_wd {z : List Nat} (h : Wd g z) : ∀ m : Nat, Wd g (List.replicate m z).flatten
  | 0 => fun p hp => by cases hp
  | m + 1 => by
    rw [List.replicate_succ, List.flatten_cons]
    exact h.app (rep_wd h m)
theorem rep_en {z : List Nat} {u : α} (h : en g u z = u) : ∀ m : Nat, en g u (List.replicate m z).flatten = u
  | 0 => rfl
  | m + 1 => by rw [List.replicate_succ, List.flatten_cons, en_app, h, rep_en h m]
theorem rep_wt {z : List Nat} {u : α} {A L : Int} (h : en g u z = u) (h0 : wt g A L u z = 0) : ∀ m : Nat, wt g A L u (List.replicate m z).flatten = 0
  | 0 => by show 0 * L - A * (0 : Nat) = 0; simp
  | m + 1 => by rw [List.replicate_succ, List.flatten_cons, wt_app, h, h0, rep_wt h h0 m]; rfl
/-- someone's is not below -/
theorem karp_ge (ok : Ok g s0) {A L : Int} (t : Top g A L) {u : α} {z : List Nat} (hu : u ∈ g.W) (hz : Wd g z) (hz0 : z ≠ []) (he : en g u z = u) (h0 : wt g A L u z = 0) {R : Nat → List α} {D : Nat → α → Int} (hr : ∀ k, k ≤ g.W.length → Row g s0 k (R k) (D k)) :
    ∃ v ∈ R g.W.length, ∀ k, k ≤ g.W.length → v ∈ R k → A * ((g.W.length : Int) - k) ≤ (D g.W.length v - D k v) * L := by
  -- the best way to u
  have hne : (upto g g.W.length).filter (fun w => decide (en g s0 w = u)) ≠ [] := fun q => by
    obtain ⟨w, h1, h2⟩ := ok.rch u hu
    obtain ⟨w', k1, k2, k3, _⟩ := t.short ok w.length w s0 (Nat.le_refl _) ok.st h1
    have : w' ∈ (upto g g.W.length).filter (fun w => decide (en g s0 w = u)) := List.mem_filter.mpr ⟨mem_upto.mpr ⟨k2, k1⟩, by rw [decide_eq_true_eq, k3, h2]⟩
    rw [q] at this
    cases this
  obtain ⟨x, hx, hmax⟩ := max_int (wt g A L s0) hne
  obtain ⟨hx1, hx2⟩ := List.mem_filter.mp hx
  obtain ⟨xl, xw⟩ := mem_upto.mp hx1
  have xe : en g s0 x = u := by simpa using hx2
  have best : ∀ w, Wd g w → en g s0 w = u → wt g A L s0 w ≤ wt g A L s0 x := fun w h1 h2 => by
    obtain ⟨w', k1, k2, k3, k4⟩ := t.short ok w.length w s0 (Nat.le_refl _) ok.st h1
    have := hmax w' (List.mem_filter.mpr ⟨mem_upto.mpr ⟨k2, k1⟩, by rw [decide_eq_true_eq, k3, h2]⟩)
    omega
  -- round and round to the length
  have hzl := List.length_pos_iff.mpr hz0
  let zz := (List.replicate g.W.length z).flatten
  have zzl : g.W.length ≤ zz.length := by
    show _ ≤ ((List.replicate g.W.length z).flatten).length
    rw [rep_len]
    exact Nat.le_mul_of_pos_right _ hzl
  let pre := zz.take (g.W.length - x.length)
  let r := zz.drop (g.W.length - x.length)
  have split : pre ++ r = zz := List.take_append_drop _ _
  have zw : Wd g (pre ++ r) := by rw [split]; exact rep_wd hz _
  have ze : en g u (pre ++ r) = u := by rw [split]; exact rep_en he _
  have z0 : wt g A L u (pre ++ r) = 0 := by rw [split]; exact rep_wt he h0 _
  have prel : pre.length = g.W.length - x.length := by
    show (zz.take _).length = _
    rw [List.length_take]
    omega
  have yl : (x ++ pre).length = g.W.length := by rw [List.length_append, prel]; omega
  have yw : Wd g (x ++ pre) := xw.app zw.left
  have rn := hr _ (Nat.le_refl g.W.length)
  have hv : en g s0 (x ++ pre) ∈ R g.W.length := (rn.mem _).mpr ⟨_, yw, yl, rfl⟩
  refine ⟨_, hv, fun k hk hvk => ?_⟩
  obtain ⟨w2, a1, a2, a3, a4⟩ := (hr k hk).at_ _ hvk
  have b1 := rn.le _ yw yl
  -- w2, then the rest of the rounds
  have e2 : en g s0 (w2 ++ r) = u := by
    rw [en_app, a3, ← en_app, List.append_assoc, en_app, xe]
    exact ze
  have b2 := best (w2 ++ r) (a1.app zw.right) e2
  rw [wt_app, a3] at b2
  have e3 : en g s0 (x ++ pre) = en g u pre := by rw [en_app, xe]
  rw [e3] at b2
  rw [wt_app] at z0
  have b3 : wt g A L s0 w2 ≤ wt g A L s0 (x ++ pre) := by
    rw [wt_app, xe]
    omega
  unfold wt at b3
  rw [a2, yl, a4] at b3
  have b4 := Int.mul_le_mul_of_nonneg_right b1 (Int.le_of_lt t.l)
  rw [Int.sub_mul, Int.mul_sub]
  omega
end
end Kp
namespace Kp
/-! ### what the greatest mean gives: heights, tight edges, a round -/
section
variable {α : Type} [DecidableEq α] {g : Gr α} {s0 : α}
/-- a pair (costs, edges) that is the least mean at v -/
structure Least (n : Nat) (R : Nat → List α) (D : Nat → α → Int) (v : α) (m : Int × Int) : Prop where
  pos : 0 < m.2
  at_ : ∃ k, k < n ∧ v ∈ R k ∧ m.1 = D n v - D k v ∧ m.2 = (n : Int) - k
  le : ∀ k, k < n → v ∈ R k → m.1 * ((n : Int) - k) ≤ (D n v - D k v) * m.2
structure Best (n : Nat) (R : Nat → List α) (D : Nat → α → Int) (m : Int × Int) : Prop where
  pos : 0 < m.2
  le : ∀ v ∈ R n, ∀ x, Least n R D v x → x.1 * m.2 ≤ m.1 * x.2
  at_ : m = (0, 1) ∨ ∃ v ∈ R n, Least n R D v m
/-- p / q is the greatest mean: no round has a greater one, one has it -/
structure Mean (g : Gr α) (p q : Int) : Prop where
  top : Top g p q
  rnd : ∃ (u : α) (z : List Nat), u ∈ g.W ∧ Wd g z ∧ z ≠ [] ∧ en g u z = u ∧ wt g p q u z = 0
theorem Top.scale {A L p q : Int} (t : Top g A L) (hq : 0 < q) (e : p * L = A * q) : Top g p q := by
  refine ⟨hq, fun s hs b hb h0 hl he => ?_⟩
  have h := t.le s hs b hb h0 hl he
  have h1 := Int.mul_le_mul_of_nonneg_right h (Int.le_of_lt hq)
  have e1 : co g s b * L * q = L * (co g s b * q) := by rw [Int.mul_comm (co g s b) L, Int.mul_assoc]
  have e2 : A * (b.length : Int) * q = L * (p * (b.length : Int)) := by
    rw [Int.mul_assoc, Int.mul_comm (b.length : Int) q, ← Int.mul_assoc, ← e, Int.mul_comm p L, Int.mul_assoc]
  rw [e1, e2] at h1
  exact Int.le_of_mul_le_mul_left h1 t.l
theorem wt_scale {A L p q : Int} {s : α} {w : List Nat} (hL : 0 < L) (e : p * L = A * q) (h : wt g A L s w = 0) : wt g p q s w = 0 := by
  unfold wt at h ⊢
  have h : co g s w * L = A * (w.length : Int) := by omega
  have h1 : L * (co g s w * q) = L * (p * (w.length : Int)) := by
    have e1 : L * (co g s w * q) = co g s w * L * q := by rw [Int.mul_comm (co g s w) L, Int.mul_assoc]
    rw [e1, h, Int.mul_assoc, Int.mul_comm (w.length : Int) q, ← Int.mul_assoc, ← e, Int.mul_comm p L, Int.mul_assoc]
  have := Int.eq_of_mul_eq_mul_left (Int.ne_of_gt hL) h1
  omega
theorem karp (ok : Ok g s0) {R : Nat → List α} {D : Nat → α → Int} (hr : ∀ k, k ≤ g.W.length → Row g s0 k (R k) (D k)) {m : Int × Int} (hb : Best g.W.length R D m)
    (ex : ∀ v ∈ R g.W.length, (∃ k, k < g.W.length ∧ v ∈ R k) → ∃ x, Least g.W.length R D v x) {p q : Int} (hq : 0 < q) (e : p * m.2 = m.1 * q) : Mean g p q := by
  obtain ⟨A, L, u, z, t, hu, hz, hz0, he, h0, hA⟩ := ok.top
  obtain ⟨v, hv, hge⟩ := karp_ge ok t hu hz hz0 he h0 hr
  obtain ⟨k1, hk1, hvk1, hle1⟩ := karp_le ok t hr hv
  obtain ⟨x, hx⟩ := ex v hv ⟨k1, hk1, hvk1⟩
  -- x is at least A / L
  have hxge : A * x.2 ≤ x.1 * L := by
    obtain ⟨k, hk, hvk, e1, e2⟩ := hx.at_
    have := hge k (by omega) hvk
    rw [e1, e2]
    exact this
  have hbx := hb.le v hv x hx
  -- so the best one is
  have hbge : A * m.2 ≤ m.1 * L := frac_trans (b := x.1) (b' := x.2) hx.pos hb.pos t.l (by exact hxge) hbx
  -- and at most
  have hble : m.1 * L ≤ A * m.2 := by
    rcases hb.at_ with h | ⟨v2, hv2, hl⟩
    · rw [h]
      show 0 * L ≤ A * 1
      omega
    · obtain ⟨k2, hk2, hvk2, hle2⟩ := karp_le ok t hr hv2
      have h1 := hl.le k2 hk2 hvk2
      exact frac_trans (a' := m.2) (b := D g.W.length v2 - D k2 v2) (b' := (g.W.length : Int) - k2) (by omega) t.l hl.pos h1 hle2
  have eq1 : m.1 * L = A * m.2 := Int.le_antisymm hble hbge
  have e3 : p * L = A * q := by
    have h1 : m.2 * (p * L) = m.2 * (A * q) := by
      rw [← Int.mul_assoc, Int.mul_comm m.2 p, e, Int.mul_assoc, Int.mul_comm q L, ← Int.mul_assoc, eq1, Int.mul_comm A m.2, Int.mul_assoc]
    exact Int.eq_of_mul_eq_mul_left (Int.ne_of_gt hb.pos) h1
  exact ⟨t.scale hq e3, u, z, hu, hz, hz0, he, wt_scale t.l e3 h0⟩
/-! heights -/
def wt1 (g : Gr α) (p q : Int) (s : α) (j : Nat) : Int := g.c s j * q - p
theorem wt_cons (p q : Int) (s : α) (j : Nat) (w : List Nat) : wt g p q s (j :: w) = wt1 g p q s j + wt g p q (g.nx s j) w := by
  unfold wt wt1
  show (g.c s j + co g (g.nx s j) w) * q - p * ((w.length + 1 : Nat) : Int) = _
  rw [Int.add_mul, Int.natCast_add, Int.mul_add]
  show _ - (p * _ + p * 1) = _
  omega
theorem wt_nil (p q : Int) (s : α) : wt g p q s [] = 0 := by
  show 0 * q - p * (0 : Nat) = 0
  simp
/-- no walk is beyond a bound -/
theorem Top.bound (ok : Ok g s0) {p q : Int} (t : Top g p q) : ∃ B : Int, 0 ≤ B ∧ ∀ s ∈ g.W, ∀ w, Wd g w → wt g p q s w ≤ B := by
  have hne : (g.W.flatMap fun s => (upto g g.W.length).map fun w => (s, w)) ≠ [] := fun z => by
    have : (s0, ([] : List Nat)) ∈ g.W.flatMap fun s => (upto g g.W.length).map fun w => (s, w) :=
      List.mem_flatMap.mpr ⟨s0, ok.st, List.mem_map.mpr ⟨[], mem_upto.mpr ⟨Nat.zero_le _, fun p hp => nomatch hp⟩, rfl⟩⟩
    rw [z] at this
    cases this
  obtain ⟨⟨s1, w1⟩, _, h2⟩ := max_int (fun x : α × List Nat => wt g p q x.1 x.2) hne
  have key : ∀ s ∈ g.W, ∀ w, Wd g w → w.length ≤ g.W.length → wt g p q s w ≤ wt g p q s1 w1 := fun s hs w hw hl =>
    h2 (s, w) (List.mem_flatMap.mpr ⟨s, hs, List.mem_map.mpr ⟨w, mem_upto.mpr ⟨hl, hw⟩, rfl⟩⟩)
  refine ⟨wt g p q s1 w1, ?_, fun s hs w hw => ?_⟩
  · have := key s0 ok.st [] (fun p hp => nomatch hp) (Nat.zero_le _)
    rwa [wt_nil] at this
  · obtain ⟨w', k1, k2, _, k4⟩ := t.short ok w.length w s (Nat.le_refl _) hs hw
    have := key s hs w' k1 k2
    omega
/-- each height is what some walk weighs -/
def HInv (g : Gr α) (p q : Int) (h : α → Int) : Prop := ∀ s ∈ g.W, ∃ w, Wd g w ∧ wt g p q s w = h s
/-- no edge goes beyond -/
def Fix (g : Gr α) (p q : Int) (h : α → Int) : Prop := ∀ s ∈ g.W, ∀ j ∈ g.P, wt1 g p q s j + h (g.nx s j) ≤ h s
def up (h : α → Int) (s : α) (x : Int) : α → Int := fun t => if t = s then x else h t
theorem HInv.zero {p q : Int} : HInv g p q fun _ => 0 := fun s _ => ⟨[], (fun p hp => nomatch hp), wt_nil p q s⟩
theorem HInv.up (ok : Ok g s0) {p q : Int} {h : α → Int} (i : HInv g p q h) {s : α} {j : Nat} (hs : s ∈ g.W) (hj : j ∈ g.P) : HInv g p q (up h s (wt1 g p q s j + h (g.nx s j))) := fun t ht => by
  unfold Kp.up
  by_cases e : t = s
  · subst e
    obtain ⟨w, h1, h2⟩ := i (g.nx t j) (ok.cl t hs j hj)
    refine ⟨j :: w, fun x hx => ?_, by rw [if_pos rfl, wt_cons, h2]⟩
    rcases List.mem_cons.mp hx with rfl | hx
    · exact hj
    · exact h1 x hx
  · rw [if_neg e]
    exact i t ht
/-- how much is left to be raised -/
def room (W : List α) (B : Int) (h : α → Int) : Nat := (W.map fun s => (B - h s).toNat).sum
theorem room_up {B : Int} {h : α → Int} {s : α} {x : Int} : ∀ {W : List α}, W.Nodup → s ∈ W → h s < x → x ≤ B → room W B (up h s x) < room W B h
  | [], _, hs, _, _ => nomatch hs
  | t :: W, nd, hs, h1, h2 => by
    obtain ⟨hn, nd'⟩ := List.nodup_cons.mp nd
    have same : ∀ {V : List α}, s ∉ V → room V B (up h s x) = room V B h := fun {V} hv => by
      unfold room
      refine congrArg List.sum (List.map_congr_left fun y hy => ?_)
      unfold Kp.up
      rw [if_neg (fun z : y = s => hv (by rw [← z]; exact hy))]
    show ((B - up h s x t).toNat + room W B (up h s x)) < (B - h t).toNat + room W B h
    rcases List.mem_cons.mp hs with rfl | hs
    · rw [same hn]
      unfold Kp.up
      rw [if_pos rfl]
      omega
    · have ih := room_up nd' hs h1 h2
      have : up h s x t = h t := by
        unfold Kp.up
        exact if_neg fun z : t = s => hn (by rw [z]; exact hs)
      rw [this]
      omega
theorem Fix.walk {p q : Int} {h : α → Int} (ok : Ok g s0) (f : Fix g p q h) : ∀ {w : List Nat} {s : α}, s ∈ g.W → Wd g w → wt g p q s w + h (en g s w) ≤ h s
  | [], s, _, _ => by
    rw [wt_nil]
    show 0 + h s ≤ h s
    omega
  | j :: w, s, hs, hw => by
    have h1 := f s hs j (hw j List.mem_cons_self)
    have h2 := f.walk ok (w := w) (ok.cl s hs j (hw j List.mem_cons_self)) fun x hx => hw x (List.mem_cons_of_mem _ hx)
    rw [wt_cons]
    show wt1 g p q s j + wt g p q (g.nx s j) w + h (en g (g.nx s j) w) ≤ h s
    omega
/-- the edges of a walk -/
def edges (g : Gr α) : α → List Nat → List (α × Nat)
  | _, [] => []
  | s, j :: w => (s, j) :: edges g (g.nx s j) w
def Tight (g : Gr α) (p q : Int) (h : α → Int) (s : α) (j : Nat) : Prop := wt1 g p q s j + h (g.nx s j) = h s
theorem edges_in (ok : Ok g s0) : ∀ {w : List Nat} {s : α}, s ∈ g.W → Wd g w → ∀ e ∈ edges g s w, e.1 ∈ g.W ∧ e.2 ∈ g.P
  | [], _, _, _, e, he => nomatch he
  | j :: w, s, hs, hw, e, he => by
    rcases List.mem_cons.mp he with rfl | he
    · exact ⟨hs, hw j List.mem_cons_self⟩
    · exact edges_in ok (w := w) (ok.cl s hs j (hw j List.mem_cons_self)) (fun x hx => hw x (List.mem_cons_of_mem _ hx)) e he
theorem Fix.tight {p q : Int} {h : α → Int} (ok : Ok g s0) (f : Fix g p q h) : ∀ {w : List Nat} {s : α}, s ∈ g.W → Wd g w → wt g p q s w + h (en g s w) = h s → ∀ e ∈ edges g s w, Tight g p q h e.1 e.2
  | [], _, _, _, _, e, he => nomatch he
  | j :: w, s, hs, hw, hz, e, he => by
    have h1 := f s hs j (hw j List.mem_cons_self)
    have hs2 := ok.cl s hs j (hw j List.mem_cons_self)
    have hw2 : Wd g w := fun x hx => hw x (List.mem_cons_of_mem _ hx)
    have h2 := f.walk ok hs2 hw2
    rw [wt_cons] at hz
    have hz : wt1 g p q s j + wt g p q (g.nx s j) w + h (en g (g.nx s j) w) = h s := hz
    rcases List.mem_cons.mp he with rfl | he
    · show wt1 g p q s j + h (g.nx s j) = h s
      omega
    · exact f.tight ok hs2 hw2 (by omega) e he
/-- each edge of a round is followed by another one -/
theorem edges_next : ∀ {w : List Nat} {s : α} {e : α × Nat}, e ∈ edges g s w → (∃ e' ∈ edges g s w, e'.1 = g.nx e.1 e.2) ∨ en g s w = g.nx e.1 e.2
  | [], _, _, he => nomatch he
  | [j], s, e, he => by
    rw [List.mem_singleton.mp he]
    exact .inr rfl
  | j :: j2 :: w, s, e, he => by
    rcases List.mem_cons.mp he with rfl | he
    · exact .inl ⟨(g.nx s j, j2), List.mem_cons_of_mem _ List.mem_cons_self, rfl⟩
    · rcases edges_next (w := j2 :: w) he with ⟨e', h1, h2⟩ | h
      · exact .inl ⟨e', List.mem_cons_of_mem _ h1, h2⟩
      · exact .inr h
/-- edges that go on for ever among themselves -/
structure Ring (g : Gr α) (E : List (α × Nat)) : Prop where
  ne : E ≠ []
  on : ∀ e ∈ E, ∃ e' ∈ E, e'.1 = g.nx e.1 e.2
theorem ring_of {u : α} {z : List Nat} (h0 : z ≠ []) (he : en g u z = u) : Ring g (edges g u z) := by
  cases z with
  | nil => exact absurd rfl h0
  | cons j w =>
    refine ⟨List.cons_ne_nil _ _, fun e hm => ?_⟩
    rcases edges_next hm with h | h
    · exact h
    · rw [he] at h
      exact ⟨(u, j), List.mem_cons_self, h⟩
/-- the places hold the ring's edges -/
def Inside (E : List (α × Nat)) (pl : α → List Nat) : Prop := ∀ e ∈ E, e.2 ∈ pl e.1
theorem Inside.step {E : List (α × Nat)} {pl : α → List Nat} (r : Ring g E) (h : Inside E pl) (s : α) : Inside E (fun t => if t = s then (pl s).filter fun j => decide (pl (g.nx s j) ≠ []) else pl t) := fun e he => by
  show e.2 ∈ if e.1 = s then _ else _
  by_cases z : e.1 = s
  · rw [if_pos z, List.mem_filter, decide_eq_true_eq, ← z]
    refine ⟨h e he, fun q => ?_⟩
    obtain ⟨e', h1, h2⟩ := r.on e he
    have := h e' h1
    rw [h2, q] at this
    cases this
  · rw [if_neg z]
    exact h e he
end
end Kp
namespace Kp
/-! ### rows, edge by edge -/
section
variable {α : Type} [DecidableEq α] {g : Gr α} {s0 : α}
/-- a row in the making: the edges E have been looked at -/
structure PRow (g : Gr α) (D : α → Int) (E : List (α × Nat)) (R : List α) (D' : α → Int) : Prop where
  nd : R.Nodup
  mem : ∀ t, t ∈ R ↔ ∃ e ∈ E, g.nx e.1 e.2 = t
  at_ : ∀ t ∈ R, ∃ e ∈ E, g.nx e.1 e.2 = t ∧ D e.1 + g.c e.1 e.2 = D' t
  le : ∀ e ∈ E, D e.1 + g.c e.1 e.2 ≤ D' (g.nx e.1 e.2)
theorem PRow.nil {D D' : α → Int} : PRow g D [] [] D' := ⟨List.nodup_nil, fun t => ⟨fun h => (nomatch h), fun ⟨e, h, _⟩ => (nomatch h)⟩, fun t h => (nomatch h), fun e h => (nomatch h)⟩
def addR (R : List α) (t : α) : List α := if t ∈ R then R else R ++ [t]
def bigR (R : List α) (D' : α → Int) (t : α) (x : Int) : Int := max (if t ∈ R then D' t else 0) x
theorem PRow.snoc {D : α → Int} {E : List (α × Nat)} {R : List α} {D' : α → Int} (h : PRow g D E R D') (s : α) (j : Nat) (h0 : 0 ≤ D s + g.c s j) :
    PRow g D (E ++ [(s, j)]) (addR R (g.nx s j)) (up D' (g.nx s j) (bigR R D' (g.nx s j) (D s + g.c s j))) := by
  have hmem : ∀ t, t ∈ addR R (g.nx s j) ↔ t ∈ R ∨ t = g.nx s j := fun t => by
    unfold addR
    by_cases z : g.nx s j ∈ R
    · rw [if_pos z]
      exact ⟨.inl, fun h => h.elim id fun e => e ▸ z⟩
    · rw [if_neg z, List.mem_append, List.mem_singleton]
  refine ⟨?_, fun t => ?_, fun t ht => ?_, fun e he => ?_⟩
  · unfold addR
    by_cases z : g.nx s j ∈ R
    · rw [if_pos z]
      exact h.nd
    · rw [if_neg z]
      exact List.nodup_append.mpr ⟨h.nd, List.nodup_cons.mpr ⟨by simp, List.nodup_nil⟩, fun a ha b hb q => z (by rw [List.mem_singleton.mp hb] at q; rw [← q]; exact ha)⟩
  · rw [hmem, h.mem]
    constructor
    · rintro (⟨e, h1, h2⟩ | rfl)
      · exact ⟨e, List.mem_append_left _ h1, h2⟩
      · exact ⟨(s, j), List.mem_append_right _ (by simp), rfl⟩
    · rintro ⟨e, h1, h2⟩
      rcases List.mem_append.mp h1 with h1 | h1
      · exact .inl ⟨e, h1, h2⟩
      · rw [List.mem_singleton.mp h1] at h2
        exact .inr h2.symm
  · by_cases z : t = g.nx s j
    · subst z
      unfold up bigR
      rw [if_pos rfl]
      by_cases z : g.nx s j ∈ R
      · rw [if_pos z]
        obtain ⟨e, e1, e2, e3⟩ := h.at_ _ z
        by_cases q : D s + g.c s j ≤ D' (g.nx s j)
        · exact ⟨e, List.mem_append_left _ e1, e2, by rw [e3]; omega⟩
        · exact ⟨(s, j), List.mem_append_right _ (by simp), rfl, by show D s + g.c s j = _; omega⟩
      · rw [if_neg z]
        exact ⟨(s, j), List.mem_append_right _ (by simp), rfl, by show D s + g.c s j = _; omega⟩
    · have hR := ((hmem t).mp ht).resolve_right z
      obtain ⟨e, e1, e2, e3⟩ := h.at_ _ hR
      refine ⟨e, List.mem_append_left _ e1, e2, ?_⟩
      unfold up
      rw [if_neg z]
      exact e3
  · unfold up bigR
    rcases List.mem_append.mp he with he | he
    · have h1 := h.le e he
      by_cases z : g.nx e.1 e.2 = g.nx s j
      · have hin : g.nx s j ∈ R := (h.mem _).mpr ⟨e, he, z⟩
        rw [if_pos z, if_pos hin]
        rw [z] at h1
        omega
      · rw [if_neg z]
        exact h1
    · rw [List.mem_singleton.mp he]
      show D s + g.c s j ≤ if g.nx s j = g.nx s j then _ else _
      rw [if_pos rfl]
      omega
def allE (g : Gr α) (R : List α) : List (α × Nat) := R.flatMap fun s => g.P.map fun j => (s, j)
theorem mem_allE {R : List α} {e : α × Nat} : e ∈ allE g R ↔ e.1 ∈ R ∧ e.2 ∈ g.P := by
  unfold allE
  rw [List.mem_flatMap]
  constructor
  · rintro ⟨s, hs, h⟩
    obtain ⟨j, hj, rfl⟩ := List.mem_map.mp h
    exact ⟨hs, hj⟩
  · rintro ⟨h1, h2⟩
    exact ⟨e.1, h1, List.mem_map.mpr ⟨e.2, h2, rfl⟩⟩
theorem Row.zero : Row g s0 0 [s0] fun _ => 0 := by
  refine ⟨fun t => ⟨fun h => ⟨[], (fun p hp => nomatch hp), rfl, (List.mem_singleton.mp h).symm⟩, ?_⟩, fun t h => ⟨[], (fun p hp => nomatch hp), rfl, (List.mem_singleton.mp h).symm, rfl⟩, fun w _ hl => ?_⟩
  · rintro ⟨w, _, hl, he⟩
    rw [List.length_eq_zero_iff.mp hl] at he
    rw [← he]
    exact List.mem_singleton.mpr rfl
  · rw [List.length_eq_zero_iff.mp hl]
    exact Int.le_refl _
theorem Row.next {i : Nat} {R R' : List α} {D D' : α → Int} (r : Row g s0 i R D) (p : PRow g D (allE g R) R' D') : Row g s0 (i + 1) R' D' := by
  have snoc : ∀ {w : List Nat}, Wd g w → w.length = i + 1 → ∃ v j, w = v ++ [j] ∧ Wd g v ∧ v.length = i ∧ j ∈ g.P := fun {w} hw hl => by
    rcases List.eq_nil_or_concat w with rfl | ⟨v, j, rfl⟩
    · cases hl
    · rw [List.concat_eq_append] at hw hl ⊢
      rw [List.length_append] at hl
      exact ⟨v, j, rfl, hw.left, by simpa using hl, hw j (by simp)⟩
  have one : ∀ (s : α) (j : Nat), en g s [j] = g.nx s j ∧ co g s [j] = g.c s j := fun s j => ⟨rfl, by show g.c s j + 0 = _; omega⟩
  have wd1 : ∀ {j : Nat}, j ∈ g.P → Wd g [j] := fun {j} hj q hq => by rw [List.mem_singleton.mp hq]; exact hj
  refine ⟨fun t => ?_, fun t ht => ?_, fun w hw hl => ?_⟩
  · rw [p.mem]
    constructor
    · rintro ⟨e, he, rfl⟩
      obtain ⟨h1, h2⟩ := mem_allE.mp he
      obtain ⟨w, a1, a2, a3⟩ := (r.mem _).mp h1
      exact ⟨w ++ [e.2], a1.app (wd1 h2), by rw [List.length_append, a2]; rfl, by rw [en_app, a3]; rfl⟩
    · rintro ⟨w, hw, hl, he⟩
      obtain ⟨v, j, rfl, hv, hvl, hj⟩ := snoc hw hl
      exact ⟨(en g s0 v, j), mem_allE.mpr ⟨(r.mem _).mpr ⟨v, hv, hvl, rfl⟩, hj⟩, by rw [en_app] at he; exact he⟩
  · obtain ⟨e, he, e1, e2⟩ := p.at_ t ht
    obtain ⟨h1, h2⟩ := mem_allE.mp he
    obtain ⟨w, a1, a2, a3, a4⟩ := r.at_ _ h1
    refine ⟨w ++ [e.2], a1.app (wd1 h2), by rw [List.length_append, a2]; rfl, by rw [en_app, a3]; exact e1, ?_⟩
    rw [co_app, a3, a4, (one _ _).2]
    exact e2
  · obtain ⟨v, j, rfl, hv, hvl, hj⟩ := snoc hw hl
    have h1 := r.le v hv hvl
    have h2 := p.le (en g s0 v, j) (mem_allE.mpr ⟨(r.mem _).mpr ⟨v, hv, hvl, rfl⟩, hj⟩)
    rw [co_app, en_app, (one _ _).2]
    show _ ≤ D' (g.nx (en g s0 v) j)
    have h2 : D (en g s0 v) + g.c (en g s0 v) j ≤ D' (g.nx (en g s0 v) j) := h2
    omega
theorem Row.nonneg (ok : Ok g s0) {i : Nat} {R : List α} {D : α → Int} (r : Row g s0 i R D) {t : α} (h : t ∈ R) : 0 ≤ D t ∧ t ∈ g.W := by
  obtain ⟨w, a1, a2, a3, a4⟩ := r.at_ t h
  rw [← a4, ← a3]
  exact ⟨ok.co0 ok.st a1, ok.enW ok.st a1⟩
/-! least means, one after the other -/
theorem Least.first {n k : Nat} {R : Nat → List α} {D : Nat → α → Int} {v : α} : True := trivial
/-- looked at the first K rows: none held v, or m is the least -/
structure Found (n K : Nat) (R : Nat → List α) (D : Nat → α → Int) (v : α) (m : Int × Int) : Prop where
  pos : 0 < m.2
  at_ : ∃ k, k < K ∧ v ∈ R k ∧ m.1 = D n v - D k v ∧ m.2 = (n : Int) - k
  le : ∀ k, k < K → v ∈ R k → m.1 * ((n : Int) - k) ≤ (D n v - D k v) * m.2
theorem Found.least {n : Nat} {R : Nat → List α} {D : Nat → α → Int} {v : α} {m : Int × Int} (f : Found n n R D v m) : Least n R D v m := ⟨f.pos, f.at_, f.le⟩
theorem Found.skip {n K : Nat} {R : Nat → List α} {D : Nat → α → Int} {v : α} {m : Int × Int} (f : Found n K R D v m) (h : v ∉ R K) : Found n (K + 1) R D v m :=
  ⟨f.pos, let ⟨k, h1, h2⟩ := f.at_; ⟨k, by omega, h2⟩, fun k hk hv => by
    by_cases e : k = K
    · subst e
      exact absurd hv h
    · exact f.le k (by omega) hv⟩
theorem Found.keep {n K : Nat} {R : Nat → List α} {D : Nat → α → Int} {v : α} {m : Int × Int} (f : Found n K R D v m) (h : m.1 * ((n : Int) - K) ≤ (D n v - D K v) * m.2) : Found n (K + 1) R D v m :=
  ⟨f.pos, let ⟨k, h1, h2⟩ := f.at_; ⟨k, by omega, h2⟩, fun k hk hv => by
    by_cases e : k = K
    · subst e
      exact h
    · exact f.le k (by omega) hv⟩
theorem Found.take {n K : Nat} {R : Nat → List α} {D : Nat → α → Int} {v : α} (hK : K < n) (hv : v ∈ R K) (h : ∀ k, k < K → v ∈ R k → (D n v - D K v) * ((n : Int) - k) ≤ (D n v - D k v) * ((n : Int) - K)) : Found n (K + 1) R D v (D n v - D K v, (n : Int) - K) :=
  ⟨by show (0 : Int) < (n : Int) - K; omega, ⟨K, by omega, hv, rfl, rfl⟩, fun k hk hvk => by
    by_cases e : k = K
    · subst e
      exact Int.le_refl _
    · exact h k (by omega) hvk⟩
theorem Found.better {n K : Nat} {R : Nat → List α} {D : Nat → α → Int} {v : α} {m : Int × Int} (f : Found n K R D v m) (hn : K < n) (hv : v ∈ R K) (h : (D n v - D K v) * m.2 < m.1 * ((n : Int) - K)) : Found n (K + 1) R D v (D n v - D K v, (n : Int) - K) := by
  refine .take hn hv fun k hk hvk => ?_
  exact frac_trans (b := m.1) (b' := m.2) f.pos (by omega) (by omega) (Int.le_of_lt h) (f.le k hk hvk)
end
end Kp
namespace Kp
section
variable {α : Type} [DecidableEq α] {g : Gr α} {s0 : α}
theorem Ok.co_le (ok : Ok g s0) {M : Int} (h : ∀ s ∈ g.W, ∀ p ∈ g.P, g.c s p ≤ M) : ∀ {w : List Nat} {s : α}, s ∈ g.W → Wd g w → co g s w ≤ M * w.length
  | [], s, _, _ => by
    show (0 : Int) ≤ M * (0 : Nat)
    simp
  | p :: w, s, hs, hw => by
    have h1 := h s hs p (hw p List.mem_cons_self)
    have h2 := ok.co_le h (w := w) (ok.cl s hs p (hw p List.mem_cons_self)) fun q hq => hw q (List.mem_cons_of_mem _ hq)
    show g.c s p + co g (g.nx s p) w ≤ M * ((w.length + 1 : Nat) : Int)
    rw [Int.natCast_add, Int.mul_add]
    show _ ≤ M * (w.length : Int) + M * 1
    omega
theorem Row.le_bd (ok : Ok g s0) {M : Int} (h : ∀ s ∈ g.W, ∀ p ∈ g.P, g.c s p ≤ M) {i : Nat} {R : List α} {D : α → Int} (r : Row g s0 i R D) {t : α} (ht : t ∈ R) : D t ≤ M * i := by
  obtain ⟨w, a1, a2, a3, a4⟩ := r.at_ t ht
  rw [← a4, ← a2]
  exact ok.co_le h ok.st a1
end
end Kp
namespace Kp
section
variable {α : Type} {n : Nat} {R : Nat → List α} {D : Nat → α → Int} {v : α}
theorem found_ex [DecidableEq α] : ∀ K, K ≤ n → (∀ k, k < K → v ∉ R k) ∨ ∃ m, Found n K R D v m
  | 0, _ => .inl fun k hk => absurd hk (Nat.not_lt_zero k)
  | K + 1, hK => by
    by_cases hv : v ∈ R K
    · rcases found_ex K (by omega) with h | ⟨m, f⟩
      · exact .inr ⟨_, Found.take (by omega) hv fun k hk hvk => absurd hvk (h k hk)⟩
      · by_cases z : (D n v - D K v) * m.2 < m.1 * ((n : Int) - K)
        · exact .inr ⟨_, f.better (by omega) hv z⟩
        · exact .inr ⟨m, f.keep (by omega)⟩
    · rcases found_ex K (by omega) with h | ⟨m, f⟩
      · exact .inl fun k hk => by
          by_cases e : k = K
          · rw [e]
            exact hv
          · exact h k (by omega)
      · exact .inr ⟨m, f.skip hv⟩
theorem Least.same {x y : Int × Int} (h : Least n R D v x) (h' : Least n R D v y) : x.1 * y.2 ≤ y.1 * x.2 := by
  obtain ⟨k, h1, h2, h3, h4⟩ := h'.at_
  have := h.le k h1 h2
  rw [h3, h4]
  exact this
/-- the best one of those in L -/
structure BestL (n : Nat) (R : Nat → List α) (D : Nat → α → Int) (L : List α) (m : Int × Int) : Prop where
  pos : 0 < m.2
  nn : 0 ≤ m.1
  le : ∀ v ∈ L, ∀ x, Least n R D v x → x.1 * m.2 ≤ m.1 * x.2
  at_ : m = (0, 1) ∨ ∃ v ∈ R n, Least n R D v m
theorem BestL.zero : BestL n R D [] (0, 1) := ⟨by decide, by decide, (fun v h => nomatch h), .inl rfl⟩
theorem BestL.none {L : List α} {m : Int × Int} (b : BestL n R D L m) (h : ∀ x, ¬ Least n R D v x) : BestL n R D (L ++ [v]) m :=
  ⟨b.pos, b.nn, fun u hu x hx => by
    rcases List.mem_append.mp hu with hu | hu
    · exact b.le u hu x hx
    · rw [List.mem_singleton.mp hu] at hx
      exact absurd hx (h x), b.at_⟩
theorem BestL.keep {L : List α} {m x : Int × Int} (b : BestL n R D L m) (h : Least n R D v x) (hl : x.1 * m.2 ≤ m.1 * x.2) : BestL n R D (L ++ [v]) m :=
  ⟨b.pos, b.nn, fun u hu y hy => by
    rcases List.mem_append.mp hu with hu | hu
    · exact b.le u hu y hy
    · rw [List.mem_singleton.mp hu] at hy
      exact frac_trans h.pos b.pos hy.pos (hy.same h) hl, b.at_⟩
theorem BestL.take {L : List α} {m x : Int × Int} (b : BestL n R D L m) (hv : v ∈ R n) (h : Least n R D v x) (hl : m.1 * x.2 < x.1 * m.2) : BestL n R D (L ++ [v]) x := by
  refine ⟨h.pos, ?_, fun u hu y hy => ?_, .inr ⟨v, hv, h⟩⟩
  · have h1 := Int.mul_nonneg b.nn (Int.le_of_lt h.pos)
    have h2 : 0 < x.1 * m.2 := by omega
    have h3 := b.pos
    refine Int.not_lt.mp fun z => ?_
    have := Int.mul_nonpos_of_nonpos_of_nonneg (Int.le_of_lt z) (Int.le_of_lt h3)
    omega
  · rcases List.mem_append.mp hu with hu | hu
    · exact frac_trans b.pos h.pos hy.pos (b.le u hu y hy) (Int.le_of_lt hl)
    · rw [List.mem_singleton.mp hu] at hy
      exact hy.same h
theorem BestL.best {m : Int × Int} (b : BestL n R D (R n) m) : Best n R D m := ⟨b.pos, b.le, b.at_⟩
end
end Kp
namespace Kp
section
variable {α : Type} [DecidableEq α] {g : Gr α} {s0 : α}
/-- the bound of all walks, told by the greatest cost -/
theorem Top.boundM (ok : Ok g s0) {p q M : Int} (t : Top g p q) (hp : 0 ≤ p) (hM : 0 ≤ M) (h : ∀ s ∈ g.W, ∀ j ∈ g.P, g.c s j ≤ M) : ∀ s ∈ g.W, ∀ w, Wd g w → wt g p q s w ≤ M * g.W.length * q := fun s hs w hw => by
  obtain ⟨w', k1, k2, _, k4⟩ := t.short ok w.length w s (Nat.le_refl _) hs hw
  have h1 := ok.co_le h (w := w') hs k1
  have h2 : M * (w'.length : Int) ≤ M * (g.W.length : Int) := Int.mul_le_mul_of_nonneg_left (by omega) hM
  have h3 : co g s w' * q ≤ M * g.W.length * q := Int.mul_le_mul_of_nonneg_right (by omega) (Int.le_of_lt t.l)
  have h4 : 0 ≤ p * (w'.length : Int) := Int.mul_nonneg hp (by omega)
  unfold wt at k4 ⊢
  omega
end
end Kp
namespace Ck
open PySem PySem.Spec PyProof.Rows L2
/-! ### sums of numbers of sets over shapes, by a key -/
/-! ### all shapes come to all sets -/
/-! ### by all sets -/
def shI (x : List Int) : Int × Int := ((x.length : Int), ((starts x).length : Int))
theorem T_pos {w m r : Nat} (h : T w m r ≠ 0) : IsSh w ((m : Int), (r : Int)) := by
  unfold IsSh
  cases r with
  | zero =>
    cases m with
    | zero => exact .inl ⟨rfl, rfl⟩
    | succ m => exact (h rfl).elim
  | succ r =>
    cases m with
    | zero => exact (h rfl).elim
    | succ m =>
      right
      have h1 : ch m r ≠ 0 := fun z => h (by show ch m r * _ = 0; rw [z, Nat.zero_mul])
      have h2 : ch (w - m) (r + 1) ≠ 0 := fun z => h (by show _ * ch (w - m) (r + 1) = 0; rw [z, Nat.mul_zero])
      have k1 : r ≤ m := Nat.le_of_not_lt fun z => h1 (ch_big z)
      have k2 : r + 1 ≤ w - m := Nat.le_of_not_lt fun z => h2 (ch_big z)
      dsimp only
      omega
theorem set_shape {w : Nat} (hw : 1 ≤ w) {x : List Int} (h : x ∈ setsTo w) : shI x ∈ shapes w := by
  refine (mem_shapes (by omega)).mpr (T_pos ?_)
  rw [← (cnt_closed w x.length (starts x).length).1]
  have : 0 < cnt w x.length (starts x).length := List.countP_pos_iff.mpr ⟨x, h, decide_eq_true rfl⟩
  omega
end Ck
namespace Ck
open PySem PySem.Spec PyProof.Rows L2
local macro_rules | `(tactic| walk_at "ck") => `(tactic| try simp only [wNLen, wNSort, wNDictT, wWk, fTupX, wIndexN, wNNew, wNGet, wNIn, wNGetD, wNPut, wNDictL, wNDisp1, wiKeysN, wPopTo, strtD, nkG, nkP, Dt.opq.injEq, L2.V.ref.injEq, wNext, wBrk, wCnt, wSeq, wRet, wRetN, wSet, wOwn, wDrop, wUnp, wPar, wIfS, wApp, wExt, wSetIx, wAug, wFrz, wFor, wShp, wMx, wMN, wMD, wMO, setMx, k_var, k_vk1, k_vk2, k_par, wC, wL, wOp, wOpL, wF, wFL, wNil, wCons, wTup, wLst, wTV, wTAnd, wTOr, wTNot, wAnd, wOr, wNot, wIfx, wIsN, wNotN, wChain, wO0, wO1, wSl, wCall, wIsi, wLr1, wLr2, wNeg, wLc, wYes, wiSeq, wiR1, wiR2, wiEnum, wiZip, noOwnB, wipeD, wEmp, wListZip, wSortSet, wRevL, wRevT, wOneB, wParOD, wParDO, wParOO, wIndex, wNever, wUnp2, k_s20, k_s21, Option.bind_some, Option.map_some, wDNew, wDPut, wDGet, wDGetD, wDIn, wFrzD, wiKeys, Sv.dic.injEq, keysD, keyD, k_mulT, k_add1, k_add2, k_add3, k_add4, k_addL, k_sub, k_mul1, k_mul2, k_mulL, k_div, k_mod, k_pow, k_cmp, k_eq, k_ne, k_ea1, k_ea2, k_ea3, k_ea4, k_in1, k_in2, k_in3, k_in4, k_ix1, k_ix2, k_ix3, k_sl1, k_sl2, k_len1, k_len2, k_len3, k_int1, k_int2, k_abs, k_tuple1, k_tuple2, k_list1, k_list2, k_min2, k_max2, k_non_non, k_ty_int_non, k_ty_bool_non, k_ty_tuple_non, k_ty_str_non, k_ty_list_non, k_non_bl, k_ty_int_bl, k_ty_bool_bl, k_ty_tuple_bl, k_ty_str_bl, k_ty_list_bl, k_non_int, k_ty_int_int, k_ty_bool_int, k_ty_tuple_int, k_ty_str_int, k_ty_list_int, k_non_str, k_ty_int_str, k_ty_bool_str, k_ty_tuple_str, k_ty_str_str, k_ty_list_str, k_non_tup, k_ty_int_tup, k_ty_bool_tup, k_ty_tuple_tup, k_ty_str_tup, k_ty_list_tup, k_non_lst, k_ty_int_lst, k_ty_bool_lst, k_ty_tuple_lst, k_ty_str_lst, k_ty_list_lst, k_non_emp, k_ty_int_emp, k_ty_bool_emp, k_ty_tuple_emp, k_ty_str_emp, k_ty_list_emp, k_seq_non, k_seq_bl, k_seq_int, k_seq_str, k_seq_tup, k_seq_lst, k_seq_emp, k_sz0, k_sz1, k_sz2, k_sz3, k_sz4, k_sz5, k_sz6, k_sz7, k_sz8, k_sz9, k_sz10, k_sz11, k_sz12, k_sz13, k_sz14, k_sz15, k_sz16, k_sz17, k_sz18, k_sz19, k_sz20, k_sz21, k_sz22, k_sz23, k_at0, k_at1, k_at2, k_at3, k_iteT, k_iteF, k_bt1, k_bt2, k_sa0, k_sa1, k_endn, k_endr, List.getElem?_cons_succ, List.getElem?_cons_zero, List.set_cons_succ, List.set_cons_zero, List.length_cons, List.length_nil, List.length_map, List.all_cons, List.all_nil, Nat.reduceAdd, Nat.zero_add, Bool.and_true, Bool.and_self, Option.some.injEq, Dt.int.injEq, Dt.bl.injEq, Dt.str.injEq, Dt.tup.injEq, Dt.lst.injEq, Sv.dat.injEq, Sv.own.injEq, exists_eq_left', exists_eq_left, exists_eq_right, exists_eq', exists_eq, if_true, if_false, Bool.not_false, Bool.not_true, Bool.not_not, true_and, and_true, false_and, and_false, exists_const, reduceCtorEq])
open Kp (Gr Ok Row PRow Least Best Mean en co wt HInv Fix addR bigR allE)
/-! ### the web as a graph -/
def gK (k : Keeper) (W : List Std) : Gr Std := ⟨W, plcs k, fun s j => nxt k s (pl j), fun s j => costS k s (pl j)⟩
theorem costS_0 {k : Keeper} (ko : KeeperOk k) {s : Std} (gs : GoodS k s) {j : Nat} (hj : j ∈ plcs k) : 0 ≤ costS k s (pl j) ∧ costS k s (pl j) ≤ 30000000000 := by
  have hw := ko.w
  have hj' := List.mem_range.mp hj
  have ht : SetOf k.w (togA s.1 (pl j)) := (gs.nxt ko hj).so
  have hb := cost_in (l := s.1) (f := s.2) (x := pl j) ko (by have := ht.len (by omega); omega)
  refine ⟨?_, hb.2⟩
  unfold costS costF
  cases h : turnAt k s.1 s.2 (pl j) with
  | none => exact Int.le_refl _
  | some t =>
    have t4 := (ko.ts t (List.mem_of_find?_eq_some h)).2.2.2.1
    have hp := ko.pr _ (price_at t4.1 t4.2).2
    have hm : togA s.1 (pl j) ∈ setsTo k.w.toNat := mem_setsTo24 (n := k.w.toNat) ⟨ht.a, fun x hx => by have := ht.b x hx; omega⟩
    have hs := (mem_shapes (w := (k.w.toNat : Int)) (by omega)).mp (set_shape (w := k.w.toNat) (by omega) hm)
    have hsh : IsSh k.w (shapeA (togA s.1 (pl j))) := by
      have e : ((k.w.toNat : Nat) : Int) = k.w := by omega
      rw [e] at hs
      exact hs
    have := hp.room _ hsh
    show 0 ≤ roomAt (priceAt k t.n) (shapeA (togA s.1 (pl j)))
    omega
theorem dfs_rch {k : Keeper} : ∀ (n : Nat) (ws st W : List Std), dfs k n ws st = some W → (∀ s, s ∈ ws ∨ s ∈ st → ∃ w : List Nat, (∀ p ∈ w, p ∈ plcs k) ∧ en (gK k W) st0 w = s) → ∀ s ∈ W, ∃ w : List Nat, (∀ p ∈ w, p ∈ plcs k) ∧ en (gK k W) st0 w = s
  | n, ws, [], W, e, h, s, hs => by
    have e : ws = W := by cases n <;> exact Option.some.inj e
    subst e
    exact h s (.inl hs)
  | 0, ws, s :: st, W, e, _, _, _ => by cases e
  | n + 1, ws, s :: st, W, e, h, t, ht => by
    unfold dfs at e
    by_cases z : s ∈ ws
    · rw [if_pos z] at e
      exact dfs_rch n ws st W e (fun u hu => h u (hu.imp id fun q => List.mem_cons_of_mem _ q)) t ht
    · rw [if_neg z] at e
      refine dfs_rch n _ _ W e (fun u hu => ?_) t ht
      rcases hu with hu | hu
      · rcases List.mem_append.mp hu with hu | hu
        · exact h u (.inl hu)
        · exact h u (.inr (by rw [List.mem_singleton.mp hu]; simp))
      · rcases List.mem_append.mp hu with hu | hu
        · obtain ⟨j, hj, rfl⟩ := List.mem_map.mp (List.mem_reverse.mp hu)
          obtain ⟨w, h1, h2⟩ := h s (.inr (by simp))
          refine ⟨w ++ [j], fun p hp => ?_, by rw [Kp.en_app, h2]; rfl⟩
          rcases List.mem_append.mp hp with hp | hp
          · exact h1 p hp
          · rw [List.mem_singleton.mp hp]
            exact hj
        · exact h u (.inr (List.mem_cons_of_mem _ hu))
theorem gK_ok {k : Keeper} (ko : KeeperOk k) {W : List Std} (wf : WebF k W) : Ok (gK k W) st0 := by
  have hw := ko.w
  refine ⟨wf.nd, fun s hs p hp => wf.cl s hs _ (List.mem_map.mpr ⟨p, hp, rfl⟩), wf.st, fun h => ?_, fun s hs => ?_, fun s hs p hp => (costS_0 ko (wf.good s hs) hp).1⟩
  · have := congrArg List.length h
    have e : (gK k W).P.length = k.w.toNat := List.length_range
    rw [e, List.length_nil] at this
    omega
  · obtain ⟨w, h1, h2⟩ := dfs_rch 100000 [] [st0] W wf.run (fun s hs => by
      rcases hs with hs | hs
      · cases hs
      · rw [List.mem_singleton.mp hs]
        exact ⟨[], (fun p hp => nomatch hp), rfl⟩) s hs
    exact ⟨w, h1, h2⟩

/-! ### the dearest rows -/
/-- row[t] = x over what the row holds -/
theorem intE_add {k : Keeper} (ko : KeeperOk k) {R : List Std} {D : Std → Int} (g : ∀ s ∈ R, GoodS k s) {t : Std} (gt : GoodS k t) (x : Int) : putN (intE R D) (dSt t) (.int x) = intE (addR R t) (Kp.up D t x) := by
  unfold addR
  by_cases z : t ∈ R
  · rw [if_pos z]
    unfold putN
    rw [intE_in ko g gt z, if_pos (show (some (Dt.int (D t))).isSome = true from rfl)]
    unfold intE
    rw [List.map_map]
    refine List.map_congr_left fun y hy => ?_
    show (if keyN (dSt y) = keyN (dSt t) then (dSt y, Dt.int x) else (dSt y, Dt.int (D y))) = (dSt y, Dt.int (Kp.up D t x y))
    unfold Kp.up
    by_cases e : y = t
    · rw [if_pos (by rw [e]), if_pos e]
    · rw [if_neg (fun q => e (kSt_inj ko (g y hy) gt (by rw [keyN_dSt, keyN_dSt] at q; exact Option.some.inj q))), if_neg e]
  · rw [if_neg z, putN_new (intE_out ko g gt z)]
    unfold intE
    rw [List.map_append]
    congr 1
    · refine List.map_congr_left fun y hy => ?_
      unfold Kp.up
      rw [if_neg (fun e : y = t => z (e ▸ hy))]
    · show _ = [(dSt t, Dt.int (Kp.up D t x t))]
      unfold Kp.up
      rw [if_pos rfl]
theorem intE_get {k : Keeper} (ko : KeeperOk k) {R : List Std} {D : Std → Int} (g : ∀ s ∈ R, GoodS k s) {t : Std} (gt : GoodS k t) : (valN (intE R D) (dSt t)).getD (.int 0) = .int (if t ∈ R then D t else 0) := by
  by_cases z : t ∈ R
  · rw [intE_in ko g gt z, if_pos z]
    rfl
  · rw [intE_out ko g gt z, if_neg z]
    rfl
theorem max_if (a b : Int) : (if a > b then a else b) = max b a := by
  split <;> omega
/-- the rows at the places qs -/
def RowsAt (k : Keeper) (W : List Std) (m : Dm) (qs : List Addr) (R : Nat → List Std) (D : Nat → Std → Int) : Prop :=
  ∀ i q, qs[i]? = some q → Row (gK k W) st0 i (R i) (D i) ∧ (R i).Nodup ∧ ∃ fz, m q = some (fz, intE (R i) (D i))
theorem atI_last {α : Type} {l : List α} {i : Nat} {x : α} (h : l.length = i + 1) (e : l[i]? = some x) : L2.atI l (-1) = some x := by
  unfold L2.atI L2.ixN
  rw [if_neg (by decide)]
  rw [h]
  have e1 : (-1 + ((i + 1 : Nat) : Int)).toNat = i := by omega
  have e2 : (((i + 1 : Nat) : Int) + -1).toNat = i := by omega
  first
    | (rw [if_pos (by omega)]; simp only [Option.bind_some, e1, e2]; exact e)
    | (simp only [e1, e2]; split <;> first | exact e | omega)
def S_dearest_rows : Spc NkT := ⟨fun ds w C => ∃ k W a fz, ds = [.opq (.ref a)] ∧ (KeeperOk k ∧ WebF k W) ∧ w.2 a = some (fz, webE k W) ∧ ∀ (qs : List Addr) (m' : Dm) (R : Nat → List Std) (D : Nat → Std → Int), qs.length = W.length + 1 → RowsAt k W m' qs R D → Grow w.2 m' → (∀ q ∈ qs, w.2 q = none) →
    C (.lst (qs.map fun q => .opq (.ref q))) (w.1, m'),
  fun ds w C C2 h z => by
    obtain ⟨k, W, a, fz, h1, h2, h3, h4⟩ := z
    exact ⟨k, W, a, fz, h1, h2, h3, fun qs m2 R D a b c e => h _ _ (h4 qs m2 R D a b c e)⟩⟩
abbrev p_dearest_rows : DS NkT :=
  (wSeq (wOwn 1 (wLst (wCons (wNDisp1 nkG nkP (wC strtD) (wC (.int 0))) wNil)))
  (wSeq (wFor (.one 2) (wiR1 (wNLen nkG (wVar 0))) (wSeq (wSet 3 (wNNew nkG nkP))
  (wSeq (wFor (.one 4) (wiKeysN nkG nkP (wOp fIx (wVar 1) (wNeg (wC (.int 1))))) (wFor (.many [5, 6]) (wiSeq (wNGet nkG (wVar 0) (wVar 4))) (wNPut nkG nkP (wOp fMax2 (wNGetD nkG (wVar 3) (wVar 5) (wC (.int 0))) (wOp fAdd (wNGet nkG (wOp fIx (wVar 1) (wNeg (wC (.int 1)))) (wVar 4)) (wVar 6))) (wVar 3) (wVar 5))))
  (wApp 1 (wVar 3)))))
  (wFrz 1 (wRet (wVar 1)))))
theorem m_dearest_rows : ∀ ds w C, S_dearest_rows.run ds w C → p_dearest_rows (endD C) (startD 7 ds) w := by
  rintro ds ⟨d, m⟩ C ⟨k, W, a, fz, rfl, ⟨ko, wf⟩, hm, q⟩
  show p_dearest_rows _ [some (.dat (.opq (.ref a))), none, none, none, none, none, none] _
  have hm : m a = some (fz, webE k W) := hm
  have ok := gK_ok ko wf
  have hwl := wf.len ko
  unfold p_dearest_rows
  walk_at "ck"
  refine ⟨keyN_some st0, fun p hp => ?_⟩
  have hap : a ≠ p := fun z => by rw [← z, hm] at hp; cases hp
  refine ⟨a, fz, webE k W, rfl, by rw [updN_ne hap]; exact hm, by rw [webE, List.length_map]; omega, ?_⟩
  have hll : (webE k W).length = W.length := by rw [webE, List.length_map]
  rw [hll]
  refine ⟨by omega, by omega, ?_⟩
  rw [rngD_eq, Int.toNat_natCast]
  refine loop_W0 (rngN 0) (fun i sl w => ∃ x2 x3 x4 x5 x6 qs m' R D, sl = [some (.dat (.opq (.ref a))), some (.own (qs.map fun q => .opq (.ref q))), x2, x3, x4, x5, x6] ∧ w = (d, m') ∧ qs.length = i + 1 ∧ RowsAt k W m' qs R D ∧ Grow m m' ∧ ∀ q ∈ qs, m q = none) _ ?_ ?_ ?_
  · rintro i y sl w hy ⟨x2, x3, x4, x5, x6, qs, m', R, D, rfl, rfl, hql, hr, hg, hfr⟩
    have hi : i < W.length := by
      have := (List.getElem?_eq_some_iff.mp hy).1
      rwa [List.length_range] at this
    refine ⟨_, rfl, fun N hN => ?_⟩
    walk_at "ck"
    intro c hc
    obtain ⟨pi, hpi⟩ : ∃ x, qs[i]? = some x := ⟨qs[i]'(by omega), List.getElem?_eq_getElem _⟩
    obtain ⟨hrow, hnd, fzi, hmi⟩ := hr i pi hpi
    have hac : a ≠ c := fun z => by rw [← z, hg a _ hm] at hc; cases hc
    have hpc : pi ≠ c := fun z => by rw [← z, hmi] at hc; cases hc
    have hpa : a ≠ pi := fun z => by
      have h1 := hfr pi (List.mem_of_getElem? hpi)
      rw [← z, hm] at h1
      cases h1
    have at1 : L2.atI (qs.map fun q => Dt.opq (.ref q)) (-1) = some (.opq (.ref pi)) := atI_last (by rw [List.length_map, hql]) (by rw [List.getElem?_map, hpi]; rfl)
    refine ⟨_, at1, pi, fzi, intE (R i) (D i), rfl, by rw [updN_ne hpc]; exact hmi, ?_⟩
    have e1 : (intE (R i) (D i)).map (fun x => x.fst) = (R i).map dSt := by
      rw [intE, List.map_map]
      rfl
    rw [e1]
    have goodR : ∀ s ∈ R i, s ∈ W := fun s hs => (hrow.nonneg ok hs).2
    refine loop_W0 dSt (fun j sl w => ∃ x4 x5 x6 R' D' m3, sl = [some (.dat (.opq (.ref a))), some (.own (qs.map fun q => .opq (.ref q))), some (.dat (rngN 0 y)), some (.dat (.opq (.ref c))), x4, x5, x6] ∧ w = (d, m3) ∧ m3 c = some (false, intE R' D') ∧ PRow (gK k W) (D i) (allE (gK k W) ((R i).take j)) R' D' ∧ (∀ b x, b ≠ c → b ≠ pi → m' b = some x → m3 b = some x) ∧ m3 pi = some (true, intE (R i) (D i))) (R i) ?_ ?_ ?_
    · rintro j s sl w hs ⟨x4, x5, x6, R', D', m3, rfl, rfl, hc3, hp3, ho3, hi3⟩
      have hsR : s ∈ R i := List.mem_of_getElem? hs
      have hsW := goodR s hsR
      have gs := wf.good s hsW
      refine ⟨_, rfl, fun N2 hN2 => ?_⟩
      walk_at "ck"
      have hsl : (stepsD k s).length = k.w.toNat := by simp [stepsD]
      have ha3 : m3 a = some (fz, webE k W) := ho3 a _ hac hpa (hg a _ hm)
      refine ⟨fz, webE k W, _, ha3, keyN_some s, webE_in ko wf.good gs hsW, stepsD k s, rfl, ?_⟩
      have inW : ∀ {E : List (Std × Nat)} {R'' : List Std} {D'' : Std → Int}, PRow (gK k W) (D i) E R'' D'' → (∀ e ∈ E, e.1 ∈ W ∧ e.2 ∈ plcs k) → ∀ t ∈ R'', t ∈ W := fun {E R'' D''} hp hE t ht => by
        obtain ⟨e, he, rfl⟩ := (hp.mem t).mp ht
        obtain ⟨h1, h2⟩ := hE e he
        exact wf.cl _ h1 _ (List.mem_map.mpr ⟨e.2, h2, rfl⟩)
      have hE : ∀ j2, ∀ e ∈ allE (gK k W) ((R i).take j) ++ ((plcs k).take j2).map (fun x => (s, x)), e.1 ∈ W ∧ e.2 ∈ plcs k := fun j2 e he => by
        rcases List.mem_append.mp he with he | he
        · obtain ⟨h1, h2⟩ := Kp.mem_allE.mp he
          exact ⟨goodR _ (List.mem_of_mem_take h1), h2⟩
        · obtain ⟨x, hx, rfl⟩ := List.mem_map.mp he
          exact ⟨hsW, List.mem_of_mem_take hx⟩
      refine loop_W0 (fun x => Dt.tup [dSt (nxt k s (pl x)), .int (costS k s (pl x))]) (fun j2 sl w => ∃ x5 x6 R'' D'' m4, sl = [some (.dat (.opq (.ref a))), some (.own (qs.map fun q => .opq (.ref q))), some (.dat (rngN 0 y)), some (.dat (.opq (.ref c))), some (.dat (dSt s)), x5, x6] ∧ w = (d, m4) ∧ m4 c = some (false, intE R'' D'') ∧ PRow (gK k W) (D i) (allE (gK k W) ((R i).take j) ++ ((plcs k).take j2).map (fun x => (s, x))) R'' D'' ∧ (∀ b x, b ≠ c → b ≠ pi → m' b = some x → m4 b = some x) ∧ m4 pi = some (true, intE (R i) (D i))) (plcs k) ?_ ?_ ?_
      · rintro j2 x sl w hx ⟨x5, x6, R'', D'', m4, rfl, rfl, hc4, hp4, ho4, hi4⟩
        refine ⟨_, rfl, fun N3 hN3 => ?_⟩
        have hxP : x ∈ plcs k := List.mem_of_getElem? hx
        have gn := gs.nxt ko hxP
        have good4 : ∀ t ∈ R'', GoodS k t := fun t ht => wf.good t (inW hp4 (hE j2) t ht)
        have hl4 : R''.length ≤ 256 := Nat.le_trans (nodup_le hp4.nd fun t ht => mem_allSt ko (good4 t ht)) (len_allSt ko)
        walk_at "ck"
        have goodRi : ∀ t ∈ R i, GoodS k t := fun t ht => wf.good t (goodR t ht)
        refine ⟨c, false, intE R'' D'', rfl, hc4, keyN_some _, false, intE R'' D'', hc4, _, at1, pi, rfl, true, intE (R i) (D i), _, hi4, keyN_some s, intE_in ko goodRi gs hsR, ?_⟩
        rw [intE_get ko good4 gn]
        walk_at "ck"
        refine ⟨_, hc4, by rw [intE, List.length_map]; exact size1M' (by omega), keyN_some _, ?_⟩
        have ev : (if D i s + costS k s (pl x) > (if nxt k s (pl x) ∈ R'' then D'' (nxt k s (pl x)) else 0) then D i s + costS k s (pl x) else if nxt k s (pl x) ∈ R'' then D'' (nxt k s (pl x)) else 0) = bigR R'' D'' (nxt k s (pl x)) (D i s + costS k s (pl x)) := by
          refine (max_if _ _).trans ?_
          unfold Kp.bigR
          congr
        rw [ev, intE_add ko good4 gn]
        have hx0 : 0 ≤ D i s + (gK k W).c s x := by
          have h1 := (hrow.nonneg ok hsR).1
          have h2 := (costS_0 ko gs hxP).1
          show 0 ≤ D i s + costS k s (pl x)
          omega
        have hp5 := hp4.snoc s x hx0
        refine hN3 _ _ ⟨some (.dat (dSt (nxt k s (pl x)))), some (.dat (.int (costS k s (pl x)))), addR R'' (nxt k s (pl x)), Kp.up D'' (nxt k s (pl x)) (bigR R'' D'' (nxt k s (pl x)) (D i s + costS k s (pl x))), _, rfl, rfl, updN_same, ?_, fun b y2 hb hb2 hy2 => ?_, ?_⟩
        · rw [List.take_add_one, hx, List.map_append, ← List.append_assoc]
          exact hp5
        · show updN m4 c _ b = _
          rw [updN_ne hb]
          exact ho4 b y2 hb hb2 hy2
        · show updN m4 c _ pi = _
          rw [updN_ne hpc]
          exact hi4
      · refine ⟨x5, x6, R', D', m3, rfl, rfl, hc3, ?_, ho3, hi3⟩
        rw [List.take_zero, List.map_nil, List.append_nil]
        exact hp3
      · rintro sl w ⟨x5, x6, R'', D'', m4, rfl, rfl, hc4, hp4, ho4, hi4⟩
        rw [List.take_length] at hp4
        refine hN2 _ _ ⟨_, x5, x6, R'', D'', m4, rfl, rfl, hc4, ?_, ho4, hi4⟩
        have e3 : allE (gK k W) ((R i).take (j + 1)) = allE (gK k W) ((R i).take j) ++ (plcs k).map (fun x => (s, x)) := by
          unfold Kp.allE
          rw [List.take_add_one, hs, List.flatMap_append]
          congr 1
          show List.flatMap _ [s] = _
          rw [List.flatMap_cons, List.flatMap_nil, List.append_nil]
          rfl
        rw [e3]
        exact hp4
    · refine ⟨x4, x5, x6, [], fun _ => 0, _, rfl, rfl, ?_, Kp.PRow.nil, fun b x hb hb2 hx => ?_, updN_same⟩
      · show updN (updN m' c (false, [])) pi _ c = _
        rw [updN_ne (Ne.symm hpc), updN_same]
        rfl
      · show updN (updN m' c (false, [])) pi _ b = _
        rw [updN_ne hb2, updN_ne hb]
        exact hx
    · rintro sl w ⟨x4, x5, x6, R', D', m3, rfl, rfl, hc3, hp3, ho3, hi3⟩
      rw [List.take_length] at hp3
      walk_at "ck"
      have frm : ∀ b x, m b = some x → m3 b = some x := fun b x hb => ho3 b x (fun z => by have h1 := hg b x hb; rw [z, hc] at h1; cases h1) (fun z => by have h1 := hfr pi (List.mem_of_getElem? hpi); rw [← z, hb] at h1; cases h1) (hg b x hb)
      have hmc : m c = none := by
        cases z : m c with
        | none => rfl
        | some x =>
          have := hg c x z
          rw [hc] at this
          cases this
      refine ⟨by rw [hql]; exact size1M' (by omega), hN _ _ ⟨some (.dat (rngN 0 y)), some (.dat (.opq (.ref c))), x4, x5, x6, qs ++ [c], m3, fun n => if n = i + 1 then R' else R n, fun n => if n = i + 1 then D' else D n, ?_, rfl, by rw [List.length_append, hql]; rfl, fun n q hn => ?_, frm, fun q hq => ?_⟩⟩
      · rw [List.map_append]
        rfl
      · by_cases e : n = i + 1
        · subst e
          rw [List.getElem?_append_right (by omega), hql, Nat.sub_self] at hn
          have hn : c = q := Option.some.inj hn
          subst hn
          dsimp only
          rw [if_pos rfl, if_pos rfl]
          exact ⟨hrow.next hp3, hp3.nd, false, hc3⟩
        · dsimp only
          rw [if_neg e, if_neg e]
          have hlt : n < qs.length := by
            have := (List.getElem?_eq_some_iff.mp hn).1
            rw [List.length_append, List.length_singleton] at this
            omega
          rw [List.getElem?_append_left hlt] at hn
          obtain ⟨k1, k2, fzn, k3⟩ := hr n q hn
          refine ⟨k1, k2, ?_⟩
          by_cases z : q = pi
          · rw [z, hmi] at k3
            injection k3 with k3
            injection k3 with _ k3
            exact ⟨true, by rw [z, ← k3]; exact hi3⟩
          · exact ⟨fzn, ho3 q _ (fun y => by rw [y, hc] at k3; cases k3) z k3⟩
      · rcases List.mem_append.mp hq with hq | hq
        · exact hfr q hq
        · rw [List.mem_singleton.mp hq]
          exact hmc
  · refine ⟨none, none, none, none, none, [p], _, fun _ => [st0], fun _ _ => 0, rfl, rfl, rfl, fun i q hq => ?_, (Grow.refl m).set hp, fun q hq => by rw [List.mem_singleton.mp hq]; exact hp⟩
    cases i with
    | zero =>
      cases hq
      exact ⟨Row.zero, by simp, false, updN_same⟩
    | succ i => simp at hq
  · rintro sl w ⟨x2, x3, x4, x5, x6, qs, m', R, D, rfl, rfl, hql, hr, hg, hfr⟩
    rw [List.length_range] at hql
    walk_at "ck"
    exact q qs m' R D hql hr hg hfr

end Ck
namespace Ck
open PySem PySem.Spec PyProof.Rows L2
local macro_rules | `(tactic| walk_at "ck") => `(tactic| try simp only [wNLen, wNSort, wNDictT, wWk, fTupX, wIndexN, wNNew, wNGet, wNIn, wNGetD, wNPut, wNDictL, wNDisp1, wiKeysN, wPopTo, strtD, nkG, nkP, Dt.opq.injEq, L2.V.ref.injEq, wNext, wBrk, wCnt, wSeq, wRet, wRetN, wSet, wOwn, wDrop, wUnp, wPar, wIfS, wApp, wExt, wSetIx, wAug, wFrz, wFor, wShp, wMx, wMN, wMD, wMO, setMx, k_var, k_vk1, k_vk2, k_par, wC, wL, wOp, wOpL, wF, wFL, wNil, wCons, wTup, wLst, wTV, wTAnd, wTOr, wTNot, wAnd, wOr, wNot, wIfx, wIsN, wNotN, wChain, wO0, wO1, wSl, wCall, wIsi, wLr1, wLr2, wNeg, wLc, wYes, wiSeq, wiR1, wiR2, wiEnum, wiZip, noOwnB, wipeD, wEmp, wListZip, wSortSet, wRevL, wRevT, wOneB, wParOD, wParDO, wParOO, wIndex, wNever, wUnp2, k_s20, k_s21, Option.bind_some, Option.map_some, wDNew, wDPut, wDGet, wDGetD, wDIn, wFrzD, wiKeys, Sv.dic.injEq, keysD, keyD, k_mulT, k_add1, k_add2, k_add3, k_add4, k_addL, k_sub, k_mul1, k_mul2, k_mulL, k_div, k_mod, k_pow, k_cmp, k_eq, k_ne, k_ea1, k_ea2, k_ea3, k_ea4, k_in1, k_in2, k_in3, k_in4, k_ix1, k_ix2, k_ix3, k_sl1, k_sl2, k_len1, k_len2, k_len3, k_int1, k_int2, k_abs, k_tuple1, k_tuple2, k_list1, k_list2, k_min2, k_max2, k_non_non, k_ty_int_non, k_ty_bool_non, k_ty_tuple_non, k_ty_str_non, k_ty_list_non, k_non_bl, k_ty_int_bl, k_ty_bool_bl, k_ty_tuple_bl, k_ty_str_bl, k_ty_list_bl, k_non_int, k_ty_int_int, k_ty_bool_int, k_ty_tuple_int, k_ty_str_int, k_ty_list_int, k_non_str, k_ty_int_str, k_ty_bool_str, k_ty_tuple_str, k_ty_str_str, k_ty_list_str, k_non_tup, k_ty_int_tup, k_ty_bool_tup, k_ty_tuple_tup, k_ty_str_tup, k_ty_list_tup, k_non_lst, k_ty_int_lst, k_ty_bool_lst, k_ty_tuple_lst, k_ty_str_lst, k_ty_list_lst, k_non_emp, k_ty_int_emp, k_ty_bool_emp, k_ty_tuple_emp, k_ty_str_emp, k_ty_list_emp, k_seq_non, k_seq_bl, k_seq_int, k_seq_str, k_seq_tup, k_seq_lst, k_seq_emp, k_sz0, k_sz1, k_sz2, k_sz3, k_sz4, k_sz5, k_sz6, k_sz7, k_sz8, k_sz9, k_sz10, k_sz11, k_sz12, k_sz13, k_sz14, k_sz15, k_sz16, k_sz17, k_sz18, k_sz19, k_sz20, k_sz21, k_sz22, k_sz23, k_at0, k_at1, k_at2, k_at3, k_iteT, k_iteF, k_bt1, k_bt2, k_sa0, k_sa1, k_endn, k_endr, List.getElem?_cons_succ, List.getElem?_cons_zero, List.set_cons_succ, List.set_cons_zero, List.length_cons, List.length_nil, List.length_map, List.all_cons, List.all_nil, Nat.reduceAdd, Nat.zero_add, Bool.and_true, Bool.and_self, Option.some.injEq, Dt.int.injEq, Dt.bl.injEq, Dt.str.injEq, Dt.tup.injEq, Dt.lst.injEq, Sv.dat.injEq, Sv.own.injEq, exists_eq_left', exists_eq_left, exists_eq_right, exists_eq', exists_eq, if_true, if_false, Bool.not_false, Bool.not_true, Bool.not_not, true_and, and_true, false_and, and_false, exists_const, reduceCtorEq])
open Kp (Gr Ok Row PRow Least Best Mean Found en co wt HInv Fix addR bigR allE)
def pairD (m : Int × Int) : Dt := .tup [.int m.1, .int m.2]
def meanD : Option (Int × Int) → Dt
  | none => .non
  | some m => pairD m
def S_least_mean : Spc NkT := ⟨fun ds w C => ∃ k W qs R D v, ds = [.lst (qs.map fun q => .opq (.ref q)), dSt v] ∧ (KeeperOk k ∧ WebF k W) ∧ (qs.length = W.length + 1 ∧ RowsAt k W w.2 qs R D ∧ v ∈ R W.length) ∧ ∀ o : Option (Int × Int), (match o with
      | none => ∀ i, i < W.length → v ∉ R i
      | some m => Least W.length R D v m) → C (meanD o) w,
  fun ds w C C2 h z => by
    obtain ⟨k, W, qs, R, D, v, h1, h2, h3, h4⟩ := z
    exact ⟨k, W, qs, R, D, v, h1, h2, h3, fun o a => h _ _ (h4 o a)⟩⟩
abbrev p_least_mean : DS NkT :=
  (wSeq (wSet 2 (wC .non))
  (wSeq (wFor (.one 3) (wiR1 (wOp fSub (wF fLen (wVar 0)) (wC (.int 1)))) (wIfS (wTV (wNIn nkG false (wVar 1) (wOp fIx (wVar 0) (wVar 3)))) (wSeq (wSet 4 (wTup (wCons (wOp fSub (wNGet nkG (wOp fIx (wVar 0) (wNeg (wC (.int 1)))) (wVar 1)) (wNGet nkG (wOp fIx (wVar 0) (wVar 3)) (wVar 1))) (wCons (wOp fSub (wOp fSub (wF fLen (wVar 0)) (wC (.int 1))) (wVar 3)) wNil))))
  (wIfS (wTOr (wTV (wIsN (wVar 2))) (wTV (wOp fLt (wOp fMul (wOp fIx (wVar 4) (wC (.int 0))) (wOp fIx (wVar 2) (wC (.int 1)))) (wOp fMul (wOp fIx (wVar 2) (wC (.int 0))) (wOp fIx (wVar 4) (wC (.int 1))))))) (wSet 2 (wVar 4)) wNext)) wNext))
  (wRet (wVar 2))))
theorem rows_bd {k : Keeper} (ko : KeeperOk k) {W : List Std} (wf : WebF k W) {i : Nat} {R : List Std} {D : Std → Int} (r : Row (gK k W) st0 i R D) (hi : i ≤ W.length) {t : Std} (ht : t ∈ R) : 0 ≤ D t ∧ D t ≤ 7680000000000 := by
  have ok := gK_ok ko wf
  have h1 := (r.nonneg ok ht).1
  have h2 := r.le_bd ok (M := 30000000000) (fun s hs p hp => (costS_0 ko (wf.good s hs) hp).2) ht
  have hl := wf.len ko
  omega
theorem m_least_mean : ∀ ds w C, S_least_mean.run ds w C → p_least_mean (endD C) (startD 5 ds) w := by
  rintro ds ⟨d, m⟩ C ⟨k, W, qs, R, D, v, rfl, ⟨ko, wf⟩, ⟨hql, hr, hv⟩, q⟩
  show p_least_mean _ [some (.dat (.lst (qs.map fun q => .opq (.ref q)))), some (.dat (dSt v)), none, none, none] _
  have ok := gK_ok ko wf
  have hwl := wf.len ko
  unfold p_least_mean
  walk_at "ck"
  refine ⟨by omega, by omega, ?_⟩
  have e0 : ((qs.length : Int) - 1).toNat = W.length := by omega
  have e1 : ((qs.length : Int) - 1) = (W.length : Int) := by omega
  rw [e0, rngD_eq]
  obtain ⟨pn, hpn⟩ : ∃ x, qs[W.length]? = some x := ⟨qs[W.length]'(by omega), List.getElem?_eq_getElem _⟩
  obtain ⟨rn, ndn, fzn, hmn⟩ := hr _ pn hpn
  have atn : L2.atI (qs.map fun q => Dt.opq (.ref q)) (-1) = some (.opq (.ref pn)) := atI_last (by rw [List.length_map, hql]) (by rw [List.getElem?_map, hpn]; rfl)
  have bn := rows_bd ko wf rn (Nat.le_refl _) hv
  have gR : ∀ i, i ≤ W.length → ∀ t ∈ R i, GoodS k t := fun i hi t ht => by
    obtain ⟨x, hx⟩ : ∃ x, qs[i]? = some x := ⟨qs[i]'(by omega), List.getElem?_eq_getElem _⟩
    exact wf.good t ((hr i x hx).1.nonneg ok ht).2
  have gv : GoodS k v := gR _ (Nat.le_refl _) v hv
  refine loop_W0 (rngN 0) (fun i sl w => ∃ o x3 x4, sl = [some (.dat (.lst (qs.map fun q => .opq (.ref q)))), some (.dat (dSt v)), some (.dat (meanD o)), x3, x4] ∧ w = (d, m) ∧ (match o with
      | none => ∀ j, j < i → v ∉ R j
      | some mm => Found W.length i R D v mm)) _ ?_ ?_ ?_
  · rintro i y sl w hy ⟨o, x3, x4, rfl, rfl, ho⟩
    have hi : i < W.length := by
      have := (List.getElem?_eq_some_iff.mp hy).1
      rwa [List.length_range] at this
    have ey : y = i := by
      rw [List.getElem?_range hi] at hy
      exact (Option.some.inj hy).symm
    subst ey
    refine ⟨_, rfl, fun N hN => ?_⟩
    obtain ⟨py, hpy⟩ : ∃ x, qs[y]? = some x := ⟨qs[y]'(by omega), List.getElem?_eq_getElem _⟩
    obtain ⟨ry, ndy, fzy, hmy⟩ := hr _ py hpy
    have aty : L2.atI (qs.map fun q => Dt.opq (.ref q)) (0 + (y : Int)) = some (.opq (.ref py)) := by
      rw [Int.zero_add]
      exact atI_ofNat (by rw [List.getElem?_map, hpy]; rfl)
    unfold rngN
    walk_at "ck"
    refine ⟨_, aty, py, fzy, intE (R y) (D y), rfl, hmy, keyN_some v, ?_⟩
    by_cases hvy : v ∈ R y
    · rw [intE_in ko (gR y (by omega)) gv hvy]
      have by_ := rows_bd ko wf ry (by omega) hvy
      refine ite2 (fun _ => ?_) fun h => absurd h (by simp)
      refine ⟨_, atn, pn, rfl, fzn, _, _, hmn, keyN_some v, intE_in ko (gR _ (Nat.le_refl _)) gv hv, _, aty, py, rfl, fzy, _, _, hmy, keyN_some v, intE_in ko (gR y (by omega)) gv hvy, ?_⟩
      walk_at "ck"
      have e2 : (qs.length : Int) - 1 - (0 + (y : Int)) = (W.length : Int) - y := by omega
      rw [e2]
      cases o with
      | none =>
        refine ⟨true, rfl, ?_⟩
        rw [if_pos rfl]
        exact hN _ _ ⟨some (D W.length v - D y v, (W.length : Int) - y), _, _, rfl, rfl, Kp.Found.take hi hvy fun j hj hvj => absurd hvj (ho j hj)⟩
      | some mm =>
        obtain ⟨jj, h1, h2, h3, h4⟩ := ho.at_
        obtain ⟨pj, hpj⟩ : ∃ x, qs[jj]? = some x := ⟨qs[jj]'(by omega), List.getElem?_eq_getElem _⟩
        have bj := rows_bd ko wf (hr _ pj hpj).1 (by omega) h2
        have mb : -7680000000000 ≤ mm.1 ∧ mm.1 ≤ 7680000000000 ∧ 0 < mm.2 ∧ mm.2 ≤ 256 := by omega
        refine ⟨false, rfl, ?_⟩
        rw [if_neg (by decide)]
        dsimp only [meanD, pairD]
        walk_at "ck"
        refine ⟨mulx60 (by omega) (by omega) (by omega) (by omega), mulx60 (by omega) (by omega) (by omega) (by omega), ite2 (fun hd => ?_) fun hd => ?_⟩
        · exact hN _ _ ⟨some (D W.length v - D y v, (W.length : Int) - y), _, _, rfl, rfl, Kp.Found.better ho hi hvy (by simpa using hd)⟩
        · refine hN _ _ ⟨some mm, _, _, rfl, rfl, Kp.Found.keep ho ?_⟩
          have hd : ¬ (D W.length v - D y v) * mm.2 < mm.1 * ((W.length : Int) - y) := by simpa using hd
          omega
    · rw [intE_out ko (gR y (by omega)) gv hvy]
      refine ite2 (fun h => absurd h (by simp)) fun _ => hN _ _ ⟨o, _, _, rfl, rfl, ?_⟩
      cases o with
      | none =>
        intro j hj
        by_cases e : j = y
        · rw [e]
          exact hvy
        · exact ho j (by omega)
      | some mm => exact Kp.Found.skip ho hvy
  · exact ⟨none, none, none, rfl, rfl, fun j hj => by omega⟩
  · rintro sl w ⟨o, x3, x4, rfl, rfl, ho⟩
    rw [List.length_range] at ho
    walk_at "ck"
    refine q o ?_
    cases o with
    | none => exact ho
    | some mm => exact Kp.Found.least ho
theorem low_partsZ {a b : Int} (hb : 1 ≤ b) : ∃ g : Int, 1 ≤ g ∧ (lowF a b).1 * g = a ∧ (lowF a b).2 * g = b := by
  have hg : 0 < Nat.gcd a.natAbs b.toNat := Nat.gcd_pos_of_pos_right _ (by omega)
  refine ⟨(Nat.gcd a.natAbs b.toNat : Nat), by omega, ?_, ?_⟩
  · show a / _ * _ = a
    exact Int.ediv_mul_cancel (Int.ofNat_dvd_left.mpr (Nat.gcd_dvd_left a.natAbs b.toNat))
  · show b / _ * _ = b
    refine Int.ediv_mul_cancel ?_
    have h := Int.natCast_dvd_natCast.mpr (Nat.gcd_dvd_right a.natAbs b.toNat)
    rwa [Int.toNat_of_nonneg (by omega : (0 : Int) ≤ b)] at h
theorem low_factsZ {a b : Int} (hb : 1 ≤ b) : (lowF a b).1 * b = a * (lowF a b).2 ∧ (1 ≤ (lowF a b).2 ∧ (lowF a b).2 ≤ b) := by
  obtain ⟨g, hg, e1, e2⟩ := low_partsZ (a := a) hb
  generalize (lowF a b).1 = x at *
  generalize (lowF a b).2 = y at *
  subst e1 e2
  have hy : 1 ≤ y := by
    refine Int.not_lt.mp fun z => ?_
    have := Int.mul_nonpos_of_nonpos_of_nonneg (by omega : y ≤ 0) (by omega : (0 : Int) ≤ g)
    omega
  have k2 : y * 1 ≤ y * g := Int.mul_le_mul_of_nonneg_left hg (by omega)
  refine ⟨?_, hy, by omega⟩
  rw [Int.mul_assoc, Int.mul_comm g y]
theorem low_facts {a b : Int} (ha : 0 ≤ a) (hb : 1 ≤ b) : (lowF a b).1 * b = a * (lowF a b).2 ∧ (0 ≤ (lowF a b).1 ∧ (lowF a b).1 ≤ a) ∧ (1 ≤ (lowF a b).2 ∧ (lowF a b).2 ≤ b) := by
  obtain ⟨h1, h2⟩ := low_factsZ (a := a) hb
  obtain ⟨g, hg, e1, e2⟩ := low_partsZ (a := a) hb
  refine ⟨h1, ?_, h2⟩
  generalize (lowF a b).1 = x at *
  subst e1
  have hx : 0 ≤ x := by
    refine Int.not_lt.mp fun z => ?_
    have := Int.mul_neg_of_neg_of_pos z (by omega : (0 : Int) < g)
    omega
  have k1 : x * 1 ≤ x * g := Int.mul_le_mul_of_nonneg_left hg hx
  exact ⟨hx, by omega⟩
theorem low_gcd {a b : Int} (hb : 1 ≤ b) : Nat.gcd (lowF a b).1.natAbs (lowF a b).2.toNat = 1 := by
  obtain ⟨y, rfl⟩ := Int.eq_ofNat_of_zero_le (by omega : (0 : Int) ≤ b)
  have hg : 0 < Nat.gcd a.natAbs y := Nat.gcd_pos_of_pos_right _ (by omega)
  have e1 : (lowF a y).1.natAbs = a.natAbs / Nat.gcd a.natAbs y := by
    have h := Int.ediv_mul_cancel (Int.ofNat_dvd_left.mpr (Nat.gcd_dvd_left a.natAbs y))
    have h2 := congrArg Int.natAbs h
    rw [Int.natAbs_mul, Int.natAbs_natCast] at h2
    exact (Nat.div_eq_of_eq_mul_left hg h2.symm).symm
  have e2 : (lowF a y).2.toNat = y / Nat.gcd a.natAbs y := by
    show ((y : Int) / ((Nat.gcd a.natAbs (y : Int).toNat : Nat) : Int)).toNat = _
    rw [Int.toNat_natCast, ← Int.natCast_ediv, Int.toNat_natCast]
  rw [e1, e2]
  exact Nat.gcd_div_gcd_div_gcd_of_pos_right (by omega)
theorem low_low {a b : Int} (hb : 1 ≤ b) : lowF (lowF a b).1 (lowF a b).2 = ((lowF a b).1, (lowF a b).2) := by
  have e3 := low_gcd (a := a) hb
  generalize lowF a b = r at e3 ⊢
  unfold lowF
  rw [e3]
  simp
/-! ### the greatest mean -/
def S_greatest_mean : Spc NkT := ⟨fun ds w C => ∃ k W a fz, ds = [.opq (.ref a)] ∧ (KeeperOk k ∧ WebF k W) ∧ w.2 a = some (fz, webE k W) ∧ ∀ (p q : Int) (m' : Dm), Mean (gK k W) p q → (0 ≤ p ∧ p < 2 ^ 45) ∧ (1 ≤ q ∧ q ≤ 256) → lowF p q = (p, q) → Grow w.2 m' → C (pairD (p, q)) (w.1, m'),
  fun ds w C C2 h z => by
    obtain ⟨k, W, a, fz, h1, h2, h3, h4⟩ := z
    exact ⟨k, W, a, fz, h1, h2, h3, fun p q m2 a b c d => h _ _ (h4 p q m2 a b c d)⟩⟩
abbrev p_greatest_mean : DS NkT :=
  (wSeq (wPar 1 2 (wCons (wCall S_dearest_rows (wCons (wVar 0) wNil)) (wCons (wTup (wCons (wC (.int 0)) (wCons (wC (.int 1)) wNil))) wNil)))
  (wSeq (wFor (.one 3) (wiKeysN nkG nkP (wOp fIx (wVar 1) (wNeg (wC (.int 1))))) (wSeq (wSet 4 (wCall S_least_mean (wCons (wVar 1) (wCons (wVar 3) wNil))))
  (wIfS (wTAnd (wTV (wNotN (wVar 4))) (wTV (wOp fGt (wOp fMul (wOp fIx (wVar 4) (wC (.int 0))) (wOp fIx (wVar 2) (wC (.int 1)))) (wOp fMul (wOp fIx (wVar 2) (wC (.int 0))) (wOp fIx (wVar 4) (wC (.int 1))))))) (wSet 2 (wVar 4)) wNext)))
  (wRet (wCall S_lowest.left (wCons (wOp fIx (wVar 2) (wC (.int 0))) (wCons (wOp fIx (wVar 2) (wC (.int 1))) wNil))))))
theorem m_greatest_mean : ∀ ds w C, S_greatest_mean.run ds w C → p_greatest_mean (endD C) (startD 5 ds) w := by
  rintro ds ⟨d, m⟩ C ⟨k, W, a, fz, rfl, ⟨ko, wf⟩, hm, q⟩
  show p_greatest_mean _ [some (.dat (.opq (.ref a))), none, none, none, none] _
  have hm : m a = some (fz, webE k W) := hm
  have ok := gK_ok ko wf
  have hwl := wf.len ko
  unfold p_greatest_mean
  walk_at "ck"
  refine ⟨k, W, a, fz, rfl, ⟨ko, wf⟩, hm, fun qs m1 R D hql hr hg hfr => ?_⟩
  walk_at "ck"
  obtain ⟨pn, hpn⟩ : ∃ x, qs[W.length]? = some x := ⟨qs[W.length]'(by omega), List.getElem?_eq_getElem _⟩
  obtain ⟨rn, ndn, fzn, hmn⟩ := hr _ pn hpn
  have atn : L2.atI (qs.map fun q => Dt.opq (.ref q)) (-1) = some (.opq (.ref pn)) := atI_last (by rw [List.length_map, hql]) (by rw [List.getElem?_map, hpn]; rfl)
  refine ⟨_, atn, pn, fzn, _, rfl, hmn, ?_⟩
  have e1 : (intE (R W.length) (D W.length)).map (fun x => x.fst) = (R W.length).map dSt := by
    rw [intE, List.map_map]
    rfl
  rw [e1]
  have hr2 : RowsAt k W (updN m1 pn (true, intE (R W.length) (D W.length))) qs R D := fun i x hx => by
    obtain ⟨k1, k2, fzi, k3⟩ := hr i x hx
    refine ⟨k1, k2, ?_⟩
    by_cases z : x = pn
    · rw [z, hmn] at k3
      injection k3 with k3
      injection k3 with _ k3
      exact ⟨true, by rw [z, updN_same, k3]⟩
    · exact ⟨fzi, by rw [updN_ne z]; exact k3⟩
  have gW : ∀ v ∈ R W.length, v ∈ W := fun v hv => (rn.nonneg ok hv).2
  refine loop_W0 dSt (fun j sl w => ∃ mm x3 x4, sl = [some (.dat (.opq (.ref a))), some (.dat (.lst (qs.map fun q => .opq (.ref q)))), some (.dat (pairD mm)), x3, x4] ∧ w = (d, updN m1 pn (true, intE (R W.length) (D W.length))) ∧ Kp.BestL W.length R D ((R W.length).take j) mm ∧ mm.1 ≤ 7680000000000 ∧ mm.2 ≤ 256) (R W.length) ?_ ?_ ?_
  · rintro j v sl w hv ⟨mm, x3, x4, rfl, rfl, hb, b1, b2⟩
    have hvR : v ∈ R W.length := List.mem_of_getElem? hv
    have etk : (R W.length).take (j + 1) = (R W.length).take j ++ [v] := by rw [List.take_add_one, hv]; rfl
    refine ⟨_, rfl, fun N hN => ?_⟩
    walk_at "ck"
    refine ⟨k, W, qs, R, D, v, rfl, ⟨ko, wf⟩, ⟨hql, hr2, hvR⟩, fun o ho => ?_⟩
    cases o with
    | none =>
      refine ⟨true, rfl, ?_⟩
      refine ite2 (fun h => absurd h (by simp)) fun _ => hN _ _ ⟨mm, _, _, rfl, rfl, ?_, b1, b2⟩
      rw [etk]
      exact hb.none fun x hx => by
        obtain ⟨i, h1, h2, _⟩ := hx.at_
        exact ho i h1 h2
    | some x =>
      replace ho : Least W.length R D v x := ho
      obtain ⟨jj, h1, h2, h3, h4⟩ := ho.at_
      obtain ⟨pj, hpj⟩ : ∃ x, qs[jj]? = some x := ⟨qs[jj]'(by omega), List.getElem?_eq_getElem _⟩
      have bj := rows_bd ko wf (hr _ pj hpj).1 (by omega) h2
      have bn := rows_bd ko wf rn (Nat.le_refl _) hvR
      have mb : -7680000000000 ≤ x.1 ∧ x.1 ≤ 7680000000000 ∧ 0 < x.2 ∧ x.2 ≤ 256 := by omega
      have hp := hb.pos
      have hnn := hb.nn
      refine ⟨false, rfl, ?_⟩
      refine ite2 (fun _ => ?_) fun h => absurd h (by simp)
      dsimp only [meanD, pairD]
      walk_at "ck"
      refine ⟨mulx60 (by omega) (by omega) (by omega) (by omega), mulx60 (by omega) (by omega) (by omega) (by omega), ite2 (fun hd => ?_) fun hd => ?_⟩
      · refine hN _ _ ⟨x, _, _, rfl, rfl, ?_, by omega, by omega⟩
        rw [etk]
        exact hb.take hvR ho (by simpa using hd)
      · refine hN _ _ ⟨mm, _, _, rfl, rfl, ?_, b1, b2⟩
        rw [etk]
        have hd : ¬ mm.1 * x.2 < x.1 * mm.2 := by simpa using hd
        exact hb.keep ho (by omega)
  · refine ⟨(0, 1), none, none, rfl, rfl, Kp.BestL.zero, by decide, by decide⟩
  · rintro sl w ⟨mm, x3, x4, rfl, rfl, hb, b1, b2⟩
    rw [List.take_length] at hb
    have hp := hb.pos
    have hnn := hb.nn
    unfold pairD
    walk_at "ck"
    refine use_pureP (mm.1, mm.2) ⟨⟨by show -(2 ^ 50) < mm.1; omega, by show mm.1 < 2 ^ 50; omega⟩, by show 1 ≤ mm.2; omega, by show mm.2 < 2 ^ 50; omega⟩ ?_
    obtain ⟨f1, ⟨f2, f3⟩, f4, f5⟩ := low_facts hnn (by omega : 1 ≤ mm.2)
    refine q (lowF mm.1 mm.2).1 (lowF mm.1 mm.2).2 _ (Kp.karp ok (fun i hi => ?_) hb.best (fun v hv ⟨i, hi, hvi⟩ => ?_) (by omega) f1) ⟨⟨f2, by omega⟩, f4, by omega⟩ (low_low (by omega)) fun b x hb2 => ?_
    · obtain ⟨pi, hpi⟩ : ∃ x, qs[i]? = some x := ⟨qs[i]'(by have : (gK k W).W.length = W.length := rfl; omega), List.getElem?_eq_getElem _⟩
      exact (hr i pi hpi).1
    · rcases Kp.found_ex (n := W.length) (R := R) (D := D) (v := v) W.length (Nat.le_refl _) with h | ⟨x, f⟩
      · exact absurd hvi (h i hi)
      · exact ⟨x, f.least⟩
    · show updN m1 pn _ b = some x
      have h1 := hg b x hb2
      by_cases z : b = pn
      · have h2 := hfr pn (List.mem_of_getElem? hpn)
        rw [← z] at h2
        exact absurd (hb2.symm.trans h2) (by simp)
      · rw [updN_ne z]
        exact h1

end Ck
namespace Ck
open PySem PySem.Spec PyProof.Rows L2
local macro_rules | `(tactic| walk_at "ck") => `(tactic| try simp only [wNLen, wNSort, wNDictT, wWk, fTupX, wIndexN, wNNew, wNGet, wNIn, wNGetD, wNPut, wNDictL, wNDisp1, wiKeysN, wPopTo, strtD, nkG, nkP, Dt.opq.injEq, L2.V.ref.injEq, wNext, wBrk, wCnt, wSeq, wRet, wRetN, wSet, wOwn, wDrop, wUnp, wPar, wIfS, wApp, wExt, wSetIx, wAug, wFrz, wFor, wShp, wMx, wMN, wMD, wMO, setMx, k_var, k_vk1, k_vk2, k_par, wC, wL, wOp, wOpL, wF, wFL, wNil, wCons, wTup, wLst, wTV, wTAnd, wTOr, wTNot, wAnd, wOr, wNot, wIfx, wIsN, wNotN, wChain, wO0, wO1, wSl, wCall, wIsi, wLr1, wLr2, wNeg, wLc, wYes, wiSeq, wiR1, wiR2, wiEnum, wiZip, noOwnB, wipeD, wEmp, wListZip, wSortSet, wRevL, wRevT, wOneB, wParOD, wParDO, wParOO, wIndex, wNever, wUnp2, k_s20, k_s21, Option.bind_some, Option.map_some, wDNew, wDPut, wDGet, wDGetD, wDIn, wFrzD, wiKeys, Sv.dic.injEq, keysD, keyD, k_mulT, k_add1, k_add2, k_add3, k_add4, k_addL, k_sub, k_mul1, k_mul2, k_mulL, k_div, k_mod, k_pow, k_cmp, k_eq, k_ne, k_ea1, k_ea2, k_ea3, k_ea4, k_in1, k_in2, k_in3, k_in4, k_ix1, k_ix2, k_ix3, k_sl1, k_sl2, k_len1, k_len2, k_len3, k_int1, k_int2, k_abs, k_tuple1, k_tuple2, k_list1, k_list2, k_min2, k_max2, k_non_non, k_ty_int_non, k_ty_bool_non, k_ty_tuple_non, k_ty_str_non, k_ty_list_non, k_non_bl, k_ty_int_bl, k_ty_bool_bl, k_ty_tuple_bl, k_ty_str_bl, k_ty_list_bl, k_non_int, k_ty_int_int, k_ty_bool_int, k_ty_tuple_int, k_ty_str_int, k_ty_list_int, k_non_str, k_ty_int_str, k_ty_bool_str, k_ty_tuple_str, k_ty_str_str, k_ty_list_str, k_non_tup, k_ty_int_tup, k_ty_bool_tup, k_ty_tuple_tup, k_ty_str_tup, k_ty_list_tup, k_non_lst, k_ty_int_lst, k_ty_bool_lst, k_ty_tuple_lst, k_ty_str_lst, k_ty_list_lst, k_non_emp, k_ty_int_emp, k_ty_bool_emp, k_ty_tuple_emp, k_ty_str_emp, k_ty_list_emp, k_seq_non, k_seq_bl, k_seq_int, k_seq_str, k_seq_tup, k_seq_lst, k_seq_emp, k_sz0, k_sz1, k_sz2, k_sz3, k_sz4, k_sz5, k_sz6, k_sz7, k_sz8, k_sz9, k_sz10, k_sz11, k_sz12, k_sz13, k_sz14, k_sz15, k_sz16, k_sz17, k_sz18, k_sz19, k_sz20, k_sz21, k_sz22, k_sz23, k_at0, k_at1, k_at2, k_at3, k_iteT, k_iteF, k_bt1, k_bt2, k_sa0, k_sa1, k_endn, k_endr, List.getElem?_cons_succ, List.getElem?_cons_zero, List.set_cons_succ, List.set_cons_zero, List.length_cons, List.length_nil, List.length_map, List.all_cons, List.all_nil, Nat.reduceAdd, Nat.zero_add, Bool.and_true, Bool.and_self, Option.some.injEq, Dt.int.injEq, Dt.bl.injEq, Dt.str.injEq, Dt.tup.injEq, Dt.lst.injEq, Sv.dat.injEq, Sv.own.injEq, exists_eq_left', exists_eq_left, exists_eq_right, exists_eq', exists_eq, if_true, if_false, Bool.not_false, Bool.not_true, Bool.not_not, true_and, and_true, false_and, and_false, exists_const, reduceCtorEq])
open Kp (Gr Ok Row PRow Least Best Mean Found en co wt wt1 HInv Fix addR bigR allE room)
theorem costS_13 {k : Keeper} (ko : KeeperOk k) {s : Std} (gs : GoodS k s) {j : Nat} (hj : j ∈ plcs k) : costS k s (pl j) ≤ 13000000 := by
  have hw := ko.w
  have ht : SetOf k.w (togA s.1 (pl j)) := (gs.nxt ko hj).so
  have hl := ht.len (by omega)
  unfold costS costF
  cases h : turnAt k s.1 s.2 (pl j) with
  | none => show (0 : Int) ≤ 13000000; decide
  | some t =>
    have t4 := (ko.ts t (List.mem_of_find?_eq_some h)).2.2.2.1
    obtain ⟨⟨a1, a2⟩, ⟨b1, b2⟩, ⟨c1, c2⟩, _⟩ := ko.pr _ (price_at t4.1 t4.2).2
    have h2 : (starts (togA s.1 (pl j))).length ≤ (togA s.1 (pl j)).length := List.length_filter_le _ _
    have m1 := mul_bd (s := ((togA s.1 (pl j)).length : Int)) (S := 6) b1 b2 (by omega) (by omega) (by decide)
    have m2 := mul_bd (s := ((starts (togA s.1 (pl j))).length : Int)) (S := 6) c1 c2 (by omega) (by omega) (by decide)
    show roomAt (priceAt k t.n) (shapeA (togA s.1 (pl j))) ≤ 13000000
    unfold roomAt shapeA
    dsimp only
    omega
/-- what heights are -/
structure HgtOk (k : Keeper) (W : List Std) (p q : Int) (h : Std → Int) : Prop where
  inv : HInv (gK k W) p q h
  fix : Fix (gK k W) p q h
  nn : ∀ s ∈ W, 0 ≤ h s
  le : ∀ s ∈ W, h s < 2 ^ 45
def S_heights_of : Spc NkT := ⟨fun ds w C => ∃ k W a fz p q, ds = [.opq (.ref a), pairD (p, q)] ∧ (KeeperOk k ∧ WebF k W) ∧ w.2 a = some (fz, webE k W) ∧ (Mean (gK k W) p q ∧ (0 ≤ p ∧ p < 2 ^ 45) ∧ (1 ≤ q ∧ q ≤ 256)) ∧ ∀ (h : Std → Int) (c : Addr) (m' : Dm), HgtOk k W p q h → c ≠ a → w.2 c = none → m' c = some (false, intE W h) → m' a = some (true, webE k W) → (∀ b x, b ≠ a → w.2 b = some x → m' b = some x) → C (.opq (.ref c)) (w.1, m'),
  fun ds w C C2 h z => by
    obtain ⟨k, W, a, fz, p, q, h1, h2, h3, h4, h5⟩ := z
    exact ⟨k, W, a, fz, p, q, h1, h2, h3, h4, fun h' c m2 x1 x2 x3 x4 x5 x6 => h _ _ (h5 h' c m2 x1 x2 x3 x4 x5 x6)⟩⟩
abbrev p_heights_of : DS NkT :=
  (wSeq (wPar 2 3 (wCons (wCall S_nothing_for (wCons (wVar 0) wNil)) (wCons (wC (.bl true)) wNil)))
  (wSeq (wWhile (wTV (wVar 3)) (wSeq (wSet 3 (wC (.bl false)))
  (wFor (.one 4) (wiKeysN nkG nkP (wVar 0)) (wFor (.many [5, 6]) (wiSeq (wNGet nkG (wVar 0) (wVar 4))) (wSeq (wSet 7 (wOp fAdd (wOp fSub (wOp fMul (wVar 6) (wOp fIx (wVar 1) (wC (.int 1)))) (wOp fIx (wVar 1) (wC (.int 0)))) (wNGet nkG (wVar 2) (wVar 5))))
  (wIfS (wTV (wOp fGt (wVar 7) (wNGet nkG (wVar 2) (wVar 4)))) (wSeq (wNPut nkG nkP (wVar 7) (wVar 2) (wVar 4))
  (wSet 3 (wC (.bl true)))) wNext))))))
  (wRet (wVar 2))))
theorem m_heights_of : ∀ ds w C, S_heights_of.run ds w C → p_heights_of (endD C) (startD 8 ds) w := by
  rintro ds ⟨d, m⟩ C ⟨k, W, a, fz, p, q, rfl, ⟨ko, wf⟩, hm, ⟨mn, ⟨p0, p1⟩, q0, q1⟩, qq⟩
  show p_heights_of _ [some (.dat (.opq (.ref a))), some (.dat (.tup [.int p, .int q])), none, none, none, none, none, none] _
  have hm : m a = some (fz, webE k W) := hm
  have ok := gK_ok ko wf
  have hwl := wf.len ko
  unfold p_heights_of
  walk_at "ck"
  refine ⟨k, W, a, fz, rfl, ⟨ko, wf⟩, hm, fun c m1 hca hmc hc1 ha1 ho1 => ?_⟩
  walk_at "ck"
  have hap : Kp.Top (gK k W) p q := mn.top
  let B : Int := 13000000 * (W.length : Int) * q
  have hB : ∀ s ∈ W, ∀ w, Kp.Wd (gK k W) w → wt (gK k W) p q s w ≤ B := hap.boundM ok p0 (by decide) fun s hs j hj => costS_13 ko (wf.good s hs) hj
  have hB2 : B < 2 ^ 45 := by
    have h1 : 13000000 * (W.length : Int) * q ≤ 3328000000 * 256 := Int.mul_le_mul (by omega) q1 (by omega) (by decide)
    show 13000000 * (W.length : Int) * q < 2 ^ 45
    omega
  have leB : ∀ {h : Std → Int}, HInv (gK k W) p q h → ∀ s ∈ W, h s ≤ B := fun {h} hi s hs => by
    obtain ⟨w, h1, h2⟩ := hi s hs
    rw [← h2]
    exact hB s hs w h1
  have addW : ∀ {s : Std}, s ∈ W → addR W s = W := fun {s} hs => if_pos hs
  refine ⟨fun n sl w => ∃ h fl x4 x5 x6 x7 m', sl = [some (.dat (.opq (.ref a))), some (.dat (.tup [.int p, .int q])), some (.dat (.opq (.ref c))), some (.dat (.bl fl)), x4, x5, x6, x7] ∧ w = (d, m') ∧ m' c = some (false, intE W h) ∧ m' a = some (true, webE k W) ∧ (∀ b x, b ≠ a → m b = some x → m' b = some x) ∧ HInv (gK k W) p q h ∧ (∀ s ∈ W, 0 ≤ h s) ∧ (fl = false → Fix (gK k W) p q h) ∧ n = 2 * room W B h + (if fl = true then 1 else 0), ⟨_, _, true, none, none, none, none, m1, rfl, rfl, hc1, ha1, ho1, Kp.HInv.zero, fun s hs => Int.le_refl _, (fun z => nomatch z), rfl⟩, ?_⟩
  rintro n sl w ⟨h, fl, x4, x5, x6, x7, m', rfl, rfl, hc', ha', ho', hi', nn', fx', rfl⟩
  walk_at "ck"
  cases fl with
  | false =>
    refine ite2 (fun h => absurd h (by simp)) fun _ => ?_
    exact qq h c m' ⟨hi', fx' rfl, nn', fun s hs => by have := leB hi' s hs; omega⟩ hca hmc hc' ha' ho'
  | true =>
    refine ite2 (fun _ => ?_) fun h => absurd h (by simp)
    refine ⟨a, true, webE k W, rfl, ha', ?_⟩
    have e1 : (webE k W).map (fun x => x.fst) = W.map dSt := by
      rw [webE, List.map_map]
      rfl
    rw [e1]
    have hac : a ≠ c := Ne.symm hca
    refine loop_W0 dSt (fun j sl w => ∃ h2 fl x4 x5 x6 x7 m3, sl = [some (.dat (.opq (.ref a))), some (.dat (.tup [.int p, .int q])), some (.dat (.opq (.ref c))), some (.dat (.bl fl)), x4, x5, x6, x7] ∧ w = (d, m3) ∧ m3 c = some (false, intE W h2) ∧ m3 a = some (true, webE k W) ∧ (∀ b x, b ≠ a → m b = some x → m3 b = some x) ∧ HInv (gK k W) p q h2 ∧ (∀ s ∈ W, 0 ≤ h2 s) ∧ (fl = true → room W B h2 < room W B h) ∧ (fl = false → h2 = h ∧ ∀ s ∈ W.take j, ∀ x ∈ plcs k, wt1 (gK k W) p q s x + h (nxt k s (pl x)) ≤ h s)) W ?_ ?_ ?_
    · rintro j s sl w hs ⟨h2, fl, x4, x5, x6, x7, m3, rfl, rfl, hc3, ha3, ho3, hi3, nn3, rt3, rf3⟩
      have hsW : s ∈ W := List.mem_of_getElem? hs
      have gs := wf.good s hsW
      refine ⟨_, rfl, fun N hN => ?_⟩
      walk_at "ck"
      refine ⟨true, webE k W, _, ha3, keyN_some s, webE_in ko wf.good gs hsW, stepsD k s, rfl, ?_⟩
      refine loop_W0 (fun x => Dt.tup [dSt (nxt k s (pl x)), .int (costS k s (pl x))]) (fun j2 sl w => ∃ h2 fl x5 x6 x7 m3, sl = [some (.dat (.opq (.ref a))), some (.dat (.tup [.int p, .int q])), some (.dat (.opq (.ref c))), some (.dat (.bl fl)), some (.dat (dSt s)), x5, x6, x7] ∧ w = (d, m3) ∧ m3 c = some (false, intE W h2) ∧ m3 a = some (true, webE k W) ∧ (∀ b x, b ≠ a → m b = some x → m3 b = some x) ∧ HInv (gK k W) p q h2 ∧ (∀ s ∈ W, 0 ≤ h2 s) ∧ (fl = true → room W B h2 < room W B h) ∧ (fl = false → h2 = h ∧ (∀ s ∈ W.take j, ∀ x ∈ plcs k, wt1 (gK k W) p q s x + h (nxt k s (pl x)) ≤ h s) ∧ ∀ x ∈ (plcs k).take j2, wt1 (gK k W) p q s x + h (nxt k s (pl x)) ≤ h s)) (plcs k) ?_ ?_ ?_
      · rintro j2 x sl w hx ⟨h2, fl, x5, x6, x7, m3, rfl, rfl, hc3, ha3, ho3, hi3, nn3, rt3, rf3⟩
        have hxP : x ∈ plcs k := List.mem_of_getElem? hx
        have gn := gs.nxt ko hxP
        have hnW : nxt k s (pl x) ∈ W := wf.cl s hsW _ (List.mem_map.mpr ⟨x, hxP, rfl⟩)
        have cb := costS_0 ko gs hxP
        refine ⟨_, rfl, fun N2 hN2 => ?_⟩
        walk_at "ck"
        refine ⟨mulx60 (by omega) (by omega) (by omega) (by omega), false, _, _, hc3, keyN_some _, intE_in ko wf.good gn hnW, ?_⟩
        walk_at "ck"
        refine ⟨false, _, _, hc3, keyN_some s, intE_in ko wf.good gs hsW, ?_⟩
        walk_at "ck"
        refine ite2 (fun hd => ?_) fun hd => ?_
        · have hd : h2 s < costS k s (pl x) * q - p + h2 (nxt k s (pl x)) := by simpa using hd
          have hup : HInv (gK k W) p q (Kp.up h2 s (costS k s (pl x) * q - p + h2 (nxt k s (pl x)))) := hi3.up ok hsW hxP
          refine ⟨_, hc3, by rw [intE, List.length_map]; exact size1M' (by omega), keyN_some s, ?_⟩
          rw [intE_add ko wf.good gs, addW hsW]
          have hx2 := leB hup s hsW
          have eup : Kp.up h2 s (costS k s (pl x) * q - p + h2 (nxt k s (pl x))) s = costS k s (pl x) * q - p + h2 (nxt k s (pl x)) := if_pos rfl
          rw [eup] at hx2
          have hrm := Kp.room_up (B := B) wf.nd hsW hd hx2
          refine hN2 _ _ ⟨_, true, _, _, _, _, rfl, rfl, updN_same, ?_, fun b y hb hy => ?_, hup, fun t ht => ?_, fun _ => ?_, fun z => nomatch z⟩
          · show updN m3 c _ a = _
            rw [updN_ne hac]
            exact ha3
          · show updN m3 c _ b = _
            rw [updN_ne (fun z => by rw [z] at hy; exact absurd (hy.symm.trans hmc) (by simp))]
            exact ho3 b y hb hy
          · have h1 := nn3 s hsW
            have h3 := nn3 t ht
            unfold Kp.up
            split <;> omega
          · cases fl with
            | true =>
              have := rt3 rfl
              omega
            | false =>
              rw [(rf3 rfl).1] at hrm ⊢
              exact hrm
        · have hd : ¬ h2 s < costS k s (pl x) * q - p + h2 (nxt k s (pl x)) := by simpa using hd
          refine hN2 _ _ ⟨h2, fl, _, _, _, m3, rfl, rfl, hc3, ha3, ho3, hi3, nn3, rt3, fun z => ⟨(rf3 z).1, (rf3 z).2.1, fun y hy => ?_⟩⟩
          rw [List.take_add_one, hx] at hy
          rcases List.mem_append.mp hy with hy | hy
          · exact (rf3 z).2.2 y hy
          · have hy : y = x := by simpa using hy
            rw [hy]
            rw [(rf3 z).1] at hd
            show costS k s (pl x) * q - p + h (nxt k s (pl x)) ≤ h s
            omega
      · exact ⟨h2, fl, x5, x6, x7, m3, rfl, rfl, hc3, ha3, ho3, hi3, nn3, rt3, fun z => ⟨(rf3 z).1, (rf3 z).2, fun x hx => by rw [List.take_zero] at hx; cases hx⟩⟩
      · rintro sl w ⟨h2, fl, x5, x6, x7, m3, rfl, rfl, hc3, ha3, ho3, hi3, nn3, rt3, rf3⟩
        rw [List.take_length] at rf3
        refine hN _ _ ⟨h2, fl, _, x5, x6, x7, m3, rfl, rfl, hc3, ha3, ho3, hi3, nn3, rt3, fun z => ⟨(rf3 z).1, fun t ht => ?_⟩⟩
        rw [List.take_add_one, hs] at ht
        rcases List.mem_append.mp ht with ht | ht
        · exact (rf3 z).2.1 t ht
        · have ht : t = s := by simpa using ht
          rw [ht]
          exact (rf3 z).2.2
    · refine ⟨h, false, x4, x5, x6, x7, _, rfl, rfl, ?_, updN_same, fun b x hb hx => ?_, hi', nn', (fun z => nomatch z), fun _ => ⟨rfl, fun s hs => by rw [List.take_zero] at hs; cases hs⟩⟩
      · show updN m' a _ c = _
        rw [updN_ne hca]
        exact hc'
      · show updN m' a _ b = _
        rw [updN_ne hb]
        exact ho' b x hb hx
    · rintro sl w ⟨h2, fl, x4, x5, x6, x7, m3, rfl, rfl, hc3, ha3, ho3, hi3, nn3, rt3, rf3⟩
      rw [List.take_length] at rf3
      refine ⟨2 * room W B h2 + (if fl = true then 1 else 0), ?_, h2, fl, x4, x5, x6, x7, m3, rfl, rfl, hc3, ha3, ho3, hi3, nn3, fun z => ?_, rfl⟩
      · cases fl with
        | true =>
          have := rt3 rfl
          simp only [if_true]
          omega
        | false =>
          rw [(rf3 rfl).1]
          simp
      · obtain ⟨e, f⟩ := rf3 z
        rw [e]
        exact f

end Ck
namespace Ck
open PySem PySem.Spec PyProof.Rows L2
local macro_rules | `(tactic| walk_at "ck") => `(tactic| try simp only [wNLen, wNSort, wNDictT, wWk, fTupX, wIndexN, wNNew, wNGet, wNIn, wNGetD, wNPut, wNDictL, wNDisp1, wiKeysN, wPopTo, strtD, nkG, nkP, Dt.opq.injEq, L2.V.ref.injEq, wNext, wBrk, wCnt, wSeq, wRet, wRetN, wSet, wOwn, wDrop, wUnp, wPar, wIfS, wApp, wExt, wSetIx, wAug, wFrz, wFor, wShp, wMx, wMN, wMD, wMO, setMx, k_var, k_vk1, k_vk2, k_par, wC, wL, wOp, wOpL, wF, wFL, wNil, wCons, wTup, wLst, wTV, wTAnd, wTOr, wTNot, wAnd, wOr, wNot, wIfx, wIsN, wNotN, wChain, wO0, wO1, wSl, wCall, wIsi, wLr1, wLr2, wNeg, wLc, wYes, wiSeq, wiR1, wiR2, wiEnum, wiZip, noOwnB, wipeD, wEmp, wListZip, wSortSet, wRevL, wRevT, wOneB, wParOD, wParDO, wParOO, wIndex, wNever, wUnp2, k_s20, k_s21, Option.bind_some, Option.map_some, wDNew, wDPut, wDGet, wDGetD, wDIn, wFrzD, wiKeys, Sv.dic.injEq, keysD, keyD, k_mulT, k_add1, k_add2, k_add3, k_add4, k_addL, k_sub, k_mul1, k_mul2, k_mulL, k_div, k_mod, k_pow, k_cmp, k_eq, k_ne, k_ea1, k_ea2, k_ea3, k_ea4, k_in1, k_in2, k_in3, k_in4, k_ix1, k_ix2, k_ix3, k_sl1, k_sl2, k_len1, k_len2, k_len3, k_int1, k_int2, k_abs, k_tuple1, k_tuple2, k_list1, k_list2, k_min2, k_max2, k_non_non, k_ty_int_non, k_ty_bool_non, k_ty_tuple_non, k_ty_str_non, k_ty_list_non, k_non_bl, k_ty_int_bl, k_ty_bool_bl, k_ty_tuple_bl, k_ty_str_bl, k_ty_list_bl, k_non_int, k_ty_int_int, k_ty_bool_int, k_ty_tuple_int, k_ty_str_int, k_ty_list_int, k_non_str, k_ty_int_str, k_ty_bool_str, k_ty_tuple_str, k_ty_str_str, k_ty_list_str, k_non_tup, k_ty_int_tup, k_ty_bool_tup, k_ty_tuple_tup, k_ty_str_tup, k_ty_list_tup, k_non_lst, k_ty_int_lst, k_ty_bool_lst, k_ty_tuple_lst, k_ty_str_lst, k_ty_list_lst, k_non_emp, k_ty_int_emp, k_ty_bool_emp, k_ty_tuple_emp, k_ty_str_emp, k_ty_list_emp, k_seq_non, k_seq_bl, k_seq_int, k_seq_str, k_seq_tup, k_seq_lst, k_seq_emp, k_sz0, k_sz1, k_sz2, k_sz3, k_sz4, k_sz5, k_sz6, k_sz7, k_sz8, k_sz9, k_sz10, k_sz11, k_sz12, k_sz13, k_sz14, k_sz15, k_sz16, k_sz17, k_sz18, k_sz19, k_sz20, k_sz21, k_sz22, k_sz23, k_at0, k_at1, k_at2, k_at3, k_iteT, k_iteF, k_bt1, k_bt2, k_sa0, k_sa1, k_endn, k_endr, List.getElem?_cons_succ, List.getElem?_cons_zero, List.set_cons_succ, List.set_cons_zero, List.length_cons, List.length_nil, List.length_map, List.all_cons, List.all_nil, Nat.reduceAdd, Nat.zero_add, Bool.and_true, Bool.and_self, Option.some.injEq, Dt.int.injEq, Dt.bl.injEq, Dt.str.injEq, Dt.tup.injEq, Dt.lst.injEq, Sv.dat.injEq, Sv.own.injEq, exists_eq_left', exists_eq_left, exists_eq_right, exists_eq', exists_eq, if_true, if_false, Bool.not_false, Bool.not_true, Bool.not_not, true_and, and_true, false_and, and_false, exists_const, reduceCtorEq])
/-! ### == of data -/
theorem eqvAll_mapQ {α : Type} (f : α → PyData) (hf : ∀ x y, PyData.eqv (f x) (f y) = true ↔ x = y) : ∀ a b : List α, PyData.eqvAll (a.map f) (b.map f) = true ↔ a = b
  | [], [] => by simp [PyData.eqvAll]
  | [], y :: b => by simp [PyData.eqvAll]
  | x :: a, [] => by simp [PyData.eqvAll]
  | x :: a, y :: b => by
    have := eqvAll_mapQ f hf a b
    simp only [List.map_cons, PyData.eqvAll, Bool.and_eq_true, hf, this, List.cons.injEq]
theorem pyL_mapQ {α : Type} (f : α → Dt) (g : α → PyData) (h : ∀ x, (f x).py = some (g x)) : ∀ l : List α, pyL (l.map f) = some (l.map g)
  | [] => by simp [pyL]
  | x :: l => by
    rw [List.map_cons, pyL, h, pyL_mapQ f g h l]
    rfl
theorem lay_mapQ {α : Type} (g : α → PyData) (h : ∀ x, PyData.canLay0 (g x) = true) : ∀ l : List α, PyData.canLayAll0 (l.map g) = true
  | [] => by simp [PyData.canLayAll0]
  | x :: l => by simp [PyData.canLayAll0, h x, lay_mapQ g h l]
theorem depth_mapQ {α : Type} (g : α → PyData) {n : Nat} (h : ∀ x, PyData.depth (g x) ≤ n) : ∀ l : List α, PyData.depthAll (l.map g) ≤ n
  | [] => by simp [PyData.depthAll]
  | x :: l => by
    have h1 := h x
    have h2 := depth_mapQ g h l
    rw [List.map_cons, PyData.depthAll]
    exact Nat.max_le.mpr ⟨h1, h2⟩
def dNs (l : List Nat) : Dt := .lst (l.map fun (j : Nat) => Dt.int (j : Int))
theorem eqv_nat (a b : Nat) : PyData.eqv (.int (a : Int)) (.int (b : Int)) = true ↔ a = b := by
  simp [PyData.eqv]
  omega
theorem eqNs {a b : List Nat} {C : Bool → Prop} (h : C (decide (a = b))) : eqAns (dNs a) (dNs b) C := by
  cases b with
  | nil =>
    have e : decide (a = []) = (a.map fun (j : Nat) => Dt.int (j : Int)).isEmpty := by cases a <;> simp
    rw [e] at h
    exact h
  | cons y b =>
    have hp : ∀ l : List Nat, pyL (l.map fun (j : Nat) => Dt.int (j : Int)) = some (l.map fun (j : Nat) => PyData.int (j : Int)) := pyL_mapQ _ _ fun x => by simp [Dt.py]
    have hl : ∀ l : List Nat, PyData.canLayAll0 (l.map fun (j : Nat) => PyData.int (j : Int)) = true := lay_mapQ _ fun x => by simp [PyData.canLay0]
    have hd : ∀ l : List Nat, PyData.depthAll (l.map fun (j : Nat) => PyData.int (j : Int)) ≤ 0 := depth_mapQ _ fun x => by simp [PyData.depth]
    have hs : ∀ l : List Nat, SeqAt.shaped (.list (l.map fun (j : Nat) => PyData.int (j : Int))) = true := fun l => by
      have := hd l
      unfold SeqAt.shaped
      rw [Bool.and_eq_true, decide_eq_true_eq]
      exact ⟨by simp only [PyData.canLay0, hl], by simp only [PyData.depth]; omega⟩
    refine ⟨.list (a.map fun (j : Nat) => PyData.int (j : Int)), .list ((y :: b).map fun (j : Nat) => PyData.int (j : Int)), by simp only [Dt.py, hp, Option.map_some], ?_, hs _, hs _, ?_⟩
    · have := hp (y :: b)
      simp only [Dt.py]
      exact congrArg _ this
    · have e : PyData.eqv (.list (a.map fun (j : Nat) => PyData.int (j : Int))) (.list ((y :: b).map fun (j : Nat) => PyData.int (j : Int))) = decide (a = y :: b) := by
        rw [Bool.eq_iff_iff, decide_eq_true_eq]
        simp only [PyData.eqv]
        exact eqvAll_mapQ _ eqv_nat _ _
      rw [e]
      exact h
def q2 (s : Int × Int) : PyData := .tuple [.int s.1, .int s.2]
def qSt (s : Std) : PyData := .tuple [.tuple ((runsC s.1).map q2), .int s.2]
theorem eqv_q2 (x y : Int × Int) : PyData.eqv (q2 x) (q2 y) = true ↔ x = y := by
  obtain ⟨a, b⟩ := x
  obtain ⟨a', b'⟩ := y
  simp [q2, PyData.eqv, PyData.eqvAll]
theorem py_q2 (s : Int × Int) : (dS s).py = some (q2 s) := by simp [dS, Dt.py, pyL, q2]
theorem py_qSt (s : Std) : (dSt s).py = some (qSt s) := by
  have := pyL_mapQ dS q2 py_q2 (runsC s.1)
  simp [dSt, dN, Dt.py, pyL, qSt, this]
theorem lay_q2 (s : Int × Int) : PyData.canLay0 (q2 s) = true := by simp [q2, PyData.canLay0, PyData.canLayAll0]
theorem lay_qSt (s : Std) : PyData.canLay0 (qSt s) = true := by simp [qSt, PyData.canLay0, PyData.canLayAll0, lay_mapQ q2 lay_q2]
theorem depth_q2 (s : Int × Int) : PyData.depth (q2 s) ≤ 1 := by simp [q2, PyData.depth, PyData.depthAll]
theorem depth_qSt (s : Std) : PyData.depth (qSt s) ≤ 3 := by
  have := depth_mapQ q2 depth_q2 (runsC s.1)
  simp only [qSt, PyData.depth, PyData.depthAll]
  omega
theorem shaped_qSt (s : Std) : SeqAt.shaped (qSt s) = true := by
  have := depth_qSt s
  simp only [SeqAt.shaped, lay_qSt, Bool.true_and, decide_eq_true_eq]
  omega
theorem shaped_qSts (l : List Std) : SeqAt.shaped (.list (l.map qSt)) = true := by
  have := depth_mapQ qSt depth_qSt l
  unfold SeqAt.shaped
  rw [Bool.and_eq_true, decide_eq_true_eq]
  exact ⟨by simp only [PyData.canLay0, lay_mapQ qSt lay_qSt], by simp only [PyData.depth]; omega⟩
theorem runs_injQ {k : Keeper} (ko : KeeperOk k) {s t : Std} (hs : GoodS k s) (ht : GoodS k t) (h : runsC s.1 = runsC t.1) : s.1 = t.1 := by
  rw [← (hs.pls ko).1.places, ← (ht.pls ko).1.places, h]
theorem eqv_qSt {k : Keeper} (ko : KeeperOk k) {s t : Std} (hs : GoodS k s) (ht : GoodS k t) : PyData.eqv (qSt s) (qSt t) = true ↔ s = t := by
  simp only [qSt, PyData.eqv, PyData.eqvAll, Bool.and_eq_true, eqvAll_mapQ q2 eqv_q2, and_true, beq_iff_eq, decide_eq_true_eq]
  constructor
  · rintro ⟨h1, h2⟩
    exact Prod.ext (runs_injQ ko hs ht h1) h2
  · rintro rfl
    exact ⟨rfl, rfl⟩
theorem eqSt {k : Keeper} (ko : KeeperOk k) {s t : Std} (hs : GoodS k s) (ht : GoodS k t) {C : Bool → Prop} (h : C (decide (s = t))) : eqAns (dSt s) (dSt t) C := by
  have e : PyData.eqv (qSt s) (qSt t) = decide (s = t) := by
    rw [Bool.eq_iff_iff, decide_eq_true_eq]
    exact eqv_qSt ko hs ht
  exact ⟨qSt s, qSt t, py_qSt s, py_qSt t, shaped_qSt s, shaped_qSt t, by rw [e]; exact h⟩

end Ck
namespace Ck
open PySem PySem.Spec PyProof.Rows L2
local macro_rules | `(tactic| walk_at "ck") => `(tactic| try simp only [wNLen, wNSort, wNDictT, wWk, fTupX, wIndexN, wNNew, wNGet, wNIn, wNGetD, wNPut, wNDictL, wNDisp1, wiKeysN, wPopTo, strtD, nkG, nkP, Dt.opq.injEq, L2.V.ref.injEq, wNext, wBrk, wCnt, wSeq, wRet, wRetN, wSet, wOwn, wDrop, wUnp, wPar, wIfS, wApp, wExt, wSetIx, wAug, wFrz, wFor, wShp, wMx, wMN, wMD, wMO, setMx, k_var, k_vk1, k_vk2, k_par, wC, wL, wOp, wOpL, wF, wFL, wNil, wCons, wTup, wLst, wTV, wTAnd, wTOr, wTNot, wAnd, wOr, wNot, wIfx, wIsN, wNotN, wChain, wO0, wO1, wSl, wCall, wIsi, wLr1, wLr2, wNeg, wLc, wYes, wiSeq, wiR1, wiR2, wiEnum, wiZip, noOwnB, wipeD, wEmp, wListZip, wSortSet, wRevL, wRevT, wOneB, wParOD, wParDO, wParOO, wIndex, wNever, wUnp2, k_s20, k_s21, Option.bind_some, Option.map_some, wDNew, wDPut, wDGet, wDGetD, wDIn, wFrzD, wiKeys, Sv.dic.injEq, keysD, keyD, k_mulT, k_add1, k_add2, k_add3, k_add4, k_addL, k_sub, k_mul1, k_mul2, k_mulL, k_div, k_mod, k_pow, k_cmp, k_eq, k_ne, k_ea1, k_ea2, k_ea3, k_ea4, k_in1, k_in2, k_in3, k_in4, k_ix1, k_ix2, k_ix3, k_sl1, k_sl2, k_len1, k_len2, k_len3, k_int1, k_int2, k_abs, k_tuple1, k_tuple2, k_list1, k_list2, k_min2, k_max2, k_non_non, k_ty_int_non, k_ty_bool_non, k_ty_tuple_non, k_ty_str_non, k_ty_list_non, k_non_bl, k_ty_int_bl, k_ty_bool_bl, k_ty_tuple_bl, k_ty_str_bl, k_ty_list_bl, k_non_int, k_ty_int_int, k_ty_bool_int, k_ty_tuple_int, k_ty_str_int, k_ty_list_int, k_non_str, k_ty_int_str, k_ty_bool_str, k_ty_tuple_str, k_ty_str_str, k_ty_list_str, k_non_tup, k_ty_int_tup, k_ty_bool_tup, k_ty_tuple_tup, k_ty_str_tup, k_ty_list_tup, k_non_lst, k_ty_int_lst, k_ty_bool_lst, k_ty_tuple_lst, k_ty_str_lst, k_ty_list_lst, k_non_emp, k_ty_int_emp, k_ty_bool_emp, k_ty_tuple_emp, k_ty_str_emp, k_ty_list_emp, k_seq_non, k_seq_bl, k_seq_int, k_seq_str, k_seq_tup, k_seq_lst, k_seq_emp, k_sz0, k_sz1, k_sz2, k_sz3, k_sz4, k_sz5, k_sz6, k_sz7, k_sz8, k_sz9, k_sz10, k_sz11, k_sz12, k_sz13, k_sz14, k_sz15, k_sz16, k_sz17, k_sz18, k_sz19, k_sz20, k_sz21, k_sz22, k_sz23, k_at0, k_at1, k_at2, k_at3, k_iteT, k_iteF, k_bt1, k_bt2, k_sa0, k_sa1, k_endn, k_endr, List.getElem?_cons_succ, List.getElem?_cons_zero, List.set_cons_succ, List.set_cons_zero, List.length_cons, List.length_nil, List.length_map, List.all_cons, List.all_nil, Nat.reduceAdd, Nat.zero_add, Bool.and_true, Bool.and_self, Option.some.injEq, Dt.int.injEq, Dt.bl.injEq, Dt.str.injEq, Dt.tup.injEq, Dt.lst.injEq, Sv.dat.injEq, Sv.own.injEq, exists_eq_left', exists_eq_left, exists_eq_right, exists_eq', exists_eq, if_true, if_false, Bool.not_false, Bool.not_true, Bool.not_not, true_and, and_true, false_and, and_false, exists_const, reduceCtorEq])
open Kp (Gr Ok Row PRow Least Best Mean Found en co wt wt1 HInv Fix addR bigR allE room)
def tightL (k : Keeper) (p q : Int) (h : Std → Int) (s : Std) : List Nat := (plcs k).filter fun j => decide (costS k s (pl j) * q - p + h (nxt k s (pl j)) = h s)
def S_tight_places : Spc NkT := ⟨fun ds w C => ∃ k W a fz c fz2 p q h s, ds = [.opq (.ref a), .opq (.ref c), pairD (p, q), dSt s] ∧ (KeeperOk k ∧ WebF k W) ∧ (w.2 a = some (fz, webE k W) ∧ w.2 c = some (fz2, intE W h)) ∧ ((0 ≤ p ∧ p < 2 ^ 45) ∧ (1 ≤ q ∧ q ≤ 256) ∧ s ∈ W) ∧ C (dNs (tightL k p q h s)) w,
  fun ds w C C2 h z => by
    obtain ⟨k, W, a, fz, c, fz2, p, q, hh, s, h1, h2, h3, h4, h5⟩ := z
    exact ⟨k, W, a, fz, c, fz2, p, q, hh, s, h1, h2, h3, h4, h _ _ h5⟩⟩
abbrev p_tight_places : DS NkT :=
  (wSeq (wOwn 4 (wLst wNil))
  (wSeq (wFor (.two 5 [6, 7]) (wiEnum (wNGet nkG (wVar 0) (wVar 3))) (wIfS (wTV (wOp fEq (wOp fAdd (wOp fSub (wOp fMul (wVar 7) (wOp fIx (wVar 2) (wC (.int 1)))) (wOp fIx (wVar 2) (wC (.int 0)))) (wNGet nkG (wVar 1) (wVar 6))) (wNGet nkG (wVar 1) (wVar 3)))) (wApp 4 (wVar 5)) wNext))
  (wFrz 4 (wRet (wVar 4)))))
theorem enum_range (n : Nat) (f : Nat → Dt) : enumD ((List.range n).map f) = (List.range n).map fun j => Dt.tup [.int (j : Nat), f j] := by
  unfold enumD
  refine List.ext_getElem? fun i => ?_
  rw [List.getElem?_mapIdx, List.getElem?_map, List.getElem?_map]
  by_cases h : i < n
  · rw [List.getElem?_range h]
    rfl
  · rw [List.getElem?_eq_none (by rw [List.length_range]; omega)]
    rfl
theorem m_tight_places : ∀ ds w C, S_tight_places.run ds w C → p_tight_places (endD C) (startD 8 ds) w := by
  rintro ds ⟨d, m⟩ C ⟨k, W, a, fz, c, fz2, p, q, h, s, rfl, ⟨ko, wf⟩, ⟨hm, hc⟩, ⟨⟨p0, p1⟩, ⟨q0, q1⟩, hsW⟩, qq⟩
  show p_tight_places _ [some (.dat (.opq (.ref a))), some (.dat (.opq (.ref c))), some (.dat (.tup [.int p, .int q])), some (.dat (dSt s)), none, none, none, none] _
  have hm : m a = some (fz, webE k W) := hm
  have hc : m c = some (fz2, intE W h) := hc
  have gs := wf.good s hsW
  have hw := ko.w
  unfold p_tight_places
  walk_at "ck"
  refine ⟨fz, webE k W, _, hm, keyN_some s, webE_in ko wf.good gs hsW, stepsD k s, rfl, ?_⟩
  rw [show enumD (stepsD k s) = (plcs k).map fun (j : Nat) => Dt.tup [.int (j : Nat), .tup [dSt (nxt k s (pl j)), .int (costS k s (pl j))]] from enum_range _ _]
  refine loop_W0 (fun (j : Nat) => Dt.tup [.int (j : Nat), .tup [dSt (nxt k s (pl j)), .int (costS k s (pl j))]]) (fun j2 sl w => ∃ x5 x6 x7, sl = [some (.dat (.opq (.ref a))), some (.dat (.opq (.ref c))), some (.dat (.tup [.int p, .int q])), some (.dat (dSt s)), some (.own ((((plcs k).take j2).filter fun j => decide (costS k s (pl j) * q - p + h (nxt k s (pl j)) = h s)).map fun (j : Nat) => Dt.int (j : Int))), x5, x6, x7] ∧ w = (d, m)) (plcs k) ?_ ?_ ?_
  · rintro j2 x sl w hx ⟨x5, x6, x7, rfl, rfl⟩
    have hxP : x ∈ plcs k := List.mem_of_getElem? hx
    have gn := gs.nxt ko hxP
    have hnW : nxt k s (pl x) ∈ W := wf.cl s hsW _ (List.mem_map.mpr ⟨x, hxP, rfl⟩)
    have cb := costS_0 ko gs hxP
    have hlen : (((plcs k).take j2).filter fun j => decide (costS k s (pl j) * q - p + h (nxt k s (pl j)) = h s)).length ≤ 1000 := by
      have h1 := List.length_filter_le (fun j => decide (costS k s (pl j) * q - p + h (nxt k s (pl j)) = h s)) ((plcs k).take j2)
      rw [List.length_take, List.length_range] at h1
      omega
    refine ⟨_, rfl, fun N2 hN2 => ?_⟩
    walk_at "ck"
    refine ⟨mulx60 (by omega) (by omega) (by omega) (by omega), fz2, _, _, hc, keyN_some _, intE_in ko wf.good gn hnW, ?_⟩
    walk_at "ck"
    refine ⟨fz2, _, _, hc, keyN_some s, intE_in ko wf.good gs hsW, ?_⟩
    walk_at "ck"
    have etk : (plcs k).take (j2 + 1) = (plcs k).take j2 ++ [x] := by rw [List.take_add_one, hx]; rfl
    refine ite2 (fun hd => ?_) fun hd => ?_
    · refine ⟨size1M' (by omega), hN2 _ _ ⟨some (.dat (.int (x : Nat))), some (.dat (dSt (nxt k s (pl x)))), some (.dat (.int (costS k s (pl x)))), ?_, rfl⟩⟩
      rw [etk, List.filter_append, List.map_append, List.filter_cons_of_pos (by simpa using hd)]
      rfl
    · refine hN2 _ _ ⟨some (.dat (.int (x : Nat))), some (.dat (dSt (nxt k s (pl x)))), some (.dat (.int (costS k s (pl x)))), ?_, rfl⟩
      rw [etk, List.filter_append, List.map_append, List.filter_cons_of_neg (by simpa using hd), List.filter_nil, List.map_nil, List.append_nil]
  · exact ⟨none, none, none, rfl, rfl⟩
  · rintro sl w ⟨x5, x6, x7, rfl, rfl⟩
    rw [List.take_length]
    walk_at "ck"
    exact qq

end Ck
namespace Ck
open PySem PySem.Spec PyProof.Rows L2
local macro_rules | `(tactic| walk_at "ck") => `(tactic| try simp only [wNLen, wNSort, wNDictT, wWk, fTupX, wIndexN, wNNew, wNGet, wNIn, wNGetD, wNPut, wNDictL, wNDisp1, wiKeysN, wPopTo, strtD, nkG, nkP, Dt.opq.injEq, L2.V.ref.injEq, wNext, wBrk, wCnt, wSeq, wRet, wRetN, wSet, wOwn, wDrop, wUnp, wPar, wIfS, wApp, wExt, wSetIx, wAug, wFrz, wFor, wShp, wMx, wMN, wMD, wMO, setMx, k_var, k_vk1, k_vk2, k_par, wC, wL, wOp, wOpL, wF, wFL, wNil, wCons, wTup, wLst, wTV, wTAnd, wTOr, wTNot, wAnd, wOr, wNot, wIfx, wIsN, wNotN, wChain, wO0, wO1, wSl, wCall, wIsi, wLr1, wLr2, wNeg, wLc, wYes, wiSeq, wiR1, wiR2, wiEnum, wiZip, noOwnB, wipeD, wEmp, wListZip, wSortSet, wRevL, wRevT, wOneB, wParOD, wParDO, wParOO, wIndex, wNever, wUnp2, k_s20, k_s21, Option.bind_some, Option.map_some, wDNew, wDPut, wDGet, wDGetD, wDIn, wFrzD, wiKeys, Sv.dic.injEq, keysD, keyD, k_mulT, k_add1, k_add2, k_add3, k_add4, k_addL, k_sub, k_mul1, k_mul2, k_mulL, k_div, k_mod, k_pow, k_cmp, k_eq, k_ne, k_ea1, k_ea2, k_ea3, k_ea4, k_in1, k_in2, k_in3, k_in4, k_ix1, k_ix2, k_ix3, k_sl1, k_sl2, k_len1, k_len2, k_len3, k_int1, k_int2, k_abs, k_tuple1, k_tuple2, k_list1, k_list2, k_min2, k_max2, k_non_non, k_ty_int_non, k_ty_bool_non, k_ty_tuple_non, k_ty_str_non, k_ty_list_non, k_non_bl, k_ty_int_bl, k_ty_bool_bl, k_ty_tuple_bl, k_ty_str_bl, k_ty_list_bl, k_non_int, k_ty_int_int, k_ty_bool_int, k_ty_tuple_int, k_ty_str_int, k_ty_list_int, k_non_str, k_ty_int_str, k_ty_bool_str, k_ty_tuple_str, k_ty_str_str, k_ty_list_str, k_non_tup, k_ty_int_tup, k_ty_bool_tup, k_ty_tuple_tup, k_ty_str_tup, k_ty_list_tup, k_non_lst, k_ty_int_lst, k_ty_bool_lst, k_ty_tuple_lst, k_ty_str_lst, k_ty_list_lst, k_non_emp, k_ty_int_emp, k_ty_bool_emp, k_ty_tuple_emp, k_ty_str_emp, k_ty_list_emp, k_seq_non, k_seq_bl, k_seq_int, k_seq_str, k_seq_tup, k_seq_lst, k_seq_emp, k_sz0, k_sz1, k_sz2, k_sz3, k_sz4, k_sz5, k_sz6, k_sz7, k_sz8, k_sz9, k_sz10, k_sz11, k_sz12, k_sz13, k_sz14, k_sz15, k_sz16, k_sz17, k_sz18, k_sz19, k_sz20, k_sz21, k_sz22, k_sz23, k_at0, k_at1, k_at2, k_at3, k_iteT, k_iteF, k_bt1, k_bt2, k_sa0, k_sa1, k_endn, k_endr, List.getElem?_cons_succ, List.getElem?_cons_zero, List.set_cons_succ, List.set_cons_zero, List.length_cons, List.length_nil, List.length_map, List.all_cons, List.all_nil, Nat.reduceAdd, Nat.zero_add, Bool.and_true, Bool.and_self, Option.some.injEq, Dt.int.injEq, Dt.bl.injEq, Dt.str.injEq, Dt.tup.injEq, Dt.lst.injEq, Sv.dat.injEq, Sv.own.injEq, exists_eq_left', exists_eq_left, exists_eq_right, exists_eq', exists_eq, if_true, if_false, Bool.not_false, Bool.not_true, Bool.not_not, true_and, and_true, false_and, and_false, exists_const, reduceCtorEq])
open Kp (Gr Ok Row PRow Least Best Mean Found en co wt wt1 HInv Fix addR bigR allE room Ring Inside)
/-! ### dicts of lists of places -/
def plE (W : List Std) (P : Std → List Nat) : DEnt := W.map fun s => (dSt s, dNs (P s))
theorem plE_in {k : Keeper} (ko : KeeperOk k) {R : List Std} {P : Std → List Nat} (g : ∀ s ∈ R, GoodS k s) {t : Std} (gt : GoodS k t) (h : t ∈ R) : valN (plE R P) (dSt t) = some (dNs (P t)) :=
  valN_in (g := fun s => dNs (P s)) h fun c hc e => by
    rw [keyN_dSt, keyN_dSt] at e
    exact kSt_inj ko (g c hc) gt (Option.some.inj e)
theorem plE_out {k : Keeper} (ko : KeeperOk k) {R : List Std} {P : Std → List Nat} (g : ∀ s ∈ R, GoodS k s) {t : Std} (gt : GoodS k t) (h : t ∉ R) : valN (plE R P) (dSt t) = none :=
  valN_out (g := fun s => dNs (P s)) fun c hc e => by
    rw [keyN_dSt, keyN_dSt] at e
    exact h (kSt_inj ko (g c hc) gt (Option.some.inj e) ▸ hc)
theorem plE_new {k : Keeper} (ko : KeeperOk k) {R : List Std} {P : Std → List Nat} (g : ∀ s ∈ R, GoodS k s) {t : Std} (gt : GoodS k t) (h : t ∉ R) : putN (plE R P) (dSt t) (dNs (P t)) = plE (R ++ [t]) P := by
  rw [putN_new (plE_out ko g gt h)]
  simp [plE]
def upP (P : Std → List Nat) (t : Std) (l : List Nat) : Std → List Nat := fun s => if s = t then l else P s
theorem plE_set {k : Keeper} (ko : KeeperOk k) {R : List Std} {P : Std → List Nat} (g : ∀ s ∈ R, GoodS k s) {t : Std} (gt : GoodS k t) (h : t ∈ R) (l : List Nat) : putN (plE R P) (dSt t) (dNs l) = plE R (upP P t l) := by
  unfold putN
  rw [plE_in ko g gt h, if_pos (show (some (dNs (P t))).isSome = true from rfl)]
  unfold plE
  rw [List.map_map]
  refine List.map_congr_left fun y hy => ?_
  show (if keyN (dSt y) = keyN (dSt t) then (dSt y, dNs l) else (dSt y, dNs (P y))) = (dSt y, dNs (upP P t l y))
  unfold upP
  by_cases e : y = t
  · rw [if_pos (by rw [e]), if_pos e]
  · rw [if_neg (fun q => e (kSt_inj ko (g y hy) gt (by rw [keyN_dSt, keyN_dSt] at q; exact Option.some.inj q))), if_neg e]
/-- how many places there are -/
def many (W : List Std) (P : Std → List Nat) : Nat := (W.map fun s => (P s).length).sum
theorem many_up {P : Std → List Nat} {t : Std} {l : List Nat} (h : l.length < (P t).length) : ∀ {W : List Std}, W.Nodup → t ∈ W → many W (upP P t l) < many W P
  | [], _, hs => nomatch hs
  | s :: W, nd, hs => by
    obtain ⟨hn, nd'⟩ := List.nodup_cons.mp nd
    have same : ∀ {V : List Std}, t ∉ V → many V (upP P t l) = many V P := fun {V} hv => by
      unfold many
      refine congrArg List.sum (List.map_congr_left fun y hy => ?_)
      unfold upP
      rw [if_neg (fun z : y = t => hv (by rw [← z]; exact hy))]
    show (upP P t l s).length + many W (upP P t l) < (P s).length + many W P
    rcases List.mem_cons.mp hs with rfl | hs
    · rw [same hn]
      unfold upP
      rw [if_pos rfl]
      omega
    · have ih := many_up (P := P) h nd' hs
      have : upP P t l s = P s := by
        unfold upP
        exact if_neg fun z : s = t => hn (by rw [z]; exact hs)
      rw [this]
      omega
def leftL (k : Keeper) (P : Std → List Nat) (s : Std) : List Nat := (P s).filter fun j => decide (P (nxt k s (pl j)) ≠ [])
/-- edges of rings of tight ones are all there -/
def MxP (k : Keeper) (W : List Std) (p q : Int) (h : Std → Int) (P : Std → List Nat) : Prop := ∀ E : List (Std × Nat), Ring (gK k W) E → (∀ e ∈ E, e.1 ∈ W) → Inside E (tightL k p q h) → Inside E P
/-- the open places: tight ones, each leading to a standing with such a place; all there are -/
structure OpenOk (k : Keeper) (W : List Std) (p q : Int) (h : Std → Int) (P : Std → List Nat) : Prop where
  sub : ∀ s ∈ W, ∃ f : Nat → Bool, P s = (tightL k p q h s).filter f
  on : ∀ s ∈ W, ∀ j ∈ P s, P (nxt k s (pl j)) ≠ []
  mx : MxP k W p q h P
  ne : ∃ s ∈ W, P s ≠ []
theorem tight_mem {k : Keeper} {p q : Int} {h : Std → Int} {s : Std} {j : Nat} : j ∈ tightL k p q h s ↔ j ∈ plcs k ∧ costS k s (pl j) * q - p + h (nxt k s (pl j)) = h s := by
  unfold tightL
  rw [List.mem_filter, decide_eq_true_eq]
theorem OpenOk.tight {k : Keeper} {W : List Std} {p q : Int} {h : Std → Int} {P : Std → List Nat} (o : OpenOk k W p q h P) : ∀ s ∈ W, ∀ j ∈ P s, j ∈ plcs k ∧ costS k s (pl j) * q - p + h (nxt k s (pl j)) = h s := fun s hs j hj => by
  obtain ⟨f, e⟩ := o.sub s hs
  rw [e] at hj
  exact tight_mem.mp (List.mem_filter.mp hj |>.1)
theorem tight_len {k : Keeper} (ko : KeeperOk k) {p q : Int} {h : Std → Int} {s : Std} : (tightL k p q h s).length ≤ 8 := by
  have hw := ko.w
  have h1 := List.length_filter_le (fun j => decide (costS k s (pl j) * q - p + h (nxt k s (pl j)) = h s)) (plcs k)
  have h2 : (plcs k).length = k.w.toNat := List.length_range
  show ((plcs k).filter _).length ≤ 8
  omega
theorem sub_len {k : Keeper} (ko : KeeperOk k) {W : List Std} {p q : Int} {h : Std → Int} {P : Std → List Nat} (o : ∀ s ∈ W, ∃ f : Nat → Bool, P s = (tightL k p q h s).filter f) : ∀ s ∈ W, (P s).length ≤ 8 := fun s hs => by
  obtain ⟨f, e⟩ := o s hs
  rw [e]
  exact Nat.le_trans (List.length_filter_le _ _) (tight_len ko)
theorem allP_mem {W : List Std} {P : Std → List Nat} {e : Std × Nat} : e ∈ W.flatMap (fun s => (P s).map fun j => (s, j)) ↔ e.1 ∈ W ∧ e.2 ∈ P e.1 := by
  rw [List.mem_flatMap]
  constructor
  · rintro ⟨s, hs, h⟩
    obtain ⟨j, hj, rfl⟩ := List.mem_map.mp h
    exact ⟨hs, hj⟩
  · rintro ⟨h1, h2⟩
    exact ⟨e.1, h1, List.mem_map.mpr ⟨e.2, h2, rfl⟩⟩
theorem OpenOk.ring {k : Keeper} {W : List Std} (wf : WebF k W) {p q : Int} {h : Std → Int} {P : Std → List Nat} (o : OpenOk k W p q h P) : Ring (gK k W) (W.flatMap fun s => (P s).map fun j => (s, j)) := by
  refine ⟨fun z => ?_, fun e he => ?_⟩
  · obtain ⟨s, hs, hn⟩ := o.ne
    obtain ⟨j, hj⟩ := List.exists_mem_of_ne_nil _ hn
    have : (s, j) ∈ W.flatMap fun s => (P s).map fun j => (s, j) := allP_mem.mpr ⟨hs, hj⟩
    rw [z] at this
    cases this
  · obtain ⟨h1, h2⟩ := allP_mem.mp he
    obtain ⟨j, hj⟩ := List.exists_mem_of_ne_nil _ (o.on _ h1 _ h2)
    have hP := (o.tight _ h1 _ h2).1
    exact ⟨(nxt k e.1 (pl e.2), j), allP_mem.mpr ⟨wf.cl _ h1 _ (List.mem_map.mpr ⟨e.2, hP, rfl⟩), hj⟩, rfl⟩
theorem OpenOk.le {k : Keeper} {W : List Std} (wf : WebF k W) {p q : Int} {h : Std → Int} {P P' : Std → List Nat} (o : OpenOk k W p q h P) (o' : OpenOk k W p q h P') : ∀ s ∈ W, ∀ j ∈ P s, j ∈ P' s := fun s hs j hj =>
  o'.mx _ (o.ring wf) (fun e he => (allP_mem.mp he).1) (fun e he => tight_mem.mpr (o.tight _ (allP_mem.mp he).1 _ (allP_mem.mp he).2)) (s, j) (allP_mem.mpr ⟨hs, hj⟩)
theorem MxP.step {k : Keeper} {W : List Std} {p q : Int} {h : Std → Int} {P : Std → List Nat} (m : MxP k W p q h P) (s : Std) : MxP k W p q h (upP P s (leftL k P s)) := fun E r hE i => by
  have h1 := (m E r hE i).step r s
  exact fun e he => h1 e he
theorem stepsD_at {k : Keeper} {s : Std} {j : Nat} (h : j ∈ plcs k) : L2.atI (stepsD k s) (j : Int) = some (.tup [dSt (nxt k s (pl j)), .int (costS k s (pl j))]) :=
  atI_ofNat (by unfold stepsD; rw [List.getElem?_map, List.getElem?_range (List.mem_range.mp h)]; rfl)
def S_open_places : Spc NkT := ⟨fun ds w C => ∃ k W a fz c fz2 p q h, ds = [.opq (.ref a), .opq (.ref c), pairD (p, q)] ∧ (KeeperOk k ∧ WebF k W) ∧ (a ≠ c ∧ w.2 a = some (fz, webE k W) ∧ w.2 c = some (fz2, intE W h)) ∧ (Mean (gK k W) p q ∧ (0 ≤ p ∧ p < 2 ^ 45) ∧ (1 ≤ q ∧ q ≤ 256)) ∧ HgtOk k W p q h ∧ ∀ (P : Std → List Nat) (b : Addr) (m' : Dm), OpenOk k W p q h P → b ≠ a → b ≠ c → w.2 b = none → m' b = some (false, plE W P) → m' a = some (true, webE k W) → (∀ x y, x ≠ a → w.2 x = some y → m' x = some y) → C (.opq (.ref b)) (w.1, m'),
  fun ds w C C2 hh z => by
    obtain ⟨k, W, a, fz, c, fz2, p, q, h, h1, h2, h3, h4, h5, h6⟩ := z
    exact ⟨k, W, a, fz, c, fz2, p, q, h, h1, h2, h3, h4, h5, fun P b m2 x1 x2 x3 x4 x5 x6 x7 => hh _ _ (h6 P b m2 x1 x2 x3 x4 x5 x6 x7)⟩⟩
abbrev p_open_places : DS NkT :=
  (wSeq (wUnp [3, 4] (wTup (wCons (wNNew nkG nkP) (wCons (wC (.bl true)) wNil))))
  (wSeq (wFor (.one 5) (wiKeysN nkG nkP (wVar 0)) (wNPut nkG nkP (wCall S_tight_places (wCons (wVar 0) (wCons (wVar 1) (wCons (wVar 2) (wCons (wVar 5) wNil))))) (wVar 3) (wVar 5)))
  (wSeq (wWhile (wTV (wVar 4)) (wSeq (wSet 4 (wC (.bl false)))
  (wFor (.one 5) (wiKeysN nkG nkP (wVar 0)) (wSeq (wSet 6 (wL (wLc [7] (.one 7) (wiSeq (wNGet nkG (wVar 3) (wVar 5))) (wTV (wOp fNe (wNGet nkG (wVar 3) (wOp fIx (wOp fIx (wNGet nkG (wVar 0) (wVar 5)) (wVar 7)) (wC (.int 0)))) (wL (wLst wNil)))) (wVar 7))))
  (wIfS (wTV (wOp fNe (wVar 6) (wNGet nkG (wVar 3) (wVar 5)))) (wSeq (wNPut nkG nkP (wVar 6) (wVar 3) (wVar 5))
  (wSet 4 (wC (.bl true)))) wNext)))))
  (wRet (wVar 3)))))
theorem m_open_places : ∀ ds w C, S_open_places.run ds w C → p_open_places (endD C) (startD 8 ds) w := by
  rintro ds ⟨d, m⟩ C ⟨k, W, a, fz, c, fz2, p, q, h, rfl, ⟨ko, wf⟩, ⟨hac, hm, hc⟩, ⟨mn, ⟨p0, p1⟩, q0, q1⟩, ho, qq⟩
  show p_open_places _ [some (.dat (.opq (.ref a))), some (.dat (.opq (.ref c))), some (.dat (.tup [.int p, .int q])), none, none, none, none, none] _
  have hm : m a = some (fz, webE k W) := hm
  have hc : m c = some (fz2, intE W h) := hc
  have ok := gK_ok ko wf
  have hwl := wf.len ko
  have hw := ko.w
  have goodW : ∀ s ∈ W, GoodS k s := wf.good
  have e1 : (webE k W).map (fun x => x.fst) = W.map dSt := by
    rw [webE, List.map_map]
    rfl
  unfold p_open_places
  walk_at "ck"
  intro b hb
  have hba : b ≠ a := fun z => by rw [z, hm] at hb; cases hb
  have hbc : b ≠ c := fun z => by rw [z, hc] at hb; cases hb
  refine ⟨a, fz, webE k W, rfl, by rw [updN_ne (Ne.symm hba)]; exact hm, ?_⟩
  rw [e1]
  refine loop_W0 dSt (fun j sl w => ∃ x5 x6 m', ∃ x7 : Option Dt, sl = [some (.dat (.opq (.ref a))), some (.dat (.opq (.ref c))), some (.dat (.tup [.int p, .int q])), some (.dat (.opq (.ref b))), some (.dat (.bl true)), x5, x6, x7.map .dat] ∧ w = (d, m') ∧ m' b = some (false, plE (W.take j) (tightL k p q h)) ∧ m' a = some (true, webE k W) ∧ (∀ x y, x ≠ a → m x = some y → m' x = some y)) W ?_ ?_ ?_
  · rintro j s sl w hs ⟨x5, x6, m', x7, rfl, rfl, hb', ha', ho'⟩
    have hsW : s ∈ W := List.mem_of_getElem? hs
    have gs := goodW s hsW
    refine ⟨_, rfl, fun N hN => ?_⟩
    walk_at "ck"
    have etk : W.take (j + 1) = W.take j ++ [s] := by rw [List.take_add_one, hs]; rfl
    have hns : s ∉ W.take j := fun z => by
      have h1 : (W.take (j + 1)).Nodup := wf.nd.sublist (List.take_sublist _ _)
      rw [etk] at h1
      exact (List.nodup_append.mp h1).2.2 s z s (by simp) rfl
    have gt : ∀ t ∈ W.take j, GoodS k t := fun t ht => goodW t (List.mem_of_mem_take ht)
    refine ⟨k, W, a, true, c, fz2, p, q, h, s, rfl, ⟨ko, wf⟩, ⟨ha', ho' c _ (Ne.symm hac) hc⟩, ⟨⟨p0, p1⟩, ⟨q0, q1⟩, hsW⟩, _, hb', ?_, keyN_some s, ?_⟩
    · rw [plE, List.length_map, List.length_take]
      exact size1M' (by omega)
    · rw [plE_new ko gt gs hns, ← etk]
      refine hN _ _ ⟨some (.dat (dSt s)), x6, _, x7, rfl, rfl, updN_same, ?_, fun x y hx hy => ?_⟩
      · show updN m' b _ a = _
        rw [updN_ne (Ne.symm hba)]
        exact ha'
      · show updN m' b _ x = _
        rw [updN_ne (fun z => by rw [z] at hy; rw [hb] at hy; cases hy)]
        exact ho' x y hx hy
  · refine ⟨none, none, _, none, rfl, rfl, ?_, updN_same, fun x y hx hy => ?_⟩
    · show updN (updN m b (false, [])) a _ b = _
      rw [updN_ne hba, updN_same, List.take_zero]
      rfl
    · show updN (updN m b (false, [])) a _ x = _
      rw [updN_ne hx, updN_ne (fun z => by rw [z] at hy; rw [hb] at hy; cases hy)]
      exact hy
  · rintro sl w ⟨x5, x6, m1, x7, rfl, rfl, hb1, ha1, ho1⟩
    rw [List.take_length] at hb1
    walk_at "ck"
    -- the ring
    obtain ⟨u, z, hu, hz, hz0, he, hwt⟩ := mn.rnd
    have ring : Ring (gK k W) (Kp.edges (gK k W) u z) := Kp.ring_of hz0 he
    have ins0 : Inside (Kp.edges (gK k W) u z) (tightL k p q h) := fun e hmem => by
      have t1 := ho.fix.tight ok hu hz (by rw [hwt, he]; omega) e hmem
      have t2 := (Kp.edges_in ok hu hz e hmem).2
      exact tight_mem.mpr ⟨t2, t1⟩
    refine ⟨fun n sl w => ∃ P fl x5 x6 m', ∃ x7 : Option Dt, sl = [some (.dat (.opq (.ref a))), some (.dat (.opq (.ref c))), some (.dat (.tup [.int p, .int q])), some (.dat (.opq (.ref b))), some (.dat (.bl fl)), x5, x6, x7.map .dat] ∧ w = (d, m') ∧ m' b = some (false, plE W P) ∧ m' a = some (true, webE k W) ∧ (∀ x y, x ≠ a → m x = some y → m' x = some y) ∧ MxP k W p q h P ∧ (∀ s ∈ W, ∃ f : Nat → Bool, P s = (tightL k p q h s).filter f) ∧ (fl = false → ∀ s ∈ W, leftL k P s = P s) ∧ n = 2 * many W P + (if fl = true then 1 else 0), ⟨_, _, true, _, _, m1, _, rfl, rfl, hb1, ha1, ho1, (fun E r hE i => i), (fun s hs => ⟨fun _ => true, (List.filter_eq_self.mpr fun _ _ => rfl).symm⟩), (fun z => nomatch z), rfl⟩, ?_⟩
    rintro n sl w ⟨P, fl, x5, x6, m2, x7, rfl, rfl, hb2, ha2, ho2, mx2, sub2, fx2, rfl⟩
    walk_at "ck"
    cases fl with
    | false =>
      refine ite2 (fun h => absurd h (by simp)) fun _ => ?_
      have fx := fx2 rfl
      refine qq P b m2 ⟨sub2, fun s hs j hj => ?_, mx2, ?_⟩ hba hbc hb hb2 ha2 ho2
      · rw [← fx s hs] at hj
        exact of_decide_eq_true (List.mem_filter.mp hj).2
      · obtain ⟨e, he⟩ := List.exists_mem_of_ne_nil _ ring.ne
        have h1 := mx2 _ ring (fun e he => (Kp.edges_in ok hu hz e he).1) ins0 e he
        exact ⟨e.1, (Kp.edges_in ok hu hz e he).1, fun z => by rw [z] at h1; cases h1⟩
    | true =>
      refine ite2 (fun _ => ?_) fun h => absurd h (by simp)
      refine ⟨a, true, webE k W, rfl, ha2, ?_⟩
      rw [e1]
      refine loop_W0 dSt (fun j sl w => ∃ P2 fl x5 x6 m3, ∃ x7 : Option Dt, sl = [some (.dat (.opq (.ref a))), some (.dat (.opq (.ref c))), some (.dat (.tup [.int p, .int q])), some (.dat (.opq (.ref b))), some (.dat (.bl fl)), x5, x6, x7.map .dat] ∧ w = (d, m3) ∧ m3 b = some (false, plE W P2) ∧ m3 a = some (true, webE k W) ∧ (∀ x y, x ≠ a → m x = some y → m3 x = some y) ∧ MxP k W p q h P2 ∧ (∀ s ∈ W, ∃ f : Nat → Bool, P2 s = (tightL k p q h s).filter f) ∧ (fl = true → many W P2 < many W P) ∧ (fl = false → P2 = P ∧ ∀ s ∈ W.take j, leftL k P s = P s)) W ?_ ?_ ?_
      · rintro j s sl w hs ⟨P2, fl, x5, x6, m3, x7, rfl, rfl, hb3, ha3, ho3, mx3, sub3, rt3, rf3⟩
        have hsW : s ∈ W := List.mem_of_getElem? hs
        have gs := goodW s hsW
        refine ⟨_, rfl, fun N hN => ?_⟩
        walk_at "ck"
        have l8 := sub_len ko sub3 s hsW
        refine ⟨false, _, _, hb3, keyN_some s, plE_in ko goodW gs hsW, _, rfl, by rw [List.length_map]; exact size1M (by omega), by cases x7 <;> rfl, ?_⟩
        have hPin : ∀ j ∈ P2 s, j ∈ plcs k := fun j hj => by
          obtain ⟨f, e⟩ := sub3 s hsW
          rw [e] at hj
          exact (tight_mem.mp (List.mem_filter.mp hj).1).1
        refine lc_typed (fun (j : Nat) => Dt.int (j : Int)) (fun j => decide (P2 (nxt k s (pl j)) ≠ [])) (fun (j : Nat) => Dt.int (j : Int)) (P2 s) (fun j hj => ?_) ?_
        · have hjP := hPin j hj
          have gn := gs.nxt ko hjP
          have hnW : nxt k s (pl j) ∈ W := wf.cl s hsW _ (List.mem_map.mpr ⟨j, hjP, rfl⟩)
          refine ⟨_, rfl, fun C hC => ?_, fun _ C hC => ?_⟩
          · walk_at "ck"
            refine ⟨true, _, _, ha3, keyN_some s, webE_in ko wf.good gs hsW, _, stepsD_at hjP, ?_⟩
            walk_at "ck"
            refine ⟨false, _, _, hb3, keyN_some _, plE_in ko goodW gn hnW, ?_⟩
            refine eqNs (b := []) ?_
            rw [← decide_not]
            exact hC
          · walk_at "ck"
            exact hC
        · refine ⟨false, _, _, hb3, keyN_some s, plE_in ko goodW gs hsW, ?_⟩
          show eqAns (dNs (leftL k P2 s)) (dNs (P2 s)) _
          refine eqNs ?_
          have hfl : leftL k P2 s ≠ P2 s → (leftL k P2 s).length < (P2 s).length := fun z => by
            have h1 : (leftL k P2 s).length ≤ (P2 s).length := List.length_filter_le _ _
            refine Nat.lt_of_le_of_ne h1 fun h2 => z ?_
            exact List.filter_eq_self.mpr (List.length_filter_eq_length_iff.mp h2)
          refine ite2 (fun hd => ?_) fun hd => ?_
          · have hd : leftL k P2 s ≠ P2 s := by simpa using hd
            refine ⟨_, hb3, by rw [plE, List.length_map]; exact size1M' (by omega), keyN_some s, ?_⟩
            rw [show Dt.lst ((List.filter (fun j => decide (P2 (nxt k s (pl j)) ≠ [])) (P2 s)).map fun (j : Nat) => Dt.int (j : Int)) = dNs (leftL k P2 s) from rfl, plE_set ko goodW gs hsW]
            have hlt := many_up (P := P2) (hfl hd) wf.nd hsW
            refine hN _ _ ⟨upP P2 s (leftL k P2 s), true, _, _, _, x7, rfl, rfl, updN_same, ?_, fun x y hx hy => ?_, mx3.step s, fun t ht => ?_, fun _ => ?_, fun z => nomatch z⟩
            · show updN m3 b _ a = _
              rw [updN_ne (Ne.symm hba)]
              exact ha3
            · show updN m3 b _ x = _
              rw [updN_ne (fun z => by rw [z, hb] at hy; cases hy)]
              exact ho3 x y hx hy
            · by_cases z : t = s
              · subst z
                obtain ⟨f, e⟩ := sub3 t ht
                refine ⟨fun j => f j && decide (P2 (nxt k t (pl j)) ≠ []), ?_⟩
                show (if t = t then leftL k P2 t else P2 t) = _
                rw [if_pos rfl]
                unfold leftL
                rw [e, List.filter_filter]
                refine List.filter_congr fun x _ => ?_
                rw [Bool.and_comm]
              · obtain ⟨f, e⟩ := sub3 t ht
                exact ⟨f, by rw [← e]; exact if_neg z⟩
            · cases fl with
              | true =>
                have := rt3 rfl
                omega
              | false =>
                rw [(rf3 rfl).1] at hlt ⊢
                exact hlt
          · have hd : leftL k P2 s = P2 s := by simpa using hd
            refine hN _ _ ⟨P2, fl, _, _, m3, x7, rfl, rfl, hb3, ha3, ho3, mx3, sub3, rt3, fun z => ⟨(rf3 z).1, fun t ht => ?_⟩⟩
            rw [List.take_add_one, hs] at ht
            rcases List.mem_append.mp ht with ht | ht
            · exact (rf3 z).2 t ht
            · have ht : t = s := by simpa using ht
              rw [ht, ← (rf3 z).1]
              exact hd
      · refine ⟨P, false, x5, x6, _, x7, rfl, rfl, ?_, updN_same, fun x y hx hy => ?_, mx2, sub2, (fun z => nomatch z), fun _ => ⟨rfl, fun s hs => by rw [List.take_zero] at hs; cases hs⟩⟩
        · show updN m2 a _ b = _
          rw [updN_ne hba]
          exact hb2
        · show updN m2 a _ x = _
          rw [updN_ne hx]
          exact ho2 x y hx hy
      · rintro sl w ⟨P2, fl, x5, x6, m3, x7, rfl, rfl, hb3, ha3, ho3, mx3, sub3, rt3, rf3⟩
        rw [List.take_length] at rf3
        refine ⟨2 * many W P2 + (if fl = true then 1 else 0), ?_, P2, fl, x5, x6, m3, x7, rfl, rfl, hb3, ha3, ho3, mx3, sub3, fun z => ?_, rfl⟩
        · cases fl with
          | true =>
            have := rt3 rfl
            simp only [if_true]
            omega
          | false =>
            rw [(rf3 rfl).1]
            simp
        · obtain ⟨e, f⟩ := rf3 z
          rw [e]
          exact f

end Ck
namespace Ck
open PySem PySem.Spec PyProof.Rows L2
local macro_rules | `(tactic| walk_at "ck") => `(tactic| try simp only [wNLen, wNSort, wNDictT, wWk, fTupX, wIndexN, wNNew, wNGet, wNIn, wNGetD, wNPut, wNDictL, wNDisp1, wiKeysN, wPopTo, strtD, nkG, nkP, Dt.opq.injEq, L2.V.ref.injEq, wNext, wBrk, wCnt, wSeq, wRet, wRetN, wSet, wOwn, wDrop, wUnp, wPar, wIfS, wApp, wExt, wSetIx, wAug, wFrz, wFor, wShp, wMx, wMN, wMD, wMO, setMx, k_var, k_vk1, k_vk2, k_par, wC, wL, wOp, wOpL, wF, wFL, wNil, wCons, wTup, wLst, wTV, wTAnd, wTOr, wTNot, wAnd, wOr, wNot, wIfx, wIsN, wNotN, wChain, wO0, wO1, wSl, wCall, wIsi, wLr1, wLr2, wNeg, wLc, wYes, wiSeq, wiR1, wiR2, wiEnum, wiZip, noOwnB, wipeD, wEmp, wListZip, wSortSet, wRevL, wRevT, wOneB, wParOD, wParDO, wParOO, wIndex, wNever, wUnp2, k_s20, k_s21, Option.bind_some, Option.map_some, wDNew, wDPut, wDGet, wDGetD, wDIn, wFrzD, wiKeys, Sv.dic.injEq, keysD, keyD, k_mulT, k_add1, k_add2, k_add3, k_add4, k_addL, k_sub, k_mul1, k_mul2, k_mulL, k_div, k_mod, k_pow, k_cmp, k_eq, k_ne, k_ea1, k_ea2, k_ea3, k_ea4, k_in1, k_in2, k_in3, k_in4, k_ix1, k_ix2, k_ix3, k_sl1, k_sl2, k_len1, k_len2, k_len3, k_int1, k_int2, k_abs, k_tuple1, k_tuple2, k_list1, k_list2, k_min2, k_max2, k_non_non, k_ty_int_non, k_ty_bool_non, k_ty_tuple_non, k_ty_str_non, k_ty_list_non, k_non_bl, k_ty_int_bl, k_ty_bool_bl, k_ty_tuple_bl, k_ty_str_bl, k_ty_list_bl, k_non_int, k_ty_int_int, k_ty_bool_int, k_ty_tuple_int, k_ty_str_int, k_ty_list_int, k_non_str, k_ty_int_str, k_ty_bool_str, k_ty_tuple_str, k_ty_str_str, k_ty_list_str, k_non_tup, k_ty_int_tup, k_ty_bool_tup, k_ty_tuple_tup, k_ty_str_tup, k_ty_list_tup, k_non_lst, k_ty_int_lst, k_ty_bool_lst, k_ty_tuple_lst, k_ty_str_lst, k_ty_list_lst, k_non_emp, k_ty_int_emp, k_ty_bool_emp, k_ty_tuple_emp, k_ty_str_emp, k_ty_list_emp, k_seq_non, k_seq_bl, k_seq_int, k_seq_str, k_seq_tup, k_seq_lst, k_seq_emp, k_sz0, k_sz1, k_sz2, k_sz3, k_sz4, k_sz5, k_sz6, k_sz7, k_sz8, k_sz9, k_sz10, k_sz11, k_sz12, k_sz13, k_sz14, k_sz15, k_sz16, k_sz17, k_sz18, k_sz19, k_sz20, k_sz21, k_sz22, k_sz23, k_at0, k_at1, k_at2, k_at3, k_iteT, k_iteF, k_bt1, k_bt2, k_sa0, k_sa1, k_endn, k_endr, List.getElem?_cons_succ, List.getElem?_cons_zero, List.set_cons_succ, List.set_cons_zero, List.length_cons, List.length_nil, List.length_map, List.all_cons, List.all_nil, Nat.reduceAdd, Nat.zero_add, Bool.and_true, Bool.and_self, Option.some.injEq, Dt.int.injEq, Dt.bl.injEq, Dt.str.injEq, Dt.tup.injEq, Dt.lst.injEq, Sv.dat.injEq, Sv.own.injEq, exists_eq_left', exists_eq_left, exists_eq_right, exists_eq', exists_eq, if_true, if_false, Bool.not_false, Bool.not_true, Bool.not_not, true_and, and_true, false_and, and_false, exists_const, reduceCtorEq])
open Kp (Gr Ok Row PRow Least Best Mean Found en co wt wt1 HInv Fix addR bigR allE room Ring Inside)
/-! ### a round along open places -/
def hd1 (P : Std → List Nat) (s : Std) : Nat := (P s).headD 0
def nx1 (k : Keeper) (P : Std → List Nat) (s : Std) : Std := nxt k s (pl (hd1 P s))
def itR (k : Keeper) (P : Std → List Nat) (s : Std) : Nat → Std
  | 0 => s
  | n + 1 => nx1 k P (itR k P s n)
def openL (W : List Std) (P : Std → List Nat) : List Std := W.filter fun s => decide (P s ≠ [])
/-- the least one of the open standings -/
def minO (W : List Std) (P : Std → List Nat) : Std := (openL W P).getD (bestI ((openL W P).map qSt)) st0
/-- the round that is found: standing t, places z -/
def RndIs (k : Keeper) (W : List Std) (P : Std → List Nat) (t : Std) (z : List Nat) : Prop :=
  ∃ n i, i < n ∧ ((List.range n).map (itR k P (minO W P))).Nodup ∧ itR k P (minO W P) n = itR k P (minO W P) i ∧ t = itR k P (minO W P) n ∧ z = (List.range (n - i)).map fun j => hd1 P (itR k P (minO W P) (i + j))
theorem itR_ne {k : Keeper} {P : Std → List Nat} {s : Std} {n i j : Nat} (nd : ((List.range n).map (itR k P s)).Nodup) (h : i < j) (hj : j < n) : itR k P s i ≠ itR k P s j := fun e => by
  have hi : i < ((List.range n).map (itR k P s)).length := by rw [List.length_map, List.length_range]; omega
  have hj' : j < ((List.range n).map (itR k P s)).length := by rw [List.length_map, List.length_range]; omega
  have := (List.getElem_inj (h₀ := hi) (h₁ := hj') nd).mp (by rw [List.getElem_map, List.getElem_map, List.getElem_range, List.getElem_range]; exact e)
  omega
theorem itR_same {k : Keeper} {P P' : Std → List Nat} {s : Std} (h : ∀ n, P (itR k P s n) = P' (itR k P s n)) : ∀ n, itR k P s n = itR k P' s n
  | 0 => rfl
  | n + 1 => by
    show nx1 k P (itR k P s n) = nx1 k P' (itR k P' s n)
    rw [← itR_same h n]
    unfold nx1 hd1
    rw [h n]
theorem open_same {W : List Std} {P P' : Std → List Nat} (h : ∀ s ∈ W, P s = P' s) : minO W P = minO W P' := by
  have e : openL W P = openL W P' := List.filter_congr fun x hx => by rw [h x hx]
  unfold minO
  rw [e]
section
variable {k : Keeper} {W : List Std} {p q : Int} {h : Std → Int} {P : Std → List Nat}
theorem OpenOk.hd (o : OpenOk k W p q h P) {s : Std} (hn : P s ≠ []) : hd1 P s ∈ P s := by
  unfold hd1
  cases e : P s with
  | nil => exact absurd e hn
  | cons a l => exact List.mem_cons_self
theorem OpenOk.next (wf : WebF k W) (o : OpenOk k W p q h P) {s : Std} (hs : s ∈ W) (hn : P s ≠ []) : nx1 k P s ∈ W ∧ P (nx1 k P s) ≠ [] := by
  have h1 := o.hd hn
  exact ⟨wf.cl _ hs _ (List.mem_map.mpr ⟨_, (o.tight s hs _ h1).1, rfl⟩), o.on s hs _ h1⟩
theorem OpenOk.its (wf : WebF k W) (o : OpenOk k W p q h P) {s : Std} (hs : s ∈ W) (hn : P s ≠ []) : ∀ n, itR k P s n ∈ W ∧ P (itR k P s n) ≠ []
  | 0 => ⟨hs, hn⟩
  | n + 1 => o.next wf (o.its wf hs hn n).1 (o.its wf hs hn n).2
theorem mem_openL {s : Std} : s ∈ openL W P ↔ s ∈ W ∧ P s ≠ [] := by
  unfold openL
  rw [List.mem_filter, decide_eq_true_eq]
theorem bestI_lt {l : List Std} (h : l ≠ []) : bestI (l.map qSt) < l.length := by
  have T : PySem.W.TotalLe fun a b : Nat => !PySem.W.dataLt ((l.map qSt).getD b .none) ((l.map qSt).getD a .none) := PySem.W.sortLe_total (PyProof.Rows.listOrd PyProof.Rows.itemOrd) false fun b => PySem.W.keyToks ((l.map qSt).getD b .none)
  obtain ⟨h1, h2⟩ := best_le (bt := fun i j => PySem.W.dataLt ((l.map qSt).getD i .none) ((l.map qSt).getD j .none)) T ((l.map qSt).length - 1)
  have hpos : 0 < l.length := List.length_pos_iff.mpr h
  have : bestI (l.map qSt) ≤ (l.map qSt).length - 1 := h1
  rw [List.length_map] at this
  omega
theorem OpenOk.min (o : OpenOk k W p q h P) : (openL W P)[bestI ((openL W P).map qSt)]? = some (minO W P) ∧ minO W P ∈ W ∧ P (minO W P) ≠ [] := by
  obtain ⟨s, hs, hn⟩ := o.ne
  have hne : openL W P ≠ [] := fun z => by
    have : s ∈ openL W P := mem_openL.mpr ⟨hs, hn⟩
    rw [z] at this
    cases this
  have hl := bestI_lt hne
  have e : (openL W P)[bestI ((openL W P).map qSt)]? = some (minO W P) := by
    unfold minO
    rw [List.getElem?_eq_getElem hl, List.getD_eq_getElem?_getD, List.getElem?_eq_getElem hl]
    rfl
  exact ⟨e, mem_openL.mp (List.mem_of_getElem? e)⟩
/-- along the path -/
theorem OpenOk.walk (wf : WebF k W) (o : OpenOk k W p q h P) {s : Std} (hs : s ∈ W) (hn : P s ≠ []) (i : Nat) : ∀ m, (∀ j ∈ (List.range m).map fun j => hd1 P (itR k P s (i + j)), j ∈ plcs k) ∧ en (gK k W) (itR k P s i) ((List.range m).map fun j => hd1 P (itR k P s (i + j))) = itR k P s (i + m) ∧
    wt (gK k W) p q (itR k P s i) ((List.range m).map fun j => hd1 P (itR k P s (i + j))) + h (itR k P s (i + m)) = h (itR k P s i)
  | 0 => ⟨(fun j hj => nomatch hj), rfl, by
    show wt _ p q _ [] + _ = _
    rw [Kp.wt_nil]
    show 0 + h (itR k P s i) = _
    omega⟩
  | m + 1 => by
    obtain ⟨a, b, c⟩ := o.walk wf hs hn i m
    obtain ⟨d1, d2⟩ := o.its wf hs hn (i + m)
    obtain ⟨e1, e2⟩ := o.tight _ d1 _ (o.hd d2)
    rw [List.range_succ, List.map_append]
    refine ⟨fun j hj => ?_, ?_, ?_⟩
    · rcases List.mem_append.mp hj with hj | hj
      · exact a j hj
      · rw [List.mem_singleton.mp hj]
        exact e1
    · rw [Kp.en_app, b]
      rfl
    · rw [Kp.wt_app, b]
      show _ + wt (gK k W) p q (itR k P s (i + m)) [hd1 P (itR k P s (i + m))] + h (nx1 k P (itR k P s (i + m))) = _
      rw [Kp.wt_cons, Kp.wt_nil]
      have e2 : wt1 (gK k W) p q (itR k P s (i + m)) (hd1 P (itR k P s (i + m))) + h (nx1 k P (itR k P s (i + m))) = h (itR k P s (i + m)) := e2
      omega
end
/-- what a round with a mean is -/
structure RoundOk (k : Keeper) (W : List Std) (p q : Int) (t : Std) (z : List Nat) : Prop where
  st : t ∈ W
  ne : z ≠ []
  pls : ∀ j ∈ z, j ∈ plcs k
  en : en (gK k W) t z = t
  co : co (gK k W) t z * q = p * (z.length : Int)
theorem RndIs.ok {k : Keeper} {W : List Std} (wf : WebF k W) {p q : Int} {h : Std → Int} {P : Std → List Nat} (o : OpenOk k W p q h P) {t : Std} {z : List Nat} (r : RndIs k W P t z) : RoundOk k W p q t z := by
  obtain ⟨n, i, h1, h2, h3, rfl, rfl⟩ := r
  obtain ⟨_, hs, hn⟩ := o.min
  obtain ⟨a, b, c⟩ := o.walk wf hs hn i (n - i)
  have e : i + (n - i) = n := by omega
  rw [e] at b c
  rw [h3]
  rw [h3] at b c
  refine ⟨(o.its wf hs hn i).1, fun z => ?_, a, b, ?_⟩
  · have := congrArg List.length z
    rw [List.length_map, List.length_range, List.length_nil] at this
    omega
  · unfold Kp.wt at c
    omega
theorem RndIs.same {k : Keeper} {W : List Std} (wf : WebF k W) {p q : Int} {h : Std → Int} {P P' : Std → List Nat} (o : OpenOk k W p q h P) (e : ∀ s ∈ W, P s = P' s) {t : Std} {z : List Nat} (r : RndIs k W P t z) : RndIs k W P' t z := by
  obtain ⟨n, i, h1, h2, h3, rfl, rfl⟩ := r
  obtain ⟨_, hs, hn⟩ := o.min
  have em := open_same e
  have ei : ∀ n, itR k P (minO W P) n = itR k P' (minO W P) n := itR_same fun n => e _ (o.its wf hs hn n).1
  have ef : itR k P (minO W P) = itR k P' (minO W P) := funext ei
  refine ⟨n, i, h1, ?_, ?_, ?_, ?_⟩
  · rw [← em, ← ef]
    exact h2
  · rw [← em, ← ef]
    exact h3
  · rw [← em, ← ef]
  · rw [← em]
    refine List.map_congr_left fun j _ => ?_
    rw [← ef]
    unfold hd1
    rw [e _ (o.its wf hs hn (i + j)).1]
theorem alike_q2s : ∀ a b : List (Int × Int), PySem.W.alikeAll (a.map q2) (b.map q2) = true
  | [], b => by simp [PySem.W.alikeAll]
  | x :: a, [] => by simp [PySem.W.alikeAll]
  | x :: a, y :: b => by
    have := alike_q2s a b
    simp [PySem.W.alikeAll, PySem.W.alike, q2, this]
theorem alike_qSt (a b : Std) : PySem.W.alike (qSt a) (qSt b) = true := by
  have := alike_q2s (runsC a.1) (runsC b.1)
  simp [PySem.W.alikeAll, PySem.W.alike, qSt, this]
theorem inSt {k : Keeper} (ko : KeeperOk k) {s : Std} (gs : GoodS k s) {l : List Std} (gl : ∀ t ∈ l, GoodS k t) {ng : Bool} {C : Dt → Prop} (h : C (.bl (ng != decide (s ∈ l)))) : fInN ng (dSt s) (.lst (l.map dSt)) C := by
  refine ⟨qSt s, _, _, py_qSt s, rfl, pyL_mapQ dSt qSt py_qSt l, shaped_qSt s, shaped_qSts l, ?_⟩
  have e : ((l.map qSt).any fun z => PyData.eqv z (qSt s)) = decide (s ∈ l) := by
    rw [Bool.eq_iff_iff, decide_eq_true_eq, List.any_eq_true]
    constructor
    · rintro ⟨x, hx, hq⟩
      obtain ⟨t, ht, rfl⟩ := List.mem_map.mp hx
      rw [← (eqv_qSt ko (gl t ht) gs).mp hq]
      exact ht
    · exact fun hs => ⟨_, List.mem_map.mpr ⟨s, hs, rfl⟩, (eqv_qSt ko gs gs).mpr rfl⟩
  rw [e]
  exact h
/-- min of the open standings -/
theorem use_minO {l : List Std} {C : Dt → Prop} {t : Std} (ht : l[bestI (l.map qSt)]? = some t) (h : C (dSt t)) : fMinN (.lst (l.map dSt)) C := by
  have hne : l ≠ [] := fun z => by rw [z] at ht; cases ht
  refine ⟨_, _, rfl, pyL_mapQ dSt qSt py_qSt l, by simpa using hne, ⟨fun x hx y hy => ?_, fun x hx => ?_⟩, Nat.le_trans (depth_mapQ qSt depth_qSt l) (by decide), dSt t, by rw [List.getElem?_map, ht]; rfl, h⟩
  · obtain ⟨a, _, rfl⟩ := List.mem_map.mp hx
    obtain ⟨b, _, rfl⟩ := List.mem_map.mp hy
    exact alike_qSt a b
  · obtain ⟨a, _, rfl⟩ := List.mem_map.mp hx
    simp [qSt]
theorem cut_fromQ {l : List Dt} {i : Nat} (hi : i ≤ l.length) : cutD l (some ((i : Nat) : Int)) none = l.drop i := by
  unfold cutD
  rw [HT.sIx_nat, HT.sIx_none, Nat.min_eq_left hi]
  refine List.take_of_length_le ?_
  rw [List.length_drop]
  exact Nat.le_refl _
def dNt (l : List Nat) : Dt := .tup (l.map fun (j : Nat) => Dt.int (j : Int))
def rndD (t : Std) (z : List Nat) : Dt := .tup [dSt t, dNt z]
def S_round_of : Spc NkT := ⟨fun ds w C => ∃ k W a fz b fz2 p q h P, ds = [.opq (.ref a), .opq (.ref b)] ∧ (KeeperOk k ∧ WebF k W) ∧ (a ≠ b ∧ w.2 a = some (fz, webE k W) ∧ w.2 b = some (fz2, plE W P)) ∧ OpenOk k W p q h P ∧ ∀ (t : Std) (z : List Nat) (m' : Dm), RndIs k W P t z → m' a = some (true, webE k W) → (∀ x y, x ≠ a → w.2 x = some y → m' x = some y) → C (rndD t z) (w.1, m'),
  fun ds w C C2 hh z => by
    obtain ⟨k, W, a, fz, b, fz2, p, q, h, P, h1, h2, h3, h4, h5⟩ := z
    exact ⟨k, W, a, fz, b, fz2, p, q, h, P, h1, h2, h3, h4, fun t z m2 x1 x2 x3 => hh _ _ (h5 t z m2 x1 x2 x3)⟩⟩
abbrev p_round_of : DS NkT :=
  (wSeq (wSet 2 (wF fMinN (wL (wLc [5] (.one 5) (wiKeysN nkG nkP (wVar 0)) (wTV (wOp fNe (wNGet nkG (wVar 1) (wVar 5)) (wL (wLst wNil)))) (wVar 5)))))
  (wSeq (wParOO 3 4 (wLst wNil) (wLst wNil))
  (wSeq (wWhile (wTV (wOp (fInN true) (wVar 2) (wVar 3))) (wSeq (wApp 3 (wVar 2))
  (wSeq (wApp 4 (wOp fIx (wNGet nkG (wVar 1) (wVar 2)) (wC (.int 0))))
  (wSet 2 (wOp fIx (wOp fIx (wNGet nkG (wVar 0) (wVar 2)) (wOp fIx (wNGet nkG (wVar 1) (wVar 2)) (wC (.int 0)))) (wC (.int 0)))))))
  (wFrz 3 (wRet (wTup (wCons (wVar 2) (wCons (wF fTuple (wSl fSl (wVar 4) (wO1 (wIndexN (wVar 3) (wVar 2))) wO0)) wNil))))))))
theorem m_round_of : ∀ ds w C, S_round_of.run ds w C → p_round_of (endD C) (startD 6 ds) w := by
  rintro ds ⟨d, m⟩ C ⟨k, W, a, fz, b, fz2, p, q, h, P, rfl, ⟨ko, wf⟩, ⟨hab, hm, hb⟩, o, qq⟩
  show p_round_of _ [some (.dat (.opq (.ref a))), some (.dat (.opq (.ref b))), none, none, none, none] _
  have hm : m a = some (fz, webE k W) := hm
  have hb : m b = some (fz2, plE W P) := hb
  have hwl := wf.len ko
  have hw := ko.w
  have goodW : ∀ s ∈ W, GoodS k s := wf.good
  have e1 : (webE k W).map (fun x => x.fst) = W.map dSt := by
    rw [webE, List.map_map]
    rfl
  unfold p_round_of
  walk_at "ck"
  have hmb : updN m a (true, webE k W) b = some (fz2, plE W P) := by rw [updN_ne (Ne.symm hab)]; exact hb
  have hma : updN m a (true, webE k W) a = some (true, webE k W) := updN_same
  generalize hm' : updN m a (true, webE k W) = m' at hma hmb
  have ho : ∀ x y, x ≠ a → m x = some y → m' x = some y := fun x y hx hy => by
    rw [← hm', updN_ne hx]
    exact hy
  refine ⟨a, fz, webE k W, rfl, hm, by rw [webE, List.length_map]; exact size1M (by omega), ?_⟩
  rw [e1, hm']
  refine lc_typed dSt (fun s => decide (P s ≠ [])) dSt W (fun s hs => ⟨_, rfl, fun C hC => ?_, fun _ C hC => ?_⟩) ?_
  · walk_at "ck"
    refine ⟨_, _, _, hmb, keyN_some s, plE_in ko goodW (goodW s hs) hs, ?_⟩
    refine eqNs (b := []) ?_
    rw [← decide_not]
    exact hC
  · walk_at "ck"
    exact hC
  obtain ⟨om1, om2, om3⟩ := o.min
  refine use_minO om1 ?_
  have its := o.its wf om2 om3
  generalize hs0 : minO W P = s0 at its
  have git : ∀ n, GoodS k (itR k P s0 n) := fun n => goodW _ (its n).1
  refine ⟨fun n sl w => ∃ i, ∃ x5 : Option Sv, sl = [some (.dat (.opq (.ref a))), some (.dat (.opq (.ref b))), some (.dat (dSt (itR k P s0 i))), some (.own (((List.range i).map (itR k P s0)).map dSt)), some (.own ((List.range i).map fun j => .int (hd1 P (itR k P s0 j) : Nat))), x5] ∧ w = (d, m') ∧ ((List.range i).map (itR k P s0)).Nodup ∧ n = 257 - i, ⟨257, 0, none, rfl, rfl, List.nodup_nil, rfl⟩, ?_⟩
  rintro n sl w ⟨i, x5, rfl, rfl, nd, rfl⟩
  walk_at "ck"
  have hil : i ≤ 256 := by
    have h1 := nodup_le nd fun t ht => by
      obtain ⟨j, _, rfl⟩ := List.mem_map.mp ht
      exact mem_allSt ko (git j)
    have h2 := len_allSt ko
    rw [List.length_map, List.length_range] at h1
    omega
  refine inSt ko (git i) (fun t ht => by obtain ⟨j, _, rfl⟩ := List.mem_map.mp ht; exact git j) ?_
  rw [Bool.true_bne]
  refine ⟨_, rfl, ite2 (fun hd => ?_) fun hd => ?_⟩
  · have hd : itR k P s0 i ∉ (List.range i).map (itR k P s0) := by simpa using hd
    obtain ⟨hW, hP⟩ := its i
    have hhd := o.hd hP
    have at0 : L2.atI ((P (itR k P s0 i)).map fun (j : Nat) => Dt.int (j : Int)) 0 = some (.int (hd1 P (itR k P s0 i) : Nat)) := by
      refine atI_int (Int.le_refl _) ?_
      unfold hd1
      cases e : P (itR k P s0 i) with
      | nil => exact absurd e hP
      | cons x l => rfl
    have hpl := (o.tight _ hW _ hhd).1
    refine ⟨by rw [List.length_range]; exact size1M' (by omega), by rw [List.length_range]; exact size1M' (by omega), _, _, _, hmb, keyN_some _, plE_in ko goodW (git i) hW, _, at0, true, _, _, hma, keyN_some _, webE_in ko goodW (git i) hW, _, _, _, hmb, keyN_some _, plE_in ko goodW (git i) hW, _, at0, _, stepsD_at hpl, ?_⟩
    walk_at "ck"
    refine ⟨257 - (i + 1), by omega, i + 1, x5, ?_, ?_, rfl⟩
    · rw [List.range_succ, List.map_append, List.map_append, List.map_append]
      rfl
    · rw [List.range_succ, List.map_append]
      exact List.nodup_append.mpr ⟨nd, List.nodup_cons.mpr ⟨by simp, List.nodup_nil⟩, fun x hx y hy e => hd (by rw [List.mem_singleton.mp hy] at e; rw [← e]; exact hx)⟩
  · have hd : itR k P s0 i ∈ (List.range i).map (itR k P s0) := by simpa using hd
    obtain ⟨j, hj, ej⟩ := List.mem_map.mp hd
    have hj := List.mem_range.mp hj
    refine ⟨_, _, rfl, pyL_mapQ dSt qSt py_qSt _, qSt (itR k P s0 i), j, qSt (itR k P s0 j), py_qSt _, shaped_qSts _, shaped_qSt _, by rw [List.getElem?_map, List.getElem?_map, List.getElem?_range hj]; rfl, (eqv_qSt ko (git j) (git i)).mpr ej, fun m z' hm hz => ?_, ?_⟩
    · rw [List.getElem?_map, List.getElem?_map, List.getElem?_range (by omega)] at hz
      cases hz
      refine Bool.eq_false_iff.mpr fun h => ?_
      have h := (eqv_qSt ko (git m) (git i)).mp h
      exact itR_ne nd hm hj (h.trans ej.symm)
    · have ecut : cutD ((List.range i).map fun j => Dt.int (hd1 P (itR k P s0 j) : Nat)) (some (j : Int)) none = ((List.range (i - j)).map fun m => hd1 P (itR k P s0 (j + m))).map fun (x : Nat) => Dt.int (x : Int) := by
        rw [cut_fromQ (by rw [List.length_map, List.length_range]; omega), List.map_map]
        refine List.ext_getElem? fun n => ?_
        rw [List.getElem?_drop, List.getElem?_map, List.getElem?_map]
        by_cases hn : n < i - j
        · rw [List.getElem?_range hn, List.getElem?_range (by omega)]
          rfl
        · rw [List.getElem?_eq_none (by rw [List.length_range]; omega), List.getElem?_eq_none (by rw [List.length_range]; omega)]
          rfl
      rw [ecut]
      refine qq (itR k P s0 i) ((List.range (i - j)).map fun m => hd1 P (itR k P s0 (j + m))) m' ⟨i, j, hj, ?_, ?_, ?_, ?_⟩ hma ho
      · rw [hs0]
        exact nd
      · rw [hs0]
        exact ej.symm
      · rw [hs0]
      · rw [hs0]

end Ck
namespace Ck
open PySem PySem.Spec PyProof.Rows L2
local macro_rules | `(tactic| walk_at "ck") => `(tactic| try simp only [wNLen, wNSort, wNDictT, wWk, fTupX, wIndexN, wNNew, wNGet, wNIn, wNGetD, wNPut, wNDictL, wNDisp1, wiKeysN, wPopTo, strtD, nkG, nkP, Dt.opq.injEq, L2.V.ref.injEq, wNext, wBrk, wCnt, wSeq, wRet, wRetN, wSet, wOwn, wDrop, wUnp, wPar, wIfS, wApp, wExt, wSetIx, wAug, wFrz, wFor, wShp, wMx, wMN, wMD, wMO, setMx, k_var, k_vk1, k_vk2, k_par, wC, wL, wOp, wOpL, wF, wFL, wNil, wCons, wTup, wLst, wTV, wTAnd, wTOr, wTNot, wAnd, wOr, wNot, wIfx, wIsN, wNotN, wChain, wO0, wO1, wSl, wCall, wIsi, wLr1, wLr2, wNeg, wLc, wYes, wiSeq, wiR1, wiR2, wiEnum, wiZip, noOwnB, wipeD, wEmp, wListZip, wSortSet, wRevL, wRevT, wOneB, wParOD, wParDO, wParOO, wIndex, wNever, wUnp2, k_s20, k_s21, Option.bind_some, Option.map_some, wDNew, wDPut, wDGet, wDGetD, wDIn, wFrzD, wiKeys, Sv.dic.injEq, keysD, keyD, k_mulT, k_add1, k_add2, k_add3, k_add4, k_addL, k_sub, k_mul1, k_mul2, k_mulL, k_div, k_mod, k_pow, k_cmp, k_eq, k_ne, k_ea1, k_ea2, k_ea3, k_ea4, k_in1, k_in2, k_in3, k_in4, k_ix1, k_ix2, k_ix3, k_sl1, k_sl2, k_len1, k_len2, k_len3, k_int1, k_int2, k_abs, k_tuple1, k_tuple2, k_list1, k_list2, k_min2, k_max2, k_non_non, k_ty_int_non, k_ty_bool_non, k_ty_tuple_non, k_ty_str_non, k_ty_list_non, k_non_bl, k_ty_int_bl, k_ty_bool_bl, k_ty_tuple_bl, k_ty_str_bl, k_ty_list_bl, k_non_int, k_ty_int_int, k_ty_bool_int, k_ty_tuple_int, k_ty_str_int, k_ty_list_int, k_non_str, k_ty_int_str, k_ty_bool_str, k_ty_tuple_str, k_ty_str_str, k_ty_list_str, k_non_tup, k_ty_int_tup, k_ty_bool_tup, k_ty_tuple_tup, k_ty_str_tup, k_ty_list_tup, k_non_lst, k_ty_int_lst, k_ty_bool_lst, k_ty_tuple_lst, k_ty_str_lst, k_ty_list_lst, k_non_emp, k_ty_int_emp, k_ty_bool_emp, k_ty_tuple_emp, k_ty_str_emp, k_ty_list_emp, k_seq_non, k_seq_bl, k_seq_int, k_seq_str, k_seq_tup, k_seq_lst, k_seq_emp, k_sz0, k_sz1, k_sz2, k_sz3, k_sz4, k_sz5, k_sz6, k_sz7, k_sz8, k_sz9, k_sz10, k_sz11, k_sz12, k_sz13, k_sz14, k_sz15, k_sz16, k_sz17, k_sz18, k_sz19, k_sz20, k_sz21, k_sz22, k_sz23, k_at0, k_at1, k_at2, k_at3, k_iteT, k_iteF, k_bt1, k_bt2, k_sa0, k_sa1, k_endn, k_endr, List.getElem?_cons_succ, List.getElem?_cons_zero, List.set_cons_succ, List.set_cons_zero, List.length_cons, List.length_nil, List.length_map, List.all_cons, List.all_nil, Nat.reduceAdd, Nat.zero_add, Bool.and_true, Bool.and_self, Option.some.injEq, Dt.int.injEq, Dt.bl.injEq, Dt.str.injEq, Dt.tup.injEq, Dt.lst.injEq, Sv.dat.injEq, Sv.own.injEq, exists_eq_left', exists_eq_left, exists_eq_right, exists_eq', exists_eq, if_true, if_false, Bool.not_false, Bool.not_true, Bool.not_not, true_and, and_true, false_and, and_false, exists_const, reduceCtorEq])
open Kp (Gr Ok Row PRow Least Best Mean Found en co wt wt1 HInv Fix addR bigR allE room Ring Inside)
/-! ### what is told is so, and told the same again -/
theorem tight_same {k : Keeper} {W : List Std} (wf : WebF k W) {p q : Int} {h h' : Std → Int} (e : ∀ s ∈ W, h s = h' s) : ∀ s ∈ W, tightL k p q h s = tightL k p q h' s := fun s hs => by
  unfold tightL
  refine List.filter_congr fun j hj => ?_
  rw [e s hs, e _ (wf.cl s hs _ (List.mem_map.mpr ⟨j, hj, rfl⟩))]
theorem OpenOk.congr {k : Keeper} {W : List Std} (wf : WebF k W) {p q : Int} {h h' : Std → Int} {P : Std → List Nat} (e : ∀ s ∈ W, h s = h' s) (o : OpenOk k W p q h P) : OpenOk k W p q h' P := by
  have et := tight_same wf (p := p) (q := q) e
  refine ⟨fun s hs => by rw [← et s hs]; exact o.sub s hs, o.on, fun E r hE i => o.mx E r hE fun x hx => ?_, o.ne⟩
  have := i x hx
  rw [← et _ (hE x hx)] at this
  exact this
def sortW (W : List Std) : List Std := W.mergeSort fun a b => !PySem.W.dataLt (qSt b) (qSt a)
def hgD (h : Std → Int × Int) (s : Std) : Dt := .tup [dSt s, pairD (h s)]
def hgsD (W : List Std) (h : Std → Int × Int) : Dt := .tpx ((sortW W).map (hgD h))
def worstD (W : List Std) (p q : Int) (h : Std → Int) (t : Std) (z : List Nat) : Dt := .tup [pairD (p, q), rndD t z, hgsD W fun s => lowF (h s) q]
structure WorstV (k : Keeper) (W : List Std) (p q : Int) (h : Std → Int) (P : Std → List Nat) (t : Std) (z : List Nat) : Prop where
  mn : Mean (gK k W) p q
  p0 : 0 ≤ p
  p1 : p < 2 ^ 45
  q0 : 1 ≤ q
  q1 : q ≤ 256
  lw : lowF p q = (p, q)
  hg : HgtOk k W p q h
  op : OpenOk k W p q h P
  rd : RndIs k W P t z
def WorstIs (k : Keeper) (W : List Std) (v : Dt) : Prop := ∃ p q h P t z, WorstV k W p q h P t z ∧ v = worstD W p q h t z
theorem mem_sortW {W : List Std} {s : Std} : s ∈ sortW W ↔ s ∈ W := (List.mergeSort_perm _ _).mem_iff
def S_worst : Spc NkT := ⟨fun ds w C => ∃ k W, ds = [dK k] ∧ (KeeperOk k ∧ WebF k W) ∧ ∀ (v : Dt) (m' : Dm), WorstIs k W v → Grow w.2 m' → C v (w.1, m'),
  fun ds w C C2 h z => by
    obtain ⟨k, W, h1, h2, h3⟩ := z
    exact ⟨k, W, h1, h2, fun v m2 a b => h _ _ (h3 v m2 a b)⟩⟩
abbrev p_worst : DS NkT :=
  (wSeq (wSet 1 (wCall S_web_of (wCons (wVar 0) wNil)))
  (wSeq (wSet 2 (wCall S_greatest_mean (wCons (wVar 1) wNil)))
  (wSeq (wSet 3 (wCall S_heights_of (wCons (wVar 1) (wCons (wVar 2) wNil))))
  (wSeq (wSet 4 (wCall S_round_of (wCons (wVar 1) (wCons (wCall S_open_places (wCons (wVar 1) (wCons (wVar 3) (wCons (wVar 2) wNil)))) wNil))))
  (wRet (wTup (wCons (wVar 2) (wCons (wVar 4) (wCons (wF fTupX (wL (wLc [5] (.one 5) (wiSeq (wL (wNSort nkG (wVar 1)))) wYes (wTup (wCons (wVar 5) (wCons (wCall S_lowest.left (wCons (wNGet nkG (wVar 3) (wVar 5)) (wCons (wOp fIx (wVar 2) (wC (.int 1))) wNil))) wNil)))))) wNil)))))))))
theorem use_sortW {W : List Std} {C : List Dt → Prop} (h : C ((sortW W).map dSt)) : fSortedN (.lst (W.map dSt)) C :=
  use_sortedN (pe := qSt) (pyL_mapQ dSt qSt py_qSt W) alike_qSt (fun a => ⟨_, _, rfl⟩) (fun a => Nat.le_trans (depth_qSt a) (by decide)) h
theorem keysT_hg {h : Std → Int × Int} : ∀ {l : List Std}, keysT (l.map (hgD h)) = none
  | [] => rfl
  | s :: l => rfl
theorem m_worst : ∀ ds w C, S_worst.run ds w C → p_worst (endD C) (startD 6 ds) w := by
  rintro ds ⟨d, m⟩ C ⟨k, W, rfl, ⟨ko, wf⟩, qq⟩
  show p_worst _ [some (.dat (dK k)), none, none, none, none, none] _
  have hwl := wf.len ko
  have e1 : (webE k W).map (fun x => x.fst) = W.map dSt := by
    rw [webE, List.map_map]
    rfl
  unfold p_worst
  walk_at "ck"
  refine ⟨k, W, rfl, ⟨ko, wf⟩, fun a m1 hma hm1 g1 => ?_⟩
  walk_at "ck"
  refine ⟨k, W, a, _, rfl, ⟨ko, wf⟩, hm1, fun p q m2 mn ⟨⟨p0, p1⟩, q0, q1⟩ hlw g2 => ?_⟩
  walk_at "ck"
  refine ⟨k, W, a, _, p, q, rfl, ⟨ko, wf⟩, g2 a _ hm1, ⟨mn, ⟨p0, p1⟩, q0, q1⟩, fun h c m3 hh hca hmc hc3 ha3 ho3 => ?_⟩
  walk_at "ck"
  refine ⟨k, W, a, true, c, false, p, q, h, rfl, ⟨ko, wf⟩, ⟨Ne.symm hca, ha3, hc3⟩, ⟨mn, ⟨p0, p1⟩, q0, q1⟩, hh, fun P b m4 hop hba hbc hmb hb4 ha4 ho4 => ?_⟩
  refine ⟨k, W, a, true, b, false, p, q, h, P, rfl, ⟨ko, wf⟩, ⟨Ne.symm hba, ha4, hb4⟩, hop, fun t z m5 hr ha5 ho5 => ?_⟩
  walk_at "ck"
  refine ⟨a, true, webE k W, rfl, ha5, ?_⟩
  rw [e1]
  refine use_sortW ?_
  have hls : (sortW W).length = W.length := List.length_mergeSort _
  have hc5 : m5 c = some (false, intE W h) := ho5 c _ hca (ho4 c _ hca hc3)
  refine ⟨by rw [List.length_map, hls]; exact size1M (by omega), ?_⟩
  refine lc_map dSt (hgD fun s => lowF (h s) q) (sortW W) (fun s hs => ⟨_, rfl, fun C hC => ?_⟩) ?_
  · have hsW := mem_sortW.mp hs
    unfold pairD
    walk_at "ck"
    have h1 := hh.nn s hsW
    have h2 := hh.le s hsW
    exact ⟨_, _, _, hc5, keyN_some s, intE_in ko wf.good (wf.good s hsW) hsW, use_pureP (h s, q) ⟨⟨by show -(2 ^ 50) < h s; omega, by show h s < 2 ^ 50; omega⟩, q0, by show q < 2 ^ 50; omega⟩ hC⟩
  · have em : mkX ((sortW W).map (hgD fun s => lowF (h s) q)) = hgsD W fun s => lowF (h s) q := by
      unfold mkX
      rw [keysT_hg]
      rfl
    rw [em]
    refine qq _ _ ⟨p, q, h, P, t, z, ⟨mn, p0, p1, q0, q1, hlw, hh, hop, hr⟩, rfl⟩ fun b x hb => ?_
    have ham : m a = none := hma
    have hba2 : b ≠ a := fun z => by rw [z] at hb; exact absurd (hb.symm.trans ham) (by simp)
    exact ho5 b x hba2 (ho4 b x hba2 (ho3 b x hba2 (g2 b x (g1 b x hb))))

end Ck
namespace Ck
open PySem PySem.Spec PyProof.Rows L2 TL
/-! ### what is shown of ints and tuples tells them -/
namespace Ri
abbrev sh (p : PyData) : List Nat := tl p.shown
theorem tl_str (s : String) : tl (Str.ofString s) = s.toList.map Char.toNat := tl_ofString s
theorem tl_int (i : Int) : sh (.int i) = tl (Str.ofString (toString i)) := by simp only [sh, PyData.shown]
theorem tl_neg (n : Nat) : tl (Str.ofString (toString (Int.negSucc n))) = 45 :: numL (n + 1) := by
  have e : toString (Int.negSucc n) = "-" ++ toString ((n + 1 : Nat) : Int) := rfl
  rw [e, tl_str, String.toList_append, List.map_append, ← tl_num (n + 1), tl_str]
  rfl
/-- signs of a number -/
def NumC (c : Nat) : Prop := c = 45 ∨ (48 ≤ c ∧ c ≤ 57)
theorem int_chars (i : Int) : ∀ c ∈ sh (.int i), NumC c := by
  rw [tl_int]
  intro c hc
  cases i with
  | ofNat n =>
    rw [show Int.ofNat n = ((n : Nat) : Int) from rfl, tl_num] at hc
    exact .inr (numL_digits n c hc)
  | negSucc n =>
    rw [tl_neg] at hc
    rcases List.mem_cons.mp hc with rfl | hc
    · exact .inl rfl
    · exact .inr (numL_digits _ c hc)
theorem int_ne (i : Int) : sh (.int i) ≠ [] := by
  rw [tl_int]
  cases i with
  | ofNat n =>
    rw [show Int.ofNat n = ((n : Nat) : Int) from rfl, tl_num]
    exact numL_ne n
  | negSucc n =>
    rw [tl_neg]
    exact List.cons_ne_nil _ _
theorem int_inj {i j : Int} (h : sh (.int i) = sh (.int j)) : i = j := by
  rw [tl_int, tl_int] at h
  cases i with
  | ofNat n =>
    rw [show Int.ofNat n = ((n : Nat) : Int) from rfl, tl_num] at h
    cases j with
    | ofNat m =>
      rw [show Int.ofNat m = ((m : Nat) : Int) from rfl, tl_num] at h
      rw [numL_inj h]
    | negSucc m =>
      rw [tl_neg] at h
      have := numL_digits n 45 (by rw [h]; exact List.mem_cons_self)
      omega
  | negSucc n =>
    rw [tl_neg] at h
    cases j with
    | ofNat m =>
      rw [show Int.ofNat m = ((m : Nat) : Int) from rfl, tl_num] at h
      have := numL_digits m 45 (by rw [← h]; exact List.mem_cons_self)
      omega
    | negSucc m =>
      rw [tl_neg] at h
      injection h with _ h
      have := numL_inj h
      have : n = m := by omega
      rw [this]
/-- what may stand behind a part -/
def Tm (r : List Nat) : Prop := r = [] ∨ ∃ c s, r = c :: s ∧ (c = 44 ∨ c = 41)
theorem split_tm : ∀ {a b r r' : List Nat}, (∀ c ∈ a, NumC c) → (∀ c ∈ b, NumC c) → Tm r → Tm r' → a ++ r = b ++ r' → a = b ∧ r = r'
  | [], [], _, _, _, _, _, _, e => ⟨rfl, e⟩
  | [], y :: b, r, r', _, hb, hr, _, e => by
    have e : r = y :: (b ++ r') := e
    have hy := hb y List.mem_cons_self
    rcases hr with hr | ⟨c, s, hr, hc⟩
    · rw [hr] at e
      cases e
    · rw [hr] at e
      injection e with e _
      subst e
      rcases hy with hy | hy <;> omega
  | x :: a, [], r, r', ha, _, _, hr, e => by
    have e : x :: (a ++ r) = r' := e
    have hx := ha x List.mem_cons_self
    rcases hr with hr | ⟨c, s, hr, hc⟩
    · rw [hr] at e
      cases e
    · rw [hr] at e
      injection e with e _
      subst e
      rcases hx with hx | hx <;> omega
  | x :: a, y :: b, r, r', ha, hb, hr, hr', e => by
    injection e with e1 e2
    obtain ⟨h1, h2⟩ := split_tm (fun c hc => ha c (List.mem_cons_of_mem _ hc)) (fun c hc => hb c (List.mem_cons_of_mem _ hc)) hr hr' e2
    exact ⟨by rw [e1, h1], h2⟩
def hdK : PyData → Nat → Prop
  | .int _, c => NumC c
  | .tuple _, c => c = 40
  | _, c => c = 78 ∨ c = 84 ∨ c = 70 ∨ c = 39 ∨ c = 34 ∨ c = 91 ∨ c = 123
theorem from_hd : ∀ (ts : List Str) (k : Nat) (acc : Str) {c : Nat} {r : List Nat}, tl acc = c :: r → ∃ r', tl (textFrom k acc ts) = c :: r'
  | [], _, acc, c, r, h => ⟨r, h⟩
  | t :: ts, k, acc, c, r, h => by
    unfold textFrom
    exact from_hd ts (k + 1) _ (r := r ++ tl ((if k > 0 then ", " else "" : String) : Str) ++ tl t) (by rw [tl_append, tl_append, h]; rfl)
theorem fold_hd (f : Nat → List Nat) : ∀ (l : List Nat) (acc : Array Nat), (l.foldl (fun out c => out ++ (f c).toArray) acc).toList = acc.toList ++ l.flatMap f
  | [], acc => by simp
  | x :: l, acc => by
    rw [List.foldl_cons, fold_hd f l, List.flatMap_cons, ← List.append_assoc]
    congr 1
    simp
theorem head_of (p : PyData) : ∃ c r, sh p = c :: r ∧ hdK p c := by
  cases p with
  | none => exact ⟨_, _, by simp only [sh, PyData.shown]; rw [show (("None" : String) : Str) = Str.ofString "None" from rfl, tl_str]; rfl, .inl rfl⟩
  | bool b =>
    cases b with
    | true => exact ⟨_, _, by simp only [sh, PyData.shown, if_true]; rw [show (("True" : String) : Str) = Str.ofString "True" from rfl, tl_str]; rfl, .inr (.inl rfl)⟩
    | false => exact ⟨_, _, by simp only [sh, PyData.shown, Bool.false_eq_true, if_false]; rw [show (("False" : String) : Str) = Str.ofString "False" from rfl, tl_str]; rfl, .inr (.inr (.inl rfl))⟩
  | int i =>
    cases e : sh (.int i) with
    | nil => exact absurd e (int_ne i)
    | cons c r => exact ⟨c, r, rfl, int_chars i c (by rw [e]; exact List.mem_cons_self)⟩
  | str x =>
    have e : sh (.str x) = reprQuote x :: (x.cps.toList.flatMap (Builtin.Str.reprChar (reprQuote x)) ++ [reprQuote x]) := by
      simp only [sh, PyData.shown, reprText]
      show (Array.push (x.cps.foldl (fun out c => out ++ (Builtin.Str.reprChar (reprQuote x) c).toArray) #[reprQuote x]) (reprQuote x)).toList = _
      rw [Array.toList_push, ← Array.foldl_toList, fold_hd]
      rfl
    refine ⟨_, _, e, ?_⟩
    show _ ∨ _
    unfold reprQuote
    split <;> simp
  | list xs =>
    obtain ⟨r, e⟩ := from_hd (PyData.shownAll xs) 0 "[" (c := 91) (r := []) (by rw [show (("[" : String) : Str) = Str.ofString "[" from rfl, tl_str]; rfl)
    exact ⟨91, r ++ tl (("]" : String) : Str), by simp only [sh, PyData.shown, listText]; rw [tl_append, e]; rfl, by simp [hdK]⟩
  | tuple xs =>
    have e : sh (.tuple xs) = 40 :: (tl (Str.join ", " (PyData.shownAll xs)) ++ tl (((if (PyData.shownAll xs).length == 1 then ",)" else ")" : String)) : Str)) := by
      simp only [sh, PyData.shown, tupleText]
      rw [tl_append, tl_append, show (("(" : String) : Str) = Str.ofString "(" from rfl, tl_str]
      rfl
    exact ⟨40, _, e, rfl⟩
  | dict kvs =>
    have e : sh (.dict kvs) = 123 :: (tl (Str.join ", " (PyData.shownKv kvs)) ++ tl (("}" : String) : Str)) := by
      simp only [sh, PyData.shown, dictText]
      rw [tl_append, tl_append, show (("{" : String) : Str) = Str.ofString "{" from rfl, tl_str]
      rfl
    exact ⟨123, _, e, by simp [hdK]⟩
/-- the items behind the first one -/
def jt : List PyData → List Nat
  | [] => []
  | q :: qs => 44 :: 32 :: (sh q ++ jt qs)
theorem join_jt : ∀ (p : PyData) (ps : List PyData), joinL [44, 32] ((PyData.shownAll (p :: ps)).map tl) = sh p ++ jt ps
  | p, [] => by
    show _ = sh p ++ []
    rw [List.append_nil]
    rfl
  | p, q :: ps => by
    have h := join_jt q ps
    show tl p.shown ++ ([44, 32] ++ joinL [44, 32] ((PyData.shownAll (q :: ps)).map tl)) = _
    rw [h]
    rfl
theorem all_len : ∀ ps : List PyData, (PyData.shownAll ps).length = ps.length
  | [] => rfl
  | p :: ps => by simp only [PyData.shownAll, List.length_cons, all_len ps]
theorem sh_nil : sh (.tuple []) = [40, 41] := by
  simp only [sh, PyData.shown, tupleText, PyData.shownAll]
  rw [tl_append, tl_append]
  rfl
theorem sep_tl : tl ((", " : String) : Str) = [44, 32] := by
  rw [show ((", " : String) : Str) = Str.ofString ", " from rfl, tl_str]
  rfl
theorem sh_cons (p : PyData) (ps : List PyData) : sh (.tuple (p :: ps)) = 40 :: (sh p ++ (jt ps ++ (if ps = [] then [44, 41] else [41]))) := by
  simp only [sh, PyData.shown, tupleText]
  rw [tl_append, tl_append, tl_join, sep_tl, join_jt, all_len]
  rw [show (("(" : String) : Str) = Str.ofString "(" from rfl, tl_str]
  have e : tl (((if (p :: ps).length == 1 then ",)" else ")" : String)) : Str) = if ps = [] then [44, 41] else [41] := by
    cases ps with
    | nil =>
      rw [if_pos rfl]
      show tl (Str.ofString ",)") = _
      rw [tl_str]
      rfl
    | cons q qs =>
      rw [if_neg (List.cons_ne_nil _ _)]
      have h : ((p :: q :: qs).length == 1) = false := by simp
      rw [h]
      show tl (Str.ofString ")") = _
      rw [tl_str]
      rfl
  rw [e]
  show [40] ++ (sh p ++ jt ps) ++ _ = _
  simp only [List.cons_append, List.append_assoc, List.nil_append]
mutual
/-- ints and tuples alone -/
def okT : PyData → Prop
  | .int _ => True
  | .tuple xs => okTs xs
  | _ => False
def okTs : List PyData → Prop
  | [] => True
  | x :: xs => okT x ∧ okTs xs
end
theorem tm_jt (qs : List PyData) (r : List Nat) (b : Bool) : Tm (jt qs ++ ((if qs = [] then [44, 41] else [41]) ++ r)) := by
  cases qs with
  | nil => exact .inr ⟨44, _, rfl, .inl rfl⟩
  | cons q qs => exact .inr ⟨44, _, rfl, .inl rfl⟩
theorem tm_jt1 (qs : List PyData) (r : List Nat) : Tm (jt qs ++ (41 :: r)) := by
  cases qs with
  | nil => exact .inr ⟨41, _, rfl, .inr rfl⟩
  | cons q qs => exact .inr ⟨44, _, rfl, .inl rfl⟩
mutual
theorem inj : ∀ (t p : PyData) {r r' : List Nat}, okT t → Tm r → Tm r' → sh p ++ r = sh t ++ r' → p = t ∧ r = r'
  | .int j, p, r, r', _, hr, hr', e => by
    obtain ⟨c, s, h1, h2⟩ := head_of (.int j)
    obtain ⟨c2, s2, k1, k2⟩ := head_of p
    have hc : c2 = c := by
      rw [h1, k1] at e
      injection e
    subst hc
    have h2 : NumC c2 := h2
    cases p with
    | int i =>
      obtain ⟨a, b⟩ := split_tm (int_chars i) (int_chars j) hr hr' e
      exact ⟨by rw [int_inj a], b⟩
    | _ =>
      exfalso
      simp only [hdK] at k2
      rcases h2 with h2 | h2 <;> omega
  | .tuple ts, p, r, r', ht, hr, hr', e => by
    obtain ⟨c2, s2, k1, k2⟩ := head_of p
    obtain ⟨c, s, h1, h2⟩ := head_of (.tuple ts)
    have hc : c2 = c := by
      rw [h1, k1] at e
      injection e
    have h2 : c = 40 := h2
    subst hc h2
    cases p with
    | tuple ps =>
      cases ts with
      | nil =>
        cases ps with
        | nil => exact ⟨rfl, List.append_cancel_left e⟩
        | cons q qs =>
          exfalso
          rw [sh_nil, sh_cons] at e
          obtain ⟨c3, s3, m1, m2⟩ := head_of q
          rw [m1] at e
          injection e with _ e
          injection e with e _
          subst e
          cases q <;> simp [hdK, NumC] at m2
      | cons t ts =>
        have ht : okT t ∧ okTs ts := by simpa only [okT, okTs] using ht
        cases ps with
        | nil =>
          exfalso
          rw [sh_nil, sh_cons] at e
          obtain ⟨c3, s3, m1, m2⟩ := head_of t
          rw [m1] at e
          injection e with _ e
          injection e with e _
          subst e
          cases t <;> simp [hdK, NumC] at m2
        | cons q qs =>
          rw [sh_cons, sh_cons] at e
          simp only [List.cons_append, List.append_assoc] at e
          injection e with _ e
          obtain ⟨e1, e2⟩ := inj t q ht.1 (tm_jt qs r true) (tm_jt ts r' true) e
          cases qs with
          | nil =>
            cases ts with
            | nil =>
              refine ⟨by rw [e1], ?_⟩
              injection e2 with _ e2
              injection e2
            | cons u us =>
              exfalso
              injection e2 with _ e2
              injection e2 with e2 _
              cases e2
          | cons v vs =>
            cases ts with
            | nil =>
              exfalso
              injection e2 with _ e2
              injection e2 with e2 _
              cases e2
            | cons u us =>
              rw [if_neg (List.cons_ne_nil _ _), if_neg (List.cons_ne_nil _ _)] at e2
              obtain ⟨a, b⟩ := injL (u :: us) (v :: vs) ht.2 e2
              exact ⟨by rw [e1, a], b⟩
    | _ =>
      exfalso
      simp [hdK, NumC] at k2
  | .none, _, _, _, h, _, _, _ => by simp only [okT] at h
  | .bool _, _, _, _, h, _, _, _ => by simp only [okT] at h
  | .str _, _, _, _, h, _, _, _ => by simp only [okT] at h
  | .list _, _, _, _, h, _, _, _ => by simp only [okT] at h
  | .dict _, _, _, _, h, _, _, _ => by simp only [okT] at h
theorem injL : ∀ (ts ps : List PyData) {r r' : List Nat}, okTs ts → jt ps ++ ([41] ++ r) = jt ts ++ ([41] ++ r') → ps = ts ∧ r = r'
  | [], [], _, _, _, e => ⟨rfl, by injection e⟩
  | [], q :: qs, _, _, _, e => by
    injection e with e _
    cases e
  | t :: ts, [], _, _, _, e => by
    injection e with e _
    cases e
  | t :: ts, q :: qs, r, r', h, e => by
    have h : okT t ∧ okTs ts := by simpa only [okTs] using h
    simp only [jt, List.cons_append, List.append_assoc] at e
    injection e with _ e
    injection e with _ e
    obtain ⟨e1, e2⟩ := inj t q h.1 (tm_jt1 qs r) (tm_jt1 ts r') e
    obtain ⟨a, b⟩ := injL ts qs h.2 e2
    exact ⟨by rw [e1, a], b⟩
end
end Ri
end Ck
namespace Ck
open PySem PySem.Spec PyProof.Rows L2
local macro_rules | `(tactic| walk_at "ck") => `(tactic| try simp only [wW1, wWX, wNLen, wNSort, wNDictT, wWk, fTupX, wIndexN, wNNew, wNGet, wNIn, wNGetD, wNPut, wNDictL, wNDisp1, wiKeysN, wPopTo, strtD, nkG, nkP, Dt.opq.injEq, L2.V.ref.injEq, wNext, wBrk, wCnt, wSeq, wRet, wRetN, wSet, wOwn, wDrop, wUnp, wPar, wIfS, wApp, wExt, wSetIx, wAug, wFrz, wFor, wShp, wMx, wMN, wMD, wMO, setMx, k_var, k_vk1, k_vk2, k_par, wC, wL, wOp, wOpL, wF, wFL, wNil, wCons, wTup, wLst, wTV, wTAnd, wTOr, wTNot, wAnd, wOr, wNot, wIfx, wIsN, wNotN, wChain, wO0, wO1, wSl, wCall, wIsi, wLr1, wLr2, wNeg, wLc, wYes, wiSeq, wiR1, wiR2, wiEnum, wiZip, wiZipM, noOwnB, wipeD, wEmp, wListZip, wSortSet, wRevL, wRevT, wOneB, wParOD, wParDO, wParOO, wIndex, wNever, wUnp2, k_s20, k_s21, Option.bind_some, Option.map_some, wDNew, wDPut, wDGet, wDGetD, wDIn, wFrzD, wiKeys, Sv.dic.injEq, keysD, keyD, k_mulT, k_add1, k_add2, k_add3, k_add4, k_addL, k_sub, k_mul1, k_mul2, k_mulL, k_div, k_mod, k_pow, k_cmp, k_eq, k_ne, k_ea1, k_ea2, k_ea3, k_ea4, k_in1, k_in2, k_in3, k_in4, k_ix1, k_ix2, k_ix3, k_sl1, k_sl2, k_len1, k_len2, k_len3, k_int1, k_int2, k_abs, k_tuple1, k_tuple2, k_list1, k_list2, k_min2, k_max2, k_non_non, k_ty_int_non, k_ty_bool_non, k_ty_tuple_non, k_ty_str_non, k_ty_list_non, k_non_bl, k_ty_int_bl, k_ty_bool_bl, k_ty_tuple_bl, k_ty_str_bl, k_ty_list_bl, k_non_int, k_ty_int_int, k_ty_bool_int, k_ty_tuple_int, k_ty_str_int, k_ty_list_int, k_non_str, k_ty_int_str, k_ty_bool_str, k_ty_tuple_str, k_ty_str_str, k_ty_list_str, k_non_tup, k_ty_int_tup, k_ty_bool_tup, k_ty_tuple_tup, k_ty_str_tup, k_ty_list_tup, k_non_lst, k_ty_int_lst, k_ty_bool_lst, k_ty_tuple_lst, k_ty_str_lst, k_ty_list_lst, k_non_emp, k_ty_int_emp, k_ty_bool_emp, k_ty_tuple_emp, k_ty_str_emp, k_ty_list_emp, k_seq_non, k_seq_bl, k_seq_int, k_seq_str, k_seq_tup, k_seq_lst, k_seq_emp, k_sz0, k_sz1, k_sz2, k_sz3, k_sz4, k_sz5, k_sz6, k_sz7, k_sz8, k_sz9, k_sz10, k_sz11, k_sz12, k_sz13, k_sz14, k_sz15, k_sz16, k_sz17, k_sz18, k_sz19, k_sz20, k_sz21, k_sz22, k_sz23, k_at0, k_at1, k_at2, k_at3, k_iteT, k_iteF, k_bt1, k_bt2, k_sa0, k_sa1, k_endn, k_endr, List.getElem?_cons_succ, List.getElem?_cons_zero, List.set_cons_succ, List.set_cons_zero, List.length_cons, List.length_nil, List.length_map, List.all_cons, List.all_nil, Nat.reduceAdd, Nat.zero_add, Bool.and_true, Bool.and_self, Option.some.injEq, Dt.int.injEq, Dt.bl.injEq, Dt.str.injEq, Dt.tup.injEq, Dt.lst.injEq, Sv.dat.injEq, Sv.own.injEq, exists_eq_left', exists_eq_left, exists_eq_right, exists_eq', exists_eq, if_true, if_false, Bool.not_false, Bool.not_true, Bool.not_not, true_and, and_true, false_and, and_false, exists_const, reduceCtorEq])
/-! ### data as a law may draw them -/
mutual
/-- numbers are small -/
def smD : Dt → Prop
  | .int i => -(2 ^ 50) < i ∧ i < 2 ^ 50
  | .tup l => smL l
  | .tpx l => smL l
  | .lst l => smL l
  | .non => True
  | .bl _ => True
  | .str _ => True
  | .emp => True
  | .opq _ => False
  | .dic _ _ => False
  | .ins _ _ _ => False
def smL : List Dt → Prop
  | [] => True
  | d :: l => smD d ∧ smL l
end
theorem smL_all : ∀ {l : List Dt}, smL l ↔ ∀ d ∈ l, smD d
  | [] => by simp [smL]
  | d :: l => by
    have := smL_all (l := l)
    simp [smL, this]
mutual
theorem weak_pr : ∀ {d : Dt} {p : PyData}, d.pr = some p → weakD d = d
  | .non, _, _ => by simp only [weakD]
  | .bl _, _, _ => by simp only [weakD]
  | .int _, _, _ => by simp only [weakD]
  | .str _, _, _ => by simp only [weakD]
  | .emp, _, _ => by simp only [weakD]
  | .opq _, _, _ => by simp only [weakD]
  | .dic _ _, _, _ => by simp only [weakD]
  | .ins _ _ _, _, _ => by simp only [weakD]
  | .tpx _, _, h => by simp [Dt.pr] at h
  | .tup l, p, h => by
    simp only [Dt.pr, Option.map_eq_some_iff] at h
    obtain ⟨ps, e, _⟩ := h
    simp only [weakD, weak_prL e]
  | .lst l, p, h => by
    simp only [Dt.pr, Option.map_eq_some_iff] at h
    obtain ⟨ps, e, _⟩ := h
    simp only [weakD, weak_prL e]
theorem weak_prL : ∀ {l : List Dt} {ps : List PyData}, prL l = some ps → weakL l = l
  | [], _, _ => by simp only [weakL]
  | d :: l, ps, h => by
    simp only [prL, Option.bind_eq_some_iff, Option.map_eq_some_iff] at h
    obtain ⟨p, e1, qs, e2, _⟩ := h
    simp only [weakL, weak_pr e1, weak_prL e2]
end
/-- weak data that can be shown -/
structure Nc (k n : Nat) (d : Dt) : Prop where
  sm : smD d
  sh : Shw k n d
theorem Nc.wk {k n : Nat} {d : Dt} (h : Nc k n d) : weakD d = d := by
  obtain ⟨p, e, _⟩ := h.sh
  exact weak_pr e
theorem Nc.tupI {k n : Nat} {l : List Dt} (h : Nc k n (.tup l)) : ∀ x ∈ l, Nc k n x := by
  intro x hx
  have h1 : smL l := by
    have := h.sm
    simpa only [smD] using this
  refine ⟨smL_all.mp h1 x hx, ?_⟩
  obtain ⟨p, e, a⟩ := h.sh
  simp only [Dt.pr, Option.map_eq_some_iff] at e
  obtain ⟨ps, e1, rfl⟩ := e
  have h2 : ∀ (l : List Dt) (ps : List PyData), prL l = some ps → PyData.leavesShortAll 20 ps = true → PyData.showableAll ps = true → PyData.bulkAll ps ≤ k → PyData.depthAll ps ≤ n → ∀ x ∈ l, Shw k n x := by
    intro l
    induction l with
    | nil => intro ps _ _ _ _ _ x hx; cases hx
    | cons d l ih =>
      intro ps e a1 a2 a3 a4 x hx
      simp only [prL, Option.bind_eq_some_iff, Option.map_eq_some_iff] at e
      obtain ⟨p, e1, qs, e2, rfl⟩ := e
      simp only [PyData.leavesShortAll, Bool.and_eq_true] at a1
      simp only [PyData.showableAll, Bool.and_eq_true] at a2
      simp only [PyData.bulkAll] at a3
      simp only [PyData.depthAll] at a4
      rcases List.mem_cons.mp hx with rfl | hx
      · exact ⟨p, e1, a1.1, a2.1, by omega, by omega⟩
      · exact ih qs e2 a1.2 a2.2 (by omega) (by omega) x hx
  have b1 : PyData.leavesShortAll 20 ps = true := by simpa only [PyData.leavesShort] using a.lf
  have b2 : PyData.showableAll ps = true := by simpa only [PyData.showable] using a.sh
  have b3 : PyData.bulkAll ps ≤ k := by simpa only [PyData.bulk] using a.bk
  have b4 : PyData.depthAll ps + 1 ≤ n := by simpa only [PyData.depth] using a.dp
  exact h2 l ps e1 b1 b2 b3 (by omega) x hx
/-! ### fractions -/
end Ck
namespace Ck
open PySem PySem.Spec PyProof.Rows L2
local macro_rules | `(tactic| walk_at "ck") => `(tactic| try simp only [wW1, wWX, wNLen, wNSort, wNDictT, wWk, fTupX, wIndexN, wNNew, wNGet, wNIn, wNGetD, wNPut, wNDictL, wNDisp1, wiKeysN, wPopTo, strtD, nkG, nkP, Dt.opq.injEq, L2.V.ref.injEq, wNext, wBrk, wCnt, wSeq, wRet, wRetN, wSet, wOwn, wDrop, wUnp, wPar, wIfS, wApp, wExt, wSetIx, wAug, wFrz, wFor, wShp, wMx, wMN, wMD, wMO, setMx, k_var, k_vk1, k_vk2, k_par, wC, wL, wOp, wOpL, wF, wFL, wNil, wCons, wTup, wLst, wTV, wTAnd, wTOr, wTNot, wAnd, wOr, wNot, wIfx, wIsN, wNotN, wChain, wO0, wO1, wSl, wCall, wIsi, wLr1, wLr2, wNeg, wLc, wYes, wiSeq, wiR1, wiR2, wiEnum, wiZip, wiZipM, noOwnB, wipeD, wEmp, wListZip, wSortSet, wRevL, wRevT, wOneB, wParOD, wParDO, wParOO, wIndex, wNever, wUnp2, k_s20, k_s21, Option.bind_some, Option.map_some, wDNew, wDPut, wDGet, wDGetD, wDIn, wFrzD, wiKeys, Sv.dic.injEq, keysD, keyD, k_mulT, k_add1, k_add2, k_add3, k_add4, k_addL, k_sub, k_mul1, k_mul2, k_mulL, k_div, k_mod, k_pow, k_cmp, k_eq, k_ne, k_ea1, k_ea2, k_ea3, k_ea4, k_in1, k_in2, k_in3, k_in4, k_ix1, k_ix2, k_ix3, k_sl1, k_sl2, k_len1, k_len2, k_len3, k_int1, k_int2, k_abs, k_tuple1, k_tuple2, k_list1, k_list2, k_min2, k_max2, k_non_non, k_ty_int_non, k_ty_bool_non, k_ty_tuple_non, k_ty_str_non, k_ty_list_non, k_non_bl, k_ty_int_bl, k_ty_bool_bl, k_ty_tuple_bl, k_ty_str_bl, k_ty_list_bl, k_non_int, k_ty_int_int, k_ty_bool_int, k_ty_tuple_int, k_ty_str_int, k_ty_list_int, k_non_str, k_ty_int_str, k_ty_bool_str, k_ty_tuple_str, k_ty_str_str, k_ty_list_str, k_non_tup, k_ty_int_tup, k_ty_bool_tup, k_ty_tuple_tup, k_ty_str_tup, k_ty_list_tup, k_non_lst, k_ty_int_lst, k_ty_bool_lst, k_ty_tuple_lst, k_ty_str_lst, k_ty_list_lst, k_non_emp, k_ty_int_emp, k_ty_bool_emp, k_ty_tuple_emp, k_ty_str_emp, k_ty_list_emp, k_seq_non, k_seq_bl, k_seq_int, k_seq_str, k_seq_tup, k_seq_lst, k_seq_emp, k_sz0, k_sz1, k_sz2, k_sz3, k_sz4, k_sz5, k_sz6, k_sz7, k_sz8, k_sz9, k_sz10, k_sz11, k_sz12, k_sz13, k_sz14, k_sz15, k_sz16, k_sz17, k_sz18, k_sz19, k_sz20, k_sz21, k_sz22, k_sz23, k_at0, k_at1, k_at2, k_at3, k_iteT, k_iteF, k_bt1, k_bt2, k_sa0, k_sa1, k_endn, k_endr, List.getElem?_cons_succ, List.getElem?_cons_zero, List.set_cons_succ, List.set_cons_zero, List.length_cons, List.length_nil, List.length_map, List.all_cons, List.all_nil, Nat.reduceAdd, Nat.zero_add, Bool.and_true, Bool.and_self, Option.some.injEq, Dt.int.injEq, Dt.bl.injEq, Dt.str.injEq, Dt.tup.injEq, Dt.lst.injEq, Sv.dat.injEq, Sv.own.injEq, exists_eq_left', exists_eq_left, exists_eq_right, exists_eq', exists_eq, if_true, if_false, Bool.not_false, Bool.not_true, Bool.not_not, true_and, and_true, false_and, and_false, exists_const, reduceCtorEq])
open Kp (Gr Ok Row PRow Least Best Mean Found en co wt wt1 HInv Fix addR bigR allE room Ring Inside)
/-! ### a standing's text -/
theorem shw_dSt {k : Keeper} (ko : KeeperOk k) {s : Std} (gs : GoodS k s) : Shw 400 3 (dSt s) := by
  have hw := ko.w
  have hp := ko.ps
  have hf0 := gs.f0
  have hf1 := gs.f1
  have h3 : Shw 300 2 (.tup ((runsC s.1).map dS)) := shw_runs gs.so (by omega) (by omega)
  have h4 : Shw 0 2 (.int s.2) := (shw_int (by omega) (by omega)).mono (Nat.le_refl _) (by omega)
  exact (shw_tup (shwL_cons h3 (shwL_cons h4 shwL_nil))).mono (by omega) (by omega)
end Ck
namespace Ck
open PySem PySem.Spec PyProof.Rows L2
local macro_rules | `(tactic| walk_at "ck") => `(tactic| try simp only [wW1, wWX, wNLen, wNSort, wNDictT, wWk, fTupX, wIndexN, wNNew, wNGet, wNIn, wNGetD, wNPut, wNDictL, wNDisp1, wiKeysN, wPopTo, strtD, nkG, nkP, Dt.opq.injEq, L2.V.ref.injEq, wNext, wBrk, wCnt, wSeq, wRet, wRetN, wSet, wOwn, wDrop, wUnp, wPar, wIfS, wApp, wExt, wSetIx, wAug, wFrz, wFor, wShp, wMx, wMN, wMD, wMO, setMx, k_var, k_vk1, k_vk2, k_par, wC, wL, wOp, wOpL, wF, wFL, wNil, wCons, wTup, wLst, wTV, wTAnd, wTOr, wTNot, wAnd, wOr, wNot, wIfx, wIsN, wNotN, wChain, wO0, wO1, wSl, wCall, wIsi, wLr1, wLr2, wNeg, wLc, wYes, wiSeq, wiR1, wiR2, wiEnum, wiZip, wiZipM, noOwnB, wipeD, wEmp, wListZip, wSortSet, wRevL, wRevT, wOneB, wParOD, wParDO, wParOO, wIndex, wNever, wUnp2, k_s20, k_s21, Option.bind_some, Option.map_some, wDNew, wDPut, wDGet, wDGetD, wDIn, wFrzD, wiKeys, Sv.dic.injEq, keysD, keyD, k_mulT, k_add1, k_add2, k_add3, k_add4, k_addL, k_sub, k_mul1, k_mul2, k_mulL, k_div, k_mod, k_pow, k_cmp, k_eq, k_ne, k_ea1, k_ea2, k_ea3, k_ea4, k_in1, k_in2, k_in3, k_in4, k_ix1, k_ix2, k_ix3, k_sl1, k_sl2, k_len1, k_len2, k_len3, k_int1, k_int2, k_abs, k_tuple1, k_tuple2, k_list1, k_list2, k_min2, k_max2, k_non_non, k_ty_int_non, k_ty_bool_non, k_ty_tuple_non, k_ty_str_non, k_ty_list_non, k_non_bl, k_ty_int_bl, k_ty_bool_bl, k_ty_tuple_bl, k_ty_str_bl, k_ty_list_bl, k_non_int, k_ty_int_int, k_ty_bool_int, k_ty_tuple_int, k_ty_str_int, k_ty_list_int, k_non_str, k_ty_int_str, k_ty_bool_str, k_ty_tuple_str, k_ty_str_str, k_ty_list_str, k_non_tup, k_ty_int_tup, k_ty_bool_tup, k_ty_tuple_tup, k_ty_str_tup, k_ty_list_tup, k_non_lst, k_ty_int_lst, k_ty_bool_lst, k_ty_tuple_lst, k_ty_str_lst, k_ty_list_lst, k_non_emp, k_ty_int_emp, k_ty_bool_emp, k_ty_tuple_emp, k_ty_str_emp, k_ty_list_emp, k_seq_non, k_seq_bl, k_seq_int, k_seq_str, k_seq_tup, k_seq_lst, k_seq_emp, k_sz0, k_sz1, k_sz2, k_sz3, k_sz4, k_sz5, k_sz6, k_sz7, k_sz8, k_sz9, k_sz10, k_sz11, k_sz12, k_sz13, k_sz14, k_sz15, k_sz16, k_sz17, k_sz18, k_sz19, k_sz20, k_sz21, k_sz22, k_sz23, k_at0, k_at1, k_at2, k_at3, k_iteT, k_iteF, k_bt1, k_bt2, k_sa0, k_sa1, k_endn, k_endr, List.getElem?_cons_succ, List.getElem?_cons_zero, List.set_cons_succ, List.set_cons_zero, List.length_cons, List.length_nil, List.length_map, List.all_cons, List.all_nil, Nat.reduceAdd, Nat.zero_add, Bool.and_true, Bool.and_self, Option.some.injEq, Dt.int.injEq, Dt.bl.injEq, Dt.str.injEq, Dt.tup.injEq, Dt.lst.injEq, Sv.dat.injEq, Sv.own.injEq, exists_eq_left', exists_eq_left, exists_eq_right, exists_eq', exists_eq, if_true, if_false, Bool.not_false, Bool.not_true, Bool.not_not, true_and, and_true, false_and, and_false, exists_const, reduceCtorEq])
open Kp (Gr Ok Row PRow Least Best Mean Found en co wt wt1 HInv Fix addR bigR allE room Ring Inside)
/-! ### sizes -/
def Bz (a : Nat) (i : Int) : Prop := i.natAbs < 2 ^ a
theorem Bz.mul {a b : Nat} {i j : Int} (h : Bz a i) (h' : Bz b j) : Bz (a + b) (i * j) := by
  unfold Bz at *
  rw [Int.natAbs_mul, Nat.pow_add]
  exact Nat.mul_lt_mul'' h h'
theorem Bz.ok {a b : Nat} {i j : Int} (h : Bz a i) (h' : Bz b j) (hh : a + b ≤ 134217728) : CMulX i j := mulx_ok h h' hh
theorem Bz.of {i : Int} (h1 : -(2 ^ 50) < i) (h2 : i < 2 ^ 50) : Bz 50 i := by
  unfold Bz
  omega
theorem Bz.add {a : Nat} {i j : Int} (h : Bz a i) (h' : Bz a j) : Bz (a + 1) (i + j) := by
  unfold Bz at *
  rw [Nat.pow_succ]
  omega
/-! ### heights, one by one -/
/-- a cost and a height are at most a mean and another height -/
def bndB (m h t : Int × Int) (c : Int) : Bool := decide (c * m.2 * h.2 * t.2 + t.1 * m.2 * h.2 ≤ m.1 * h.2 * t.2 + h.1 * m.2 * t.2)
end Ck
namespace Ck
open PySem PySem.Spec PyProof.Rows L2
local macro_rules | `(tactic| walk_at "ck") => `(tactic| try simp only [wW1, wWX, wNLen, wNSort, wNDictT, wWk, fTupX, wIndexN, wNNew, wNGet, wNIn, wNGetD, wNPut, wNDictL, wNDisp1, wiKeysN, wPopTo, strtD, nkG, nkP, Dt.opq.injEq, L2.V.ref.injEq, wNext, wBrk, wCnt, wSeq, wRet, wRetN, wSet, wOwn, wDrop, wUnp, wPar, wIfS, wApp, wExt, wSetIx, wAug, wFrz, wFor, wShp, wMx, wMN, wMD, wMO, setMx, k_var, k_vk1, k_vk2, k_par, wC, wL, wOp, wOpL, wF, wFL, wNil, wCons, wTup, wLst, wTV, wTAnd, wTOr, wTNot, wAnd, wOr, wNot, wIfx, wIsN, wNotN, wChain, wO0, wO1, wSl, wCall, wIsi, wLr1, wLr2, wNeg, wLc, wYes, wiSeq, wiR1, wiR2, wiEnum, wiZip, wiZipM, noOwnB, wipeD, wEmp, wListZip, wSortSet, wRevL, wRevT, wOneB, wParOD, wParDO, wParOO, wIndex, wNever, wUnp2, k_s20, k_s21, Option.bind_some, Option.map_some, wDNew, wDPut, wDGet, wDGetD, wDIn, wFrzD, wiKeys, Sv.dic.injEq, keysD, keyD, k_mulT, k_add1, k_add2, k_add3, k_add4, k_addL, k_sub, k_mul1, k_mul2, k_mulL, k_div, k_mod, k_pow, k_cmp, k_eq, k_ne, k_ea1, k_ea2, k_ea3, k_ea4, k_in1, k_in2, k_in3, k_in4, k_ix1, k_ix2, k_ix3, k_sl1, k_sl2, k_len1, k_len2, k_len3, k_int1, k_int2, k_abs, k_tuple1, k_tuple2, k_list1, k_list2, k_min2, k_max2, k_non_non, k_ty_int_non, k_ty_bool_non, k_ty_tuple_non, k_ty_str_non, k_ty_list_non, k_non_bl, k_ty_int_bl, k_ty_bool_bl, k_ty_tuple_bl, k_ty_str_bl, k_ty_list_bl, k_non_int, k_ty_int_int, k_ty_bool_int, k_ty_tuple_int, k_ty_str_int, k_ty_list_int, k_non_str, k_ty_int_str, k_ty_bool_str, k_ty_tuple_str, k_ty_str_str, k_ty_list_str, k_non_tup, k_ty_int_tup, k_ty_bool_tup, k_ty_tuple_tup, k_ty_str_tup, k_ty_list_tup, k_non_lst, k_ty_int_lst, k_ty_bool_lst, k_ty_tuple_lst, k_ty_str_lst, k_ty_list_lst, k_non_emp, k_ty_int_emp, k_ty_bool_emp, k_ty_tuple_emp, k_ty_str_emp, k_ty_list_emp, k_seq_non, k_seq_bl, k_seq_int, k_seq_str, k_seq_tup, k_seq_lst, k_seq_emp, k_sz0, k_sz1, k_sz2, k_sz3, k_sz4, k_sz5, k_sz6, k_sz7, k_sz8, k_sz9, k_sz10, k_sz11, k_sz12, k_sz13, k_sz14, k_sz15, k_sz16, k_sz17, k_sz18, k_sz19, k_sz20, k_sz21, k_sz22, k_sz23, k_at0, k_at1, k_at2, k_at3, k_iteT, k_iteF, k_bt1, k_bt2, k_sa0, k_sa1, k_endn, k_endr, List.getElem?_cons_succ, List.getElem?_cons_zero, List.set_cons_succ, List.set_cons_zero, List.length_cons, List.length_nil, List.length_map, List.all_cons, List.all_nil, Nat.reduceAdd, Nat.zero_add, Bool.and_true, Bool.and_self, Option.some.injEq, Dt.int.injEq, Dt.bl.injEq, Dt.str.injEq, Dt.tup.injEq, Dt.lst.injEq, Sv.dat.injEq, Sv.own.injEq, exists_eq_left', exists_eq_left, exists_eq_right, exists_eq', exists_eq, if_true, if_false, Bool.not_false, Bool.not_true, Bool.not_not, true_and, and_true, false_and, and_false, exists_const, reduceCtorEq])
open Kp (Gr Ok Row PRow Least Best Mean Found en co wt wt1 HInv Fix addR bigR allE room Ring Inside)
/-! ### rounds -/
def RndP (k : Keeper) (W : List Std) (p q : Int) (u : Dt) : Prop := ∃ t z, u = rndD t z ∧ RoundOk k W p q t z
theorem co_snoc {k : Keeper} {W : List Std} (t : Std) (z : List Nat) (j : Nat) : co (gK k W) t (z ++ [j]) = co (gK k W) t z + costS k (en (gK k W) t z) (pl j) := by
  rw [Kp.co_app]
  show _ + (costS k (en (gK k W) t z) (pl j) + 0) = _
  omega
theorem co_bd {k : Keeper} (ko : KeeperOk k) {W : List Std} (wf : WebF k W) {t : Std} (ht : t ∈ W) {z : List Nat} (hz : ∀ j ∈ z, j ∈ plcs k) : 0 ≤ co (gK k W) t z ∧ co (gK k W) t z ≤ 13000000 * (z.length : Int) :=
  ⟨(gK_ok ko wf).co0 ht hz, (gK_ok ko wf).co_le (fun s hs j hj => costS_13 ko (wf.good s hs) hj) ht hz⟩
end Ck
namespace Ck
open PySem PySem.Spec PyProof.Rows L2
local macro_rules | `(tactic| walk_at "ck") => `(tactic| try simp only [wW1, wWX, wNLen, wNSort, wNDictT, wWk, fTupX, wIndexN, wNNew, wNGet, wNIn, wNGetD, wNPut, wNDictL, wNDisp1, wiKeysN, wPopTo, strtD, nkG, nkP, Dt.opq.injEq, L2.V.ref.injEq, wNext, wBrk, wCnt, wSeq, wRet, wRetN, wSet, wOwn, wDrop, wUnp, wPar, wIfS, wApp, wExt, wSetIx, wAug, wFrz, wFor, wShp, wMx, wMN, wMD, wMO, setMx, k_var, k_vk1, k_vk2, k_par, wC, wL, wOp, wOpL, wF, wFL, wNil, wCons, wTup, wLst, wTV, wTAnd, wTOr, wTNot, wAnd, wOr, wNot, wIfx, wIsN, wNotN, wChain, wO0, wO1, wSl, wCall, wIsi, wLr1, wLr2, wNeg, wLc, wYes, wiSeq, wiR1, wiR2, wiEnum, wiZip, wiZipM, noOwnB, wipeD, wEmp, wListZip, wSortSet, wRevL, wRevT, wOneB, wParOD, wParDO, wParOO, wIndex, wNever, wUnp2, k_s20, k_s21, Option.bind_some, Option.map_some, wDNew, wDPut, wDGet, wDGetD, wDIn, wFrzD, wiKeys, Sv.dic.injEq, keysD, keyD, k_mulT, k_add1, k_add2, k_add3, k_add4, k_addL, k_sub, k_mul1, k_mul2, k_mulL, k_div, k_mod, k_pow, k_cmp, k_eq, k_ne, k_ea1, k_ea2, k_ea3, k_ea4, k_in1, k_in2, k_in3, k_in4, k_ix1, k_ix2, k_ix3, k_sl1, k_sl2, k_len1, k_len2, k_len3, k_int1, k_int2, k_abs, k_tuple1, k_tuple2, k_list1, k_list2, k_min2, k_max2, k_non_non, k_ty_int_non, k_ty_bool_non, k_ty_tuple_non, k_ty_str_non, k_ty_list_non, k_non_bl, k_ty_int_bl, k_ty_bool_bl, k_ty_tuple_bl, k_ty_str_bl, k_ty_list_bl, k_non_int, k_ty_int_int, k_ty_bool_int, k_ty_tuple_int, k_ty_str_int, k_ty_list_int, k_non_str, k_ty_int_str, k_ty_bool_str, k_ty_tuple_str, k_ty_str_str, k_ty_list_str, k_non_tup, k_ty_int_tup, k_ty_bool_tup, k_ty_tuple_tup, k_ty_str_tup, k_ty_list_tup, k_non_lst, k_ty_int_lst, k_ty_bool_lst, k_ty_tuple_lst, k_ty_str_lst, k_ty_list_lst, k_non_emp, k_ty_int_emp, k_ty_bool_emp, k_ty_tuple_emp, k_ty_str_emp, k_ty_list_emp, k_seq_non, k_seq_bl, k_seq_int, k_seq_str, k_seq_tup, k_seq_lst, k_seq_emp, k_sz0, k_sz1, k_sz2, k_sz3, k_sz4, k_sz5, k_sz6, k_sz7, k_sz8, k_sz9, k_sz10, k_sz11, k_sz12, k_sz13, k_sz14, k_sz15, k_sz16, k_sz17, k_sz18, k_sz19, k_sz20, k_sz21, k_sz22, k_sz23, k_at0, k_at1, k_at2, k_at3, k_iteT, k_iteF, k_bt1, k_bt2, k_sa0, k_sa1, k_endn, k_endr, List.getElem?_cons_succ, List.getElem?_cons_zero, List.set_cons_succ, List.set_cons_zero, List.length_cons, List.length_nil, List.length_map, List.all_cons, List.all_nil, Nat.reduceAdd, Nat.zero_add, Bool.and_true, Bool.and_self, Option.some.injEq, Dt.int.injEq, Dt.bl.injEq, Dt.str.injEq, Dt.tup.injEq, Dt.lst.injEq, Sv.dat.injEq, Sv.own.injEq, exists_eq_left', exists_eq_left, exists_eq_right, exists_eq', exists_eq, if_true, if_false, Bool.not_false, Bool.not_true, Bool.not_not, true_and, and_true, false_and, and_false, exists_const, reduceCtorEq])
open Kp (Gr Ok Row PRow Least Best Mean Found en co wt wt1 HInv Fix addR bigR allE room Ring Inside)
/-! ### heights -/
def prE (L : List Std) (h : Std → Int × Int) : DEnt := L.map fun s => (dSt s, pairD (h s))
theorem prE_in {k : Keeper} (ko : KeeperOk k) {R : List Std} {h : Std → Int × Int} (g : ∀ s ∈ R, GoodS k s) {t : Std} (gt : GoodS k t) (hh : t ∈ R) : valN (prE R h) (dSt t) = some (pairD (h t)) :=
  valN_in (g := fun s => pairD (h s)) hh fun c hc e => by
    rw [keyN_dSt, keyN_dSt] at e
    exact kSt_inj ko (g c hc) gt (Option.some.inj e)
theorem prE_out {k : Keeper} (ko : KeeperOk k) {R : List Std} {h : Std → Int × Int} (g : ∀ s ∈ R, GoodS k s) {t : Std} (gt : GoodS k t) (hh : t ∉ R) : valN (prE R h) (dSt t) = none :=
  valN_out (g := fun s => pairD (h s)) fun c hc e => by
    rw [keyN_dSt, keyN_dSt] at e
    exact hh (kSt_inj ko (g c hc) gt (Option.some.inj e) ▸ hc)
theorem prE_put {k : Keeper} (ko : KeeperOk k) {R : List Std} {h : Std → Int × Int} (g : ∀ s ∈ R, GoodS k s) {t : Std} (gt : GoodS k t) (hh : t ∉ R) : putN (prE R h) (dSt t) (pairD (h t)) = prE (R ++ [t]) h := by
  rw [putN_new (prE_out ko g gt hh)]
  simp [prE]
theorem pairs_pr {h : Std → Int × Int} : ∀ {L : List Std}, pairsD (L.map (hgD h)) = some (prE L h)
  | [] => rfl
  | s :: L => by
    have ih := pairs_pr (h := h) (L := L)
    show pairsD (.tup [dSt s, pairD (h s)] :: L.map (hgD h)) = _
    unfold pairsD
    rw [if_pos (keyN_some s), ih]
    rfl
theorem merge_pr {k : Keeper} (ko : KeeperOk k) {h : Std → Int × Int} : ∀ {W U : List Std}, (U ++ W).Nodup → (∀ s ∈ U ++ W, GoodS k s) → mergeN (prE U h) (prE W h) = prE (U ++ W) h
  | [], U, _, _ => by rw [List.append_nil]; rfl
  | s :: W, U, nd, g => by
    have h1 : s ∉ U := fun h => by
      obtain ⟨_, _, h3⟩ := List.nodup_append.mp nd
      exact h3 s h s List.mem_cons_self rfl
    have e : mergeN (prE U h) (prE (s :: W) h) = mergeN (putN (prE U h) (dSt s) (pairD (h s))) (prE W h) := rfl
    rw [e, prE_put ko (fun t ht => g t (List.mem_append_left _ ht)) (g s (List.mem_append_right _ List.mem_cons_self)) h1, merge_pr ko (by rwa [List.append_assoc]) (by rwa [List.append_assoc]), List.append_assoc]
    rfl
/-- the right standings, each with a fraction -/
def HgsF (W : List Std) (u : Dt) (h : Std → Int × Int) : Prop := u = .tup ((sortW W).map (hgD h)) ∧ ∀ s ∈ W, 1 ≤ (h s).2 ∧ lowF (h s).1 (h s).2 = h s
def HgtsP (k : Keeper) (W : List Std) (m : Int × Int) (u : Dt) : Prop := ∃ h, HgsF W u h ∧ ∀ s ∈ W, ∀ j ∈ plcs k, bndB m (h s) (h (nxt k s (pl j))) (costS k s (pl j)) = true
/-- such a tuple is a known one -/
def TopX (W : List Std) (v : Dt) : Prop := (∃ h, HgsF W (weakD v) h) → ∃ l, v = .tpx l
end Ck
namespace Ck
open PySem PySem.Spec PyProof.Rows L2
local macro_rules | `(tactic| walk_at "ck") => `(tactic| try simp only [wW1, wWX, wNLen, wNSort, wNDictT, wWk, fTupX, wIndexN, wNNew, wNGet, wNIn, wNGetD, wNPut, wNDictL, wNDisp1, wiKeysN, wPopTo, strtD, nkG, nkP, Dt.opq.injEq, L2.V.ref.injEq, wNext, wBrk, wCnt, wSeq, wRet, wRetN, wSet, wOwn, wDrop, wUnp, wPar, wIfS, wApp, wExt, wSetIx, wAug, wFrz, wFor, wShp, wMx, wMN, wMD, wMO, setMx, k_var, k_vk1, k_vk2, k_par, wC, wL, wOp, wOpL, wF, wFL, wNil, wCons, wTup, wLst, wTV, wTAnd, wTOr, wTNot, wAnd, wOr, wNot, wIfx, wIsN, wNotN, wChain, wO0, wO1, wSl, wCall, wIsi, wLr1, wLr2, wNeg, wLc, wYes, wiSeq, wiR1, wiR2, wiEnum, wiZip, wiZipM, noOwnB, wipeD, wEmp, wListZip, wSortSet, wRevL, wRevT, wOneB, wParOD, wParDO, wParOO, wIndex, wNever, wUnp2, k_s20, k_s21, Option.bind_some, Option.map_some, wDNew, wDPut, wDGet, wDGetD, wDIn, wFrzD, wiKeys, Sv.dic.injEq, keysD, keyD, k_mulT, k_add1, k_add2, k_add3, k_add4, k_addL, k_sub, k_mul1, k_mul2, k_mulL, k_div, k_mod, k_pow, k_cmp, k_eq, k_ne, k_ea1, k_ea2, k_ea3, k_ea4, k_in1, k_in2, k_in3, k_in4, k_ix1, k_ix2, k_ix3, k_sl1, k_sl2, k_len1, k_len2, k_len3, k_int1, k_int2, k_abs, k_tuple1, k_tuple2, k_list1, k_list2, k_min2, k_max2, k_non_non, k_ty_int_non, k_ty_bool_non, k_ty_tuple_non, k_ty_str_non, k_ty_list_non, k_non_bl, k_ty_int_bl, k_ty_bool_bl, k_ty_tuple_bl, k_ty_str_bl, k_ty_list_bl, k_non_int, k_ty_int_int, k_ty_bool_int, k_ty_tuple_int, k_ty_str_int, k_ty_list_int, k_non_str, k_ty_int_str, k_ty_bool_str, k_ty_tuple_str, k_ty_str_str, k_ty_list_str, k_non_tup, k_ty_int_tup, k_ty_bool_tup, k_ty_tuple_tup, k_ty_str_tup, k_ty_list_tup, k_non_lst, k_ty_int_lst, k_ty_bool_lst, k_ty_tuple_lst, k_ty_str_lst, k_ty_list_lst, k_non_emp, k_ty_int_emp, k_ty_bool_emp, k_ty_tuple_emp, k_ty_str_emp, k_ty_list_emp, k_seq_non, k_seq_bl, k_seq_int, k_seq_str, k_seq_tup, k_seq_lst, k_seq_emp, k_sz0, k_sz1, k_sz2, k_sz3, k_sz4, k_sz5, k_sz6, k_sz7, k_sz8, k_sz9, k_sz10, k_sz11, k_sz12, k_sz13, k_sz14, k_sz15, k_sz16, k_sz17, k_sz18, k_sz19, k_sz20, k_sz21, k_sz22, k_sz23, k_at0, k_at1, k_at2, k_at3, k_iteT, k_iteF, k_bt1, k_bt2, k_sa0, k_sa1, k_endn, k_endr, List.getElem?_cons_succ, List.getElem?_cons_zero, List.set_cons_succ, List.set_cons_zero, List.length_cons, List.length_nil, List.length_map, List.all_cons, List.all_nil, Nat.reduceAdd, Nat.zero_add, Bool.and_true, Bool.and_self, Option.some.injEq, Dt.int.injEq, Dt.bl.injEq, Dt.str.injEq, Dt.tup.injEq, Dt.lst.injEq, Sv.dat.injEq, Sv.own.injEq, exists_eq_left', exists_eq_left, exists_eq_right, exists_eq', exists_eq, if_true, if_false, Bool.not_false, Bool.not_true, Bool.not_not, true_and, and_true, false_and, and_false, exists_const, reduceCtorEq])
open Kp (Gr Ok Row PRow Least Best Mean Found en co wt wt1 HInv Fix addR bigR allE room Ring Inside)
/-! ### a greatest mean, a round, heights -/
def WorstP (k : Keeper) (W : List Std) (u : Dt) : Prop := ∃ p q x y, u = .tup [pairD (p, q), x, y] ∧ (1 ≤ q ∧ lowF p q = (p, q)) ∧ RndP k W p q x ∧ HgtsP k W (p, q) y
/-- heights that stand there are a known tuple -/
def Top3 (W : List Std) (v : Dt) : Prop := ∀ l y, weak1 v = .tup l → l.length = 3 → l[2]? = some y → TopX W y
end Ck
namespace Ck
open PySem PySem.Spec PyProof.Rows L2
local macro_rules | `(tactic| walk_at "ck") => `(tactic| try simp only [wW1, wWX, wNLen, wNSort, wNDictT, wWk, fTupX, wIndexN, wNNew, wNGet, wNIn, wNGetD, wNPut, wNDictL, wNDisp1, wiKeysN, wPopTo, strtD, nkG, nkP, Dt.opq.injEq, L2.V.ref.injEq, wNext, wBrk, wCnt, wSeq, wRet, wRetN, wSet, wOwn, wDrop, wUnp, wPar, wIfS, wApp, wExt, wSetIx, wAug, wFrz, wFor, wShp, wMx, wMN, wMD, wMO, setMx, k_var, k_vk1, k_vk2, k_par, wC, wL, wOp, wOpL, wF, wFL, wNil, wCons, wTup, wLst, wTV, wTAnd, wTOr, wTNot, wAnd, wOr, wNot, wIfx, wIsN, wNotN, wChain, wO0, wO1, wSl, wCall, wIsi, wLr1, wLr2, wNeg, wLc, wYes, wiSeq, wiR1, wiR2, wiEnum, wiZip, wiZipM, noOwnB, wipeD, wEmp, wListZip, wSortSet, wRevL, wRevT, wOneB, wParOD, wParDO, wParOO, wIndex, wNever, wUnp2, k_s20, k_s21, Option.bind_some, Option.map_some, wDNew, wDPut, wDGet, wDGetD, wDIn, wFrzD, wiKeys, Sv.dic.injEq, keysD, keyD, k_mulT, k_add1, k_add2, k_add3, k_add4, k_addL, k_sub, k_mul1, k_mul2, k_mulL, k_div, k_mod, k_pow, k_cmp, k_eq, k_ne, k_ea1, k_ea2, k_ea3, k_ea4, k_in1, k_in2, k_in3, k_in4, k_ix1, k_ix2, k_ix3, k_sl1, k_sl2, k_len1, k_len2, k_len3, k_int1, k_int2, k_abs, k_tuple1, k_tuple2, k_list1, k_list2, k_min2, k_max2, k_non_non, k_ty_int_non, k_ty_bool_non, k_ty_tuple_non, k_ty_str_non, k_ty_list_non, k_non_bl, k_ty_int_bl, k_ty_bool_bl, k_ty_tuple_bl, k_ty_str_bl, k_ty_list_bl, k_non_int, k_ty_int_int, k_ty_bool_int, k_ty_tuple_int, k_ty_str_int, k_ty_list_int, k_non_str, k_ty_int_str, k_ty_bool_str, k_ty_tuple_str, k_ty_str_str, k_ty_list_str, k_non_tup, k_ty_int_tup, k_ty_bool_tup, k_ty_tuple_tup, k_ty_str_tup, k_ty_list_tup, k_non_lst, k_ty_int_lst, k_ty_bool_lst, k_ty_tuple_lst, k_ty_str_lst, k_ty_list_lst, k_non_emp, k_ty_int_emp, k_ty_bool_emp, k_ty_tuple_emp, k_ty_str_emp, k_ty_list_emp, k_seq_non, k_seq_bl, k_seq_int, k_seq_str, k_seq_tup, k_seq_lst, k_seq_emp, k_sz0, k_sz1, k_sz2, k_sz3, k_sz4, k_sz5, k_sz6, k_sz7, k_sz8, k_sz9, k_sz10, k_sz11, k_sz12, k_sz13, k_sz14, k_sz15, k_sz16, k_sz17, k_sz18, k_sz19, k_sz20, k_sz21, k_sz22, k_sz23, k_at0, k_at1, k_at2, k_at3, k_iteT, k_iteF, k_bt1, k_bt2, k_sa0, k_sa1, k_endn, k_endr, List.getElem?_cons_succ, List.getElem?_cons_zero, List.set_cons_succ, List.set_cons_zero, List.length_cons, List.length_nil, List.length_map, List.all_cons, List.all_nil, Nat.reduceAdd, Nat.zero_add, Bool.and_true, Bool.and_self, Option.some.injEq, Dt.int.injEq, Dt.bl.injEq, Dt.str.injEq, Dt.tup.injEq, Dt.lst.injEq, Sv.dat.injEq, Sv.own.injEq, exists_eq_left', exists_eq_left, exists_eq_right, exists_eq', exists_eq, if_true, if_false, Bool.not_false, Bool.not_true, Bool.not_not, true_and, and_true, false_and, and_false, exists_const, reduceCtorEq])
open Kp (Gr Ok Row PRow Least Best Mean Found en co wt wt1 HInv Fix addR bigR allE room Ring Inside)
/-! ### the law's own look -/
end Ck
namespace Ck
open PySem PySem.Spec PyProof.Rows L2
local macro_rules | `(tactic| walk_at "ck") => `(tactic| try simp only [wW1, wWX, wNLen, wNSort, wNDictT, wWk, fTupX, wIndexN, wNNew, wNGet, wNIn, wNGetD, wNPut, wNDictL, wNDisp1, wiKeysN, wPopTo, strtD, nkG, nkP, Dt.opq.injEq, L2.V.ref.injEq, wNext, wBrk, wCnt, wSeq, wRet, wRetN, wSet, wOwn, wDrop, wUnp, wPar, wIfS, wApp, wExt, wSetIx, wAug, wFrz, wFor, wShp, wMx, wMN, wMD, wMO, setMx, k_var, k_vk1, k_vk2, k_par, wC, wL, wOp, wOpL, wF, wFL, wNil, wCons, wTup, wLst, wTV, wTAnd, wTOr, wTNot, wAnd, wOr, wNot, wIfx, wIsN, wNotN, wChain, wO0, wO1, wSl, wCall, wIsi, wLr1, wLr2, wNeg, wLc, wYes, wiSeq, wiR1, wiR2, wiEnum, wiZip, wiZipM, noOwnB, wipeD, wEmp, wListZip, wSortSet, wRevL, wRevT, wOneB, wParOD, wParDO, wParOO, wIndex, wNever, wUnp2, k_s20, k_s21, Option.bind_some, Option.map_some, wDNew, wDPut, wDGet, wDGetD, wDIn, wFrzD, wiKeys, Sv.dic.injEq, keysD, keyD, k_mulT, k_add1, k_add2, k_add3, k_add4, k_addL, k_sub, k_mul1, k_mul2, k_mulL, k_div, k_mod, k_pow, k_cmp, k_eq, k_ne, k_ea1, k_ea2, k_ea3, k_ea4, k_in1, k_in2, k_in3, k_in4, k_ix1, k_ix2, k_ix3, k_sl1, k_sl2, k_len1, k_len2, k_len3, k_int1, k_int2, k_abs, k_tuple1, k_tuple2, k_list1, k_list2, k_min2, k_max2, k_non_non, k_ty_int_non, k_ty_bool_non, k_ty_tuple_non, k_ty_str_non, k_ty_list_non, k_non_bl, k_ty_int_bl, k_ty_bool_bl, k_ty_tuple_bl, k_ty_str_bl, k_ty_list_bl, k_non_int, k_ty_int_int, k_ty_bool_int, k_ty_tuple_int, k_ty_str_int, k_ty_list_int, k_non_str, k_ty_int_str, k_ty_bool_str, k_ty_tuple_str, k_ty_str_str, k_ty_list_str, k_non_tup, k_ty_int_tup, k_ty_bool_tup, k_ty_tuple_tup, k_ty_str_tup, k_ty_list_tup, k_non_lst, k_ty_int_lst, k_ty_bool_lst, k_ty_tuple_lst, k_ty_str_lst, k_ty_list_lst, k_non_emp, k_ty_int_emp, k_ty_bool_emp, k_ty_tuple_emp, k_ty_str_emp, k_ty_list_emp, k_seq_non, k_seq_bl, k_seq_int, k_seq_str, k_seq_tup, k_seq_lst, k_seq_emp, k_sz0, k_sz1, k_sz2, k_sz3, k_sz4, k_sz5, k_sz6, k_sz7, k_sz8, k_sz9, k_sz10, k_sz11, k_sz12, k_sz13, k_sz14, k_sz15, k_sz16, k_sz17, k_sz18, k_sz19, k_sz20, k_sz21, k_sz22, k_sz23, k_at0, k_at1, k_at2, k_at3, k_iteT, k_iteF, k_bt1, k_bt2, k_sa0, k_sa1, k_endn, k_endr, List.getElem?_cons_succ, List.getElem?_cons_zero, List.set_cons_succ, List.set_cons_zero, List.length_cons, List.length_nil, List.length_map, List.all_cons, List.all_nil, Nat.reduceAdd, Nat.zero_add, Bool.and_true, Bool.and_self, Option.some.injEq, Dt.int.injEq, Dt.bl.injEq, Dt.str.injEq, Dt.tup.injEq, Dt.lst.injEq, Sv.dat.injEq, Sv.own.injEq, exists_eq_left', exists_eq_left, exists_eq_right, exists_eq', exists_eq, if_true, if_false, Bool.not_false, Bool.not_true, Bool.not_not, true_and, and_true, false_and, and_false, exists_const, reduceCtorEq])
open Kp (Gr Ok Row PRow Least Best Mean Found en co wt wt1 HInv Fix addR bigR allE room Ring Inside)
theorem Bz.mono {a b : Nat} {i : Int} (h : Bz a i) (hab : a ≤ b) : Bz b i := Nat.lt_of_lt_of_le h (Nat.pow_le_pow_right (by decide) hab)
end Ck
namespace Ck
open PySem PySem.Spec PyProof.Rows L2
local macro_rules | `(tactic| walk_at "ck") => `(tactic| try simp only [wW1, wWX, wNLen, wNSort, wNDictT, wWk, fTupX, wIndexN, wNNew, wNGet, wNIn, wNGetD, wNPut, wNDictL, wNDisp1, wiKeysN, wPopTo, strtD, nkG, nkP, Dt.opq.injEq, L2.V.ref.injEq, wNext, wBrk, wCnt, wSeq, wRet, wRetN, wSet, wOwn, wDrop, wUnp, wPar, wIfS, wApp, wExt, wSetIx, wAug, wFrz, wFor, wShp, wMx, wMN, wMD, wMO, setMx, k_var, k_vk1, k_vk2, k_par, wC, wL, wOp, wOpL, wF, wFL, wNil, wCons, wTup, wLst, wTV, wTAnd, wTOr, wTNot, wAnd, wOr, wNot, wIfx, wIsN, wNotN, wChain, wO0, wO1, wSl, wCall, wIsi, wLr1, wLr2, wNeg, wLc, wYes, wiSeq, wiR1, wiR2, wiEnum, wiZip, wiZipM, noOwnB, wipeD, wEmp, wListZip, wSortSet, wRevL, wRevT, wOneB, wParOD, wParDO, wParOO, wIndex, wNever, wUnp2, k_s20, k_s21, Option.bind_some, Option.map_some, wDNew, wDPut, wDGet, wDGetD, wDIn, wFrzD, wiKeys, Sv.dic.injEq, keysD, keyD, k_mulT, k_add1, k_add2, k_add3, k_add4, k_addL, k_sub, k_mul1, k_mul2, k_mulL, k_div, k_mod, k_pow, k_cmp, k_eq, k_ne, k_ea1, k_ea2, k_ea3, k_ea4, k_in1, k_in2, k_in3, k_in4, k_ix1, k_ix2, k_ix3, k_sl1, k_sl2, k_len1, k_len2, k_len3, k_int1, k_int2, k_abs, k_tuple1, k_tuple2, k_list1, k_list2, k_min2, k_max2, k_non_non, k_ty_int_non, k_ty_bool_non, k_ty_tuple_non, k_ty_str_non, k_ty_list_non, k_non_bl, k_ty_int_bl, k_ty_bool_bl, k_ty_tuple_bl, k_ty_str_bl, k_ty_list_bl, k_non_int, k_ty_int_int, k_ty_bool_int, k_ty_tuple_int, k_ty_str_int, k_ty_list_int, k_non_str, k_ty_int_str, k_ty_bool_str, k_ty_tuple_str, k_ty_str_str, k_ty_list_str, k_non_tup, k_ty_int_tup, k_ty_bool_tup, k_ty_tuple_tup, k_ty_str_tup, k_ty_list_tup, k_non_lst, k_ty_int_lst, k_ty_bool_lst, k_ty_tuple_lst, k_ty_str_lst, k_ty_list_lst, k_non_emp, k_ty_int_emp, k_ty_bool_emp, k_ty_tuple_emp, k_ty_str_emp, k_ty_list_emp, k_seq_non, k_seq_bl, k_seq_int, k_seq_str, k_seq_tup, k_seq_lst, k_seq_emp, k_sz0, k_sz1, k_sz2, k_sz3, k_sz4, k_sz5, k_sz6, k_sz7, k_sz8, k_sz9, k_sz10, k_sz11, k_sz12, k_sz13, k_sz14, k_sz15, k_sz16, k_sz17, k_sz18, k_sz19, k_sz20, k_sz21, k_sz22, k_sz23, k_at0, k_at1, k_at2, k_at3, k_iteT, k_iteF, k_bt1, k_bt2, k_sa0, k_sa1, k_endn, k_endr, List.getElem?_cons_succ, List.getElem?_cons_zero, List.set_cons_succ, List.set_cons_zero, List.length_cons, List.length_nil, List.length_map, List.all_cons, List.all_nil, Nat.reduceAdd, Nat.zero_add, Bool.and_true, Bool.and_self, Option.some.injEq, Dt.int.injEq, Dt.bl.injEq, Dt.str.injEq, Dt.tup.injEq, Dt.lst.injEq, Sv.dat.injEq, Sv.own.injEq, exists_eq_left', exists_eq_left, exists_eq_right, exists_eq', exists_eq, if_true, if_false, Bool.not_false, Bool.not_true, Bool.not_not, true_and, and_true, false_and, and_false, exists_const, reduceCtorEq])
open Kp (Gr Ok Row PRow Least Best Mean Found en co wt wt1 HInv Fix addR bigR allE room Ring Inside)
/-! ### what is told passes -/
theorem RndIs.len {k : Keeper} (ko : KeeperOk k) {W : List Std} (wf : WebF k W) {p q : Int} {h : Std → Int} {P : Std → List Nat} (o : OpenOk k W p q h P) {t : Std} {z : List Nat} (r : RndIs k W P t z) : z.length ≤ 256 := by
  obtain ⟨n, i, h1, h2, h3, rfl, rfl⟩ := r
  obtain ⟨_, hs, hn⟩ := o.min
  have h4 := nodup_le h2 fun t ht => by
    obtain ⟨j, _, rfl⟩ := List.mem_map.mp ht
    exact mem_allSt ko (wf.good _ (o.its wf hs hn j).1)
  have h5 := len_allSt ko
  rw [List.length_map, List.length_range] at h4 ⊢
  omega
theorem low_bnd {p q c x y : Int} (hq : 1 ≤ q) (h : c * q - p + y ≤ x) : bndB (p, q) (lowF x q) (lowF y q) c = true := by
  obtain ⟨e1, b1, _⟩ := low_factsZ (a := x) hq
  obtain ⟨e2, b2, _⟩ := low_factsZ (a := y) hq
  generalize lowF x q = r at *
  generalize lowF y q = s at *
  unfold bndB
  rw [decide_eq_true_eq]
  have k1 : 0 ≤ r.2 * s.2 := Int.mul_nonneg (by omega) (by omega)
  have k2 : (c * q - p + y) * (r.2 * s.2) ≤ x * (r.2 * s.2) := Int.mul_le_mul_of_nonneg_right h k1
  have f1 : c * q * r.2 * s.2 + s.1 * q * r.2 = (c * q - p + y) * (r.2 * s.2) + p * r.2 * s.2 := by
    rw [e2]
    grind
  have f2 : p * r.2 * s.2 + r.1 * q * s.2 = x * (r.2 * s.2) + p * r.2 * s.2 := by
    rw [e1]
    grind
  show c * q * r.2 * s.2 + s.1 * q * r.2 ≤ p * r.2 * s.2 + r.1 * q * s.2
  rw [f1, f2]
  omega
theorem low_size {x q : Int} (h0 : 0 ≤ x) (h1 : x < 2 ^ 45) (hq : 1 ≤ q) (hq2 : q ≤ 256) : (0 ≤ (lowF x q).1 ∧ (lowF x q).1 < 2 ^ 45) ∧ 1 ≤ (lowF x q).2 ∧ (lowF x q).2 ≤ 256 := by
  obtain ⟨_, ⟨a, b⟩, c, d⟩ := low_facts h0 hq
  omega
theorem shw_pair {m : Int × Int} (h1 : -(2 ^ 50) < m.1 ∧ m.1 < 2 ^ 50) (h2 : -(2 ^ 50) < m.2 ∧ m.2 < 2 ^ 50) : Shw 2 1 (pairD m) :=
  (shw_tup (shwL_cons (shw_int (by omega) (by omega)) (shwL_cons (shw_int (by omega) (by omega)) shwL_nil))).mono (by omega) (by omega)
theorem sm_pair {m : Int × Int} (h1 : -(2 ^ 50) < m.1 ∧ m.1 < 2 ^ 50) (h2 : -(2 ^ 50) < m.2 ∧ m.2 < 2 ^ 50) : smD (pairD m) := by
  simp only [pairD, smD, smL, and_true]
  exact ⟨h1, h2⟩
theorem sm_dSt {k : Keeper} (ko : KeeperOk k) {s : Std} (gs : GoodS k s) : smD (dSt s) := by
  have hw := ko.w
  have hp := ko.ps
  have hf0 := gs.f0
  have hf1 := gs.f1
  have hr := (gs.pls ko).1.runs
  simp only [dSt, dN, smD, smL, and_true]
  refine ⟨smL_all.mpr fun d hd => ?_, by omega, by omega⟩
  obtain ⟨r, hr2, rfl⟩ := List.mem_map.mp hd
  have := hr r hr2
  simp only [dS, smD, smL, and_true]
  omega
/-- a telling's data, weak -/
def worstW (W : List Std) (p q : Int) (h : Std → Int × Int) (t : Std) (z : List Nat) : Dt := .tup [pairD (p, q), rndD t z, .tup ((sortW W).map (hgD h))]
theorem nc_worst {k : Keeper} (ko : KeeperOk k) {W : List Std} (wf : WebF k W) {p q : Int} {h : Std → Int × Int} {t : Std} {z : List Nat} (hp : -(2 ^ 50) < p ∧ p < 2 ^ 50) (hq : -(2 ^ 50) < q ∧ q < 2 ^ 50) (ht : t ∈ W) (hz : z.length ≤ 600) (hzb : ∀ j ∈ z, j < 100)
    (hb : ∀ s ∈ W, (-(2 ^ 50) < (h s).1 ∧ (h s).1 < 2 ^ 50) ∧ -(2 ^ 50) < (h s).2 ∧ (h s).2 < 2 ^ 50) : Nc 200000 6 (worstW W p q h t z) := by
  have hwl := wf.len ko
  have hls : (sortW W).length = W.length := List.length_mergeSort _
  refine ⟨?_, ?_⟩
  · simp only [worstW, rndD, dNt, smD, smL, and_true]
    refine ⟨sm_pair hp hq, ⟨sm_dSt ko (wf.good t ht), smL_all.mpr fun d hd => ?_⟩, smL_all.mpr fun d hd => ?_⟩
    · obtain ⟨j, hj, rfl⟩ := List.mem_map.mp hd
      have := hzb j hj
      simp only [smD]
      omega
    · obtain ⟨s, hs, rfl⟩ := List.mem_map.mp hd
      have hsW := mem_sortW.mp hs
      have := hb s hsW
      simp only [hgD, smD, smL, and_true]
      exact ⟨sm_dSt ko (wf.good s hsW), sm_pair this.1 this.2⟩
  · have s1 : Shw 2 5 (pairD (p, q)) := (shw_pair hp hq).mono (by omega) (by omega)
    have s2 : ShwL (z.length * (0 + 1)) 0 (z.map fun (j : Nat) => Dt.int (j : Int)) := shwL_map fun j hj => by
      have := hzb j hj
      exact shw_int (by omega) (by omega)
    have s3 : Shw 600 3 (dNt z) := (shw_tup s2).mono (by omega) (by omega)
    have s4 : Shw 1002 5 (rndD t z) := (shw_tup (shwL_cons (shw_dSt ko (wf.good t ht)) (shwL_cons s3 shwL_nil))).mono (by omega) (by omega)
    have s5 : ShwL ((sortW W).length * (404 + 1)) 4 ((sortW W).map (hgD h)) := shwL_map fun s hs => by
      have hsW := mem_sortW.mp hs
      have := hb s hsW
      exact (shw_tup (shwL_cons (shw_dSt ko (wf.good s hsW)) (shwL_cons ((shw_pair this.1 this.2).mono (k' := 2) (n' := 3) (by omega) (by omega)) shwL_nil))).mono (by omega) (by omega)
    have s6 : Shw 103680 5 (.tup ((sortW W).map (hgD h))) := (shw_tup s5).mono (by omega) (by omega)
    exact (shw_tup (shwL_cons s1 (shwL_cons s4 (shwL_cons s6 shwL_nil)))).mono (by omega) (by omega)
structure ToldOk (k : Keeper) (W : List Std) (v : Dt) : Prop where
  nc : Nc 200000 6 (weakD v)
  ok : WorstP k W (weakD v)
  top : Top3 W v
theorem weak_worst {W : List Std} {p q : Int} {h : Std → Int × Int} {t : Std} {z : List Nat} (hn : Nc 200000 6 (worstW W p q h t z)) : weakD (.tup [pairD (p, q), rndD t z, .tpx ((sortW W).map (hgD h))]) = worstW W p q h t z := by
  have h1 := hn.tupI
  have e1 := (h1 (pairD (p, q)) (by simp)).wk
  have e2 := (h1 (rndD t z) (by simp)).wk
  have e3 := (h1 (.tup ((sortW W).map (hgD h))) (by simp)).wk
  simp only [weakD, weakL, e1, e2]
  have e4 : weakD (.tup ((sortW W).map (hgD h))) = .tup (weakL ((sortW W).map (hgD h))) := by simp only [weakD]
  rw [e4] at e3
  injection e3 with e3
  rw [e3]
  rfl
theorem WorstIs.told {k : Keeper} (ko : KeeperOk k) {W : List Std} (wf : WebF k W) {v : Dt} (w : WorstIs k W v) : ToldOk k W v := by
  obtain ⟨p, q, h, P, t, z, a, rfl⟩ := w
  have hw := ko.w
  have r := a.rd.ok wf a.op
  have hp0 := a.p0
  have hp1 := a.p1
  have hq0 := a.q0
  have hq1 := a.q1
  have hn : Nc 200000 6 (worstW W p q (fun s => lowF (h s) q) t z) := nc_worst ko wf (by omega) (by omega) r.st (by have := a.rd.len ko wf a.op; omega) (fun j hj => by have := List.mem_range.mp (r.pls j hj); omega) fun s hs => by
    have := low_size (a.hg.nn s hs) (a.hg.le s hs) hq0 hq1
    omega
  refine ⟨?_, ?_, fun l y h1 h2 h3 _ => ?_⟩
  · rw [show worstD W p q h t z = .tup [pairD (p, q), rndD t z, .tpx ((sortW W).map (hgD fun s => lowF (h s) q))] from rfl, weak_worst hn]
    exact hn
  · rw [show worstD W p q h t z = .tup [pairD (p, q), rndD t z, .tpx ((sortW W).map (hgD fun s => lowF (h s) q))] from rfl, weak_worst hn]
    refine ⟨p, q, _, _, rfl, ⟨hq0, a.lw⟩, ⟨t, z, rfl, r⟩, fun s => lowF (h s) q, ⟨rfl, fun s hs => ⟨(low_factsZ hq0).2.1, low_low hq0⟩⟩, fun s hs j hj => low_bnd hq0 (a.hg.fix s hs j hj)⟩
  · injection h1 with h1
    subst h1
    cases h3
    exact ⟨_, rfl⟩

end Ck
namespace Ck
open PySem PySem.Spec PyProof.Rows L2
local macro_rules | `(tactic| walk_at "ck") => `(tactic| try simp only [wPar3, setAll, wW1, wWX, wNLen, wNSort, wNDictT, wWk, fTupX, wIndexN, wNNew, wNGet, wNIn, wNGetD, wNPut, wNDictL, wNDisp1, wiKeysN, wPopTo, strtD, nkG, nkP, Dt.opq.injEq, L2.V.ref.injEq, wNext, wBrk, wCnt, wSeq, wRet, wRetN, wSet, wOwn, wDrop, wUnp, wPar, wIfS, wApp, wExt, wSetIx, wAug, wFrz, wFor, wShp, wMx, wMN, wMD, wMO, setMx, k_var, k_vk1, k_vk2, k_par, wC, wL, wOp, wOpL, wF, wFL, wNil, wCons, wTup, wLst, wTV, wTAnd, wTOr, wTNot, wAnd, wOr, wNot, wIfx, wIsN, wNotN, wChain, wO0, wO1, wSl, wCall, wIsi, wLr1, wLr2, wNeg, wLc, wYes, wiSeq, wiR1, wiR2, wiEnum, wiZip, wiZipM, noOwnB, wipeD, wEmp, wListZip, wSortSet, wRevL, wRevT, wOneB, wParOD, wParDO, wParOO, wIndex, wNever, wUnp2, k_s20, k_s21, Option.bind_some, Option.map_some, wDNew, wDPut, wDGet, wDGetD, wDIn, wFrzD, wiKeys, Sv.dic.injEq, keysD, keyD, k_mulT, k_add1, k_add2, k_add3, k_add4, k_addL, k_sub, k_mul1, k_mul2, k_mulL, k_div, k_mod, k_pow, k_cmp, k_eq, k_ne, k_ea1, k_ea2, k_ea3, k_ea4, k_in1, k_in2, k_in3, k_in4, k_ix1, k_ix2, k_ix3, k_sl1, k_sl2, k_len1, k_len2, k_len3, k_int1, k_int2, k_abs, k_tuple1, k_tuple2, k_list1, k_list2, k_min2, k_max2, k_non_non, k_ty_int_non, k_ty_bool_non, k_ty_tuple_non, k_ty_str_non, k_ty_list_non, k_non_bl, k_ty_int_bl, k_ty_bool_bl, k_ty_tuple_bl, k_ty_str_bl, k_ty_list_bl, k_non_int, k_ty_int_int, k_ty_bool_int, k_ty_tuple_int, k_ty_str_int, k_ty_list_int, k_non_str, k_ty_int_str, k_ty_bool_str, k_ty_tuple_str, k_ty_str_str, k_ty_list_str, k_non_tup, k_ty_int_tup, k_ty_bool_tup, k_ty_tuple_tup, k_ty_str_tup, k_ty_list_tup, k_non_lst, k_ty_int_lst, k_ty_bool_lst, k_ty_tuple_lst, k_ty_str_lst, k_ty_list_lst, k_non_emp, k_ty_int_emp, k_ty_bool_emp, k_ty_tuple_emp, k_ty_str_emp, k_ty_list_emp, k_seq_non, k_seq_bl, k_seq_int, k_seq_str, k_seq_tup, k_seq_lst, k_seq_emp, k_sz0, k_sz1, k_sz2, k_sz3, k_sz4, k_sz5, k_sz6, k_sz7, k_sz8, k_sz9, k_sz10, k_sz11, k_sz12, k_sz13, k_sz14, k_sz15, k_sz16, k_sz17, k_sz18, k_sz19, k_sz20, k_sz21, k_sz22, k_sz23, k_at0, k_at1, k_at2, k_at3, k_iteT, k_iteF, k_bt1, k_bt2, k_sa0, k_sa1, k_endn, k_endr, List.getElem?_cons_succ, List.getElem?_cons_zero, List.set_cons_succ, List.set_cons_zero, List.length_cons, List.length_nil, List.length_map, List.all_cons, List.all_nil, Nat.reduceAdd, Nat.zero_add, Bool.and_true, Bool.and_self, Option.some.injEq, Dt.int.injEq, Dt.bl.injEq, Dt.str.injEq, Dt.tup.injEq, Dt.lst.injEq, Sv.dat.injEq, Sv.own.injEq, exists_eq_left', exists_eq_left, exists_eq_right, exists_eq', exists_eq, if_true, if_false, Bool.not_false, Bool.not_true, Bool.not_not, true_and, and_true, false_and, and_false, exists_const, reduceCtorEq])
open Kp (Gr Ok Row PRow Least Best Mean Found en co wt wt1 HInv Fix addR bigR allE room Ring Inside)
section
variable {Ω2 : Type} {u : Ω2}
theorem use_drawP {p : Addr} {k : Nat} {n : Int} {C : Dt → Dw × Ω2 → Prop} (h0 : 0 < n) (h1 : n < 2 ^ 60) (h2 : 1 ≤ k) (h : ∀ (i : Int) (m : Nat), 0 ≤ i → i < n → k ≤ m + 1 → C (.int i) (⟨p, m⟩, u)) : S_law_draw.left.run [.opq (.ref p), .int n] (⟨p, k⟩, u) C :=
  use_draw (C := fun d w' => C d (w', u)) h0 h1 h2 h
theorem use_drawSP {ι : Type} {args : ι → List Dt} {ok : ι → Prop} {cost : ι → Nat} {post : ι → Dt → Prop} {p : Addr} {k : Nat} {C : Dt → Dw × Ω2 → Prop} (i : ι) (h : ok i) (hk : cost i ≤ k) (hC : ∀ d m, post i d → k ≤ m + cost i → C d (⟨p, m⟩, u)) :
    (drawS args ok cost post).left.run (.opq (.ref p) :: args i) (⟨p, k⟩, u) C := use_drawS (C := fun d w' => C d (w', u)) i h hk hC
end
/-! ### rows of edits -/
def turnsW (k : Keeper) : Std → List Nat → Int
  | _, [] => 0
  | s, j :: r => turned k s j + turnsW k (nxt k s (pl j)) r
theorem turns_snoc {k : Keeper} {W : List Std} : ∀ (s : Std) (r : List Nat) (j : Nat), turnsW k s (r ++ [j]) = turnsW k s r + turned k (en (gK k W) s r) j
  | s, [], j => by
    show turned k s j + 0 = 0 + turned k s j
    omega
  | s, i :: r, j => by
    have h := turns_snoc (k := k) (W := W) (nxt k s (pl i)) r j
    show turned k s i + turnsW k (nxt k s (pl i)) (r ++ [j]) = turned k s i + turnsW k (nxt k s (pl i)) r + turned k (en (gK k W) (nxt k s (pl i)) r) j
    rw [h]
    omega
theorem mxL_ge {l : List Int} {x : Int} (h : x ∈ l) : x ≤ mxL l := by
  have key : ∀ (r : List Int) (a y : Int), (y = a ∨ y ∈ r) → y ≤ r.foldl max a := by
    intro r
    induction r with
    | nil =>
      intro a y hy
      rcases hy with rfl | hy
      · exact Int.le_refl _
      · cases hy
    | cons z r ih =>
      intro a y hy
      rw [List.foldl_cons]
      rcases hy with rfl | hy
      · exact Int.le_trans (by omega) (ih (max y z) (max y z) (.inl rfl))
      · rcases List.mem_cons.mp hy with rfl | hy
        · exact Int.le_trans (by omega) (ih (max a y) (max a y) (.inl rfl))
        · exact ih _ _ (.inr hy)
  cases l with
  | nil => cases h
  | cons a r => exact key r a x (List.mem_cons.mp h)
theorem turns_le {k : Keeper} : ∀ (r : List Nat) (s : Std), (∀ j ∈ r, j ∈ plcs k) → turnsW k s r ≤ bestF k r.length s
  | [], s, _ => Int.le_refl _
  | j :: r, s, h => by
    have ih := turns_le r (nxt k s (pl j)) fun i hi => h i (List.mem_cons_of_mem _ hi)
    have h1 : turned k s j + bestF k r.length (nxt k s (pl j)) ≤ bestF k (r.length + 1) s := mxL_ge (List.mem_map.mpr ⟨j, h j List.mem_cons_self, rfl⟩)
    show turned k s j + turnsW k (nxt k s (pl j)) r ≤ bestF k (r.length + 1) s
    omega
theorem low_row {p q c n x y : Int} (hq : 1 ≤ q) (h : c * q - p * n + y ≤ x) : (c * (lowF y q).2 + (lowF y q).1) * q * (lowF x q).2 ≤ (p * n * (lowF x q).2 + (lowF x q).1 * q) * (lowF y q).2 := by
  obtain ⟨e1, b1, _⟩ := low_factsZ (a := x) hq
  obtain ⟨e2, b2, _⟩ := low_factsZ (a := y) hq
  generalize lowF x q = r at *
  generalize lowF y q = s at *
  have k1 : 0 ≤ r.2 * s.2 := Int.mul_nonneg (by omega) (by omega)
  have k2 : (c * q - p * n + y) * (r.2 * s.2) ≤ x * (r.2 * s.2) := Int.mul_le_mul_of_nonneg_right h k1
  have f1 : (c * s.2 + s.1) * q * r.2 = (c * q - p * n + y) * (r.2 * s.2) + p * n * (r.2 * s.2) := by
    have : (c * s.2 + s.1) * q * r.2 = c * s.2 * q * r.2 + s.1 * q * r.2 := by grind
    rw [this, e2]
    grind
  have f2 : (p * n * r.2 + r.1 * q) * s.2 = x * (r.2 * s.2) + p * n * (r.2 * s.2) := by
    have : (p * n * r.2 + r.1 * q) * s.2 = p * n * r.2 * s.2 + r.1 * q * s.2 := by grind
    rw [this, e1]
    grind
  rw [f1, f2]
  omega
/-- dict(heights) -/
theorem dict_hg {k : Keeper} (ko : KeeperOk k) {W : List Std} (wf : WebF k W) {h : Std → Int × Int} : pairsD ((sortW W).map (hgD h)) = some (prE (sortW W) h) ∧ mergeN [] (prE (sortW W) h) = prE (sortW W) h ∧ ∀ s ∈ W, valN (prE (sortW W) h) (dSt s) = some (.tup [.int (h s).1, .int (h s).2]) := by
  have nds : (sortW W).Nodup := ((List.mergeSort_perm W fun a b => !PySem.W.dataLt (qSt b) (qSt a)).nodup_iff).mpr wf.nd
  have gS : ∀ s ∈ sortW W, GoodS k s := fun s hs => wf.good s (mem_sortW.mp hs)
  exact ⟨pairs_pr, merge_pr ko (h := h) (U := []) (W := sortW W) (by rw [List.nil_append]; exact nds) (by rw [List.nil_append]; exact gS), fun s hs => prE_in ko gS (wf.good s hs) (mem_sortW.mpr hs)⟩
theorem co_rep {k : Keeper} {W : List Std} {t : Std} {z : List Nat} (h : en (gK k W) t z = t) : ∀ m : Nat, co (gK k W) t (List.replicate m z).flatten = m * co (gK k W) t z
  | 0 => by
    show (0 : Int) = (0 : Nat) * _
    simp
  | m + 1 => by
    rw [List.replicate_succ, List.flatten_cons, Kp.co_app, h, co_rep h m]
    push_cast
    grind
-- N ['_law_script', '_law_deck_here', '_law_turn', '_law_keeper_here', '_law_mean', '_law_start', '_law_places', '_law_heights', '_law_top', '_law_bottom', '_law_again', '_law_standing', '_law_costs', '_law_turns', '_law_length', '_law_k', '_law_later', '_law_cost', '_law_far', '_law_place'] own set()
abbrev p_lawmain : DS NkT :=
  (wSeq (wFor (.one 2) (wiR1 (wC (.int 3))) (wSeq (wSet 3 (wCall S_law_keeper.left (wCons (wVar 1) wNil)))
  (wSeq (wUnp2 [.one 4, .many [5, 6], .one 7] (wCall S_worst (wCons (wVar 3) wNil)))
  (wSeq (wUnp [8, 9] (wNGet nkG (wNDictT nkG nkP (wVar 7)) (wTup (wCons (wTup wNil) (wCons (wC (.int 0)) wNil)))))
  (wSeq (wFor (.one 10) (wiR1 (wC (.int 3))) (wSeq (wUnp [11, 12, 13, 14] (wTup (wCons (wTup (wCons (wTup wNil) (wCons (wC (.int 0)) wNil))) (wCons (wC (.int 0)) (wCons (wC (.int 0)) (wCons (wCall S_law_draw.left (wCons (wVar 1) (wCons (wC (.int 25)) wNil))) wNil))))))
  (wSeq (wFor (.one 15) (wiR1 (wVar 14)) (wSeq (wUnp [16, 17] (wCall S_step.left (wCons (wVar 3) (wCons (wVar 11) (wCons (wCall S_law_draw.left (wCons (wVar 1) (wCons (wOp fIx (wVar 3) (wC (.int 0))) wNil))) wNil)))))
  (wPar3 12 13 11 (wCons (wOp fAdd (wVar 12) (wVar 17)) (wCons (wOp fAdd (wVar 13) (wF fInt (wOp fNe (wOp fIx (wVar 16) (wC (.int 1))) (wOp fIx (wVar 11) (wC (.int 1)))))) (wCons (wVar 16) wNil))))))
  (wSeq (wSet 18 (wNGet nkG (wNDictT nkG nkP (wVar 7)) (wVar 11)))
  (wSeq (wIfS (wTV (wOp fGt (wOp fMul (wOp fMul (wOp fAdd (wOp fMul (wVar 12) (wOp fIx (wVar 18) (wC (.int 1)))) (wOp fIx (wVar 18) (wC (.int 0)))) (wOp fIx (wVar 4) (wC (.int 1)))) (wVar 9)) (wOp fMul (wOp fAdd (wOp fMul (wOp fMul (wOp fIx (wVar 4) (wC (.int 0))) (wVar 14)) (wVar 9)) (wOp fMul (wVar 8) (wOp fIx (wVar 4) (wC (.int 1))))) (wOp fIx (wVar 18) (wC (.int 1)))))) (wRet (wC (.bl false))) wNext)
  (wIfS (wTV (wOp fGt (wVar 13) (wCall S_most_changes (wCons (wVar 3) (wCons (wVar 14) wNil))))) (wRet (wC (.bl false))) wNext))))))
  (wSeq (wPar 11 12 (wCons (wVar 5) (wCons (wC (.int 0)) wNil)))
  (wSeq (wFor (.one 19) (wiSeq (wOp fMulT (wVar 6) (wC (.int 3)))) (wSeq (wUnp [11, 17] (wCall S_step.left (wCons (wVar 3) (wCons (wVar 11) (wCons (wVar 19) wNil)))))
  (wSet 12 (wOp fAdd (wVar 12) (wVar 17)))))
  (wIfS (wTOr (wTV (wOp fNe (wVar 11) (wVar 5))) (wTV (wOp fNe (wOp fMul (wVar 12) (wOp fIx (wVar 4) (wC (.int 1)))) (wOp fMul (wOp fMul (wOp fIx (wVar 4) (wC (.int 0))) (wF fLen (wVar 6))) (wC (.int 3)))))) (wRet (wC (.bl false))) wNext))))))))
  (wRet (wC (.bl true))))
theorem m_lawmain : ∀ a q, p_lawmain (endD fun d _ => d = .bl true) (lawSl 20 a q) (⟨q, allD⟩, fun _ => none) := by
  intro a q
  show p_lawmain _ [some (.dat (.opq (.ref a))), some (.dat (.opq (.ref q))), none, none, none, none, none, none, none, none, none, none, none, none, none, none, none, none, none, none] _
  unfold p_lawmain
  walk_at "ck"
  refine And.intro (by decide) (And.intro (by decide) ?_)
  rw [rngD_eq]
  refine loop_W0 (rngN 0) (fun i sl w => ∃ x2 x3 x4 x5 x6 x7 x8 x9 x10 x11 x12 x13 x14 x15 x16 x17 x18 x19 nn m', sl = [some (.dat (.opq (.ref a))), some (.dat (.opq (.ref q))), x2, x3, x4, x5, x6, x7, x8, x9, x10, x11, x12, x13, x14, x15, x16, x17, x18, x19] ∧ w = (⟨q, nn⟩, m') ∧ allD ≤ nn + i * 1000) _ ?_ ?_ ?_
  · rintro i y sl w hy ⟨x2, x3, x4, x5, x6, x7, x8, x9, x10, x11, x12, x13, x14, x15, x16, x17, x18, x19, nn, m', rfl, rfl, hn⟩
    have hi : i < 3 := by
      have := (List.getElem?_eq_some_iff.mp hy).1
      rwa [List.length_range] at this
    have eA : allD = 1099511627776 := rfl
    refine ⟨_, rfl, fun N hN => ?_⟩
    walk_at "ck"
    refine use_drawSP () trivial (by show 300 ≤ nn; omega) fun d n3 ⟨k, hd, ko, hw4, hps, hts⟩ e3 => ?_
    subst hd
    replace e3 : nn ≤ n3 + 300 := e3
    obtain ⟨W, wf⟩ := web_there ko
    walk_at "ck"
    refine ⟨k, W, rfl, ⟨ko, wf⟩, fun v m1 hv g1 => ?_⟩
    obtain ⟨p, qq, h, P, t, z, A, rfl⟩ := hv
    rw [show worstD W p qq h t z = .tup [.tup [.int p, .int qq], .tup [dSt t, dNt z], .tpx ((sortW W).map (hgD fun s => lowF (h s) qq))] from rfl]
    walk_at "ck"
    obtain ⟨dh1, dh2, dh3⟩ := dict_hg ko wf (h := fun s => lowF (h s) qq)
    refine ⟨_, _, rfl, dh1, fun c hc => ?_⟩
    rw [dh2]
    refine ⟨_, _, _, updN_same, keyN_some st0, dh3 st0 wf.st, _, rfl, by decide, by decide, ?_⟩
    rw [rngD_eq]
    have ok := gK_ok ko wf
    have szq : Bz 50 qq := Bz.of (by have := A.q0; omega) (by have := A.q1; omega)
    have szp : Bz 50 p := Bz.of (by have := A.p0; omega) (by have := A.p1; omega)
    have szl : ∀ s ∈ W, Bz 50 (lowF (h s) qq).1 ∧ Bz 50 (lowF (h s) qq).2 := fun s hs => by
      have := low_size (A.hg.nn s hs) (A.hg.le s hs) A.q0 A.q1
      exact ⟨Bz.of (by omega) (by omega), Bz.of (by omega) (by omega)⟩
    refine loop_W0 (rngN 0) (fun i2 sl w => ∃ x10 x11 x12 x13 x14 x15 x16 x17 x18 x19 n4 m', sl = [some (.dat (.opq (.ref a))), some (.dat (.opq (.ref q))), some (.dat (rngN 0 y)), some (.dat (dK k)), some (.dat (.tup [.int p, .int qq])), some (.dat (dSt t)), some (.dat (dNt z)), some (.dat (.tpx ((sortW W).map (hgD fun s => lowF (h s) qq)))), some (.dat (.int (lowF (h st0) qq).1)), some (.dat (.int (lowF (h st0) qq).2)), x10, x11, x12, x13, x14, x15, x16, x17, x18, x19] ∧ w = (⟨q, n4⟩, m') ∧ n3 ≤ n4 + i2 * 100) _ ?_ ?_ ?_
    · rintro i2 y2 sl w hy2 ⟨x10, x11, x12, x13, x14, x15, x16, x17, x18, x19, n4, m2, rfl, rfl, hn4⟩
      have hi2 : i2 < 3 := by
        have := (List.getElem?_eq_some_iff.mp hy2).1
        rwa [List.length_range] at this
      refine ⟨_, rfl, fun N2 hN2 => ?_⟩
      walk_at "ck"
      refine use_drawP (by decide) (by decide) (by omega) fun l n5 l0 l1 e5 => ?_
      walk_at "ck"
      refine ⟨by omega, by omega, ?_⟩
      rw [rngD_eq]
      refine loop_W0 (rngN 0) (fun i3 sl w => ∃ x15 x16 x17 n6 r, sl = [some (.dat (.opq (.ref a))), some (.dat (.opq (.ref q))), some (.dat (rngN 0 y)), some (.dat (dK k)), some (.dat (.tup [.int p, .int qq])), some (.dat (dSt t)), some (.dat (dNt z)), some (.dat (.tpx ((sortW W).map (hgD fun s => lowF (h s) qq)))), some (.dat (.int (lowF (h st0) qq).1)), some (.dat (.int (lowF (h st0) qq).2)), some (.dat (rngN 0 y2)), some (.dat (dSt (en (gK k W) st0 r))), some (.dat (.int (co (gK k W) st0 r))), some (.dat (.int (turnsW k st0 r))), some (.dat (.int l)), x15, x16, x17, x18, x19] ∧ w = (⟨q, n6⟩, m2) ∧ n5 ≤ n6 + i3 ∧ r.length = i3 ∧ ∀ j ∈ r, j ∈ plcs k) _ ?_ ?_ ?_
      · rintro i3 y3 sl w hy3 ⟨x15, x16, x17, n6, r, rfl, rfl, e6, hrl, hr⟩
        have hi3 : i3 < l.toNat := by
          have := (List.getElem?_eq_some_iff.mp hy3).1
          rwa [List.length_range] at this
        have hsW := ok.enW ok.st hr
        have gs := wf.good _ hsW
        have eK : dK k = .tup [.int k.w, .tup (k.ps.map d3), .tup (k.ts.map dT)] := rfl
        have hw := ko.w
        refine ⟨_, rfl, fun N3 hN3 => ?_⟩
        rw [eK]
        walk_at "ck"
        refine use_drawP (by omega) (by omega) (by omega) fun x n7 x0 x1 e7 => ?_
        obtain ⟨j, rfl⟩ := Int.eq_ofNat_of_zero_le x0
        have hjP : j ∈ plcs k := List.mem_range.mpr (by omega)
        refine use_pureP (k, (en (gK k W) st0 r).1, (en (gK k W) st0 r).2, (j : Int)) (by have := stepOk ko gs hjP; unfold pl at this; rwa [Int.zero_add] at this) ?_
        have est : stepD k (en (gK k W) st0 r).1 (en (gK k W) st0 r).2 (j : Int) = .tup [.tup [.tup ((runsC (togA (en (gK k W) st0 r).1 (pl j))).map dS), .int (nextF k (en (gK k W) st0 r).1 (en (gK k W) st0 r).2 (pl j))], .int (costS k (en (gK k W) st0 r) (pl j))] := by
          unfold pl
          rw [Int.zero_add]
          rfl
        have es : dSt (en (gK k W) st0 r) = .tup [.tup ((runsC (en (gK k W) st0 r).1).map dS), .int (en (gK k W) st0 r).2] := rfl
        dsimp only
        rw [est, es]
        walk_at "ck"
        have et : (if (!decide (nextF k (en (gK k W) st0 r).1 (en (gK k W) st0 r).2 (pl j) = (en (gK k W) st0 r).2)) = true then (1 : Int) else 0) = turned k (en (gK k W) st0 r) j := by
          unfold turned
          by_cases z : nextF k (en (gK k W) st0 r).1 (en (gK k W) st0 r).2 (pl j) = (en (gK k W) st0 r).2
          · rw [if_neg (by simp [z]), if_neg (by simp [z])]
          · rw [if_pos (by simp [z]), if_pos z]
        rw [et]
        refine ⟨_, _, _, rfl, hN3 _ _ ⟨some (.dat (rngN 0 y3)), some (.dat (dSt (nxt k (en (gK k W) st0 r) (pl j)))), some (.dat (.int (costS k (en (gK k W) st0 r) (pl j)))), n7, r ++ [j], ?_, rfl, by omega, by rw [List.length_append, hrl]; rfl, fun i hi => ?_⟩⟩
        · rw [Kp.en_app, co_snoc, turns_snoc (W := W)]
          rfl
        · rcases List.mem_append.mp hi with hi | hi
          · exact hr i hi
          · rw [List.mem_singleton.mp hi]
            exact hjP
      · exact ⟨x15, x16, x17, n5, [], rfl, rfl, by omega, rfl, fun j hj => nomatch hj⟩
      · rintro sl w ⟨x15, x16, x17, n6, r, rfl, rfl, e6, hrl, hr⟩
        rw [List.length_range] at e6 hrl
        have hsW := ok.enW ok.st hr
        have hl : (r.length : Int) = l := by omega
        have cb := co_bd ko wf wf.st hr
        have fw := A.hg.fix.walk ok ok.st hr
        obtain ⟨z1, z2⟩ := szl st0 wf.st
        obtain ⟨w1, w2⟩ := szl _ hsW
        have szc : Bz 50 (co (gK k W) st0 r) := Bz.of (by omega) (by omega)
        have szL : Bz 50 l := Bz.of (by omega) (by omega)
        walk_at "ck"
        refine ⟨_, _, rfl, dh1, fun c2 hc2 => ?_⟩
        rw [dh2]
        refine ⟨_, _, _, updN_same, keyN_some _, dh3 _ hsW, ?_⟩
        walk_at "ck"
        have b1 := (szc.mul w2).add (w1.mono (b := 50 + 50) (by decide))
        have b2 := ((szp.mul szL).mul z2).add ((z1.mul szq).mono (b := 50 + 50 + 50) (by decide))
        refine ⟨szc.ok w2 (by decide), b1.ok szq (by decide), (b1.mul szq).ok z2 (by decide), szp.ok szL (by decide), (szp.mul szL).ok z2 (by decide), z1.ok szq (by decide), b2.ok w2 (by decide), ?_⟩
        have low := low_row (p := p) (c := co (gK k W) st0 r) (n := l) (x := h st0) (y := h (en (gK k W) st0 r)) A.q0 (by
          unfold Kp.wt at fw
          rw [← hl]
          exact fw)
        refine ite2 (fun hd => ?_) fun _ => ?_
        · have hd := of_decide_eq_true hd
          omega
        · refine ⟨k, W, l, rfl, ⟨ko, wf, l0, by omega⟩, fun m3 g3 => ?_⟩
          have ht := turns_le r st0 hr
          rw [hrl] at ht
          walk_at "ck"
          refine ite2 (fun hd => ?_) fun _ => ?_
          · have hd := of_decide_eq_true hd
            omega
          · exact hN2 _ _ ⟨_, _, _, _, _, _, _, _, _, _, n6, m3, rfl, rfl, by rw [Nat.add_mul]; omega⟩
    · exact ⟨_, _, _, _, _, _, _, _, _, _, n3, _, rfl, rfl, by omega⟩
    · rintro sl w ⟨x10, x11, x12, x13, x14, x15, x16, x17, x18, x19, n4, m2, rfl, rfl, hn4⟩
      rw [List.length_range] at hn4
      have rd := A.rd.ok wf A.op
      have zl := A.rd.len ko wf A.op
      walk_at "ck"
      unfold dNt
      show 2 ≤ (3 : Int) ∧ (3 : Int) ≤ 1000 ∧ _ ≤ 1000 ∧ _
      refine ⟨by decide, by decide, by rw [List.length_map]; omega, ?_⟩
      have ez : (List.replicate (Int.toNat 3) (z.map fun (j : Nat) => Dt.int (j : Int))).flatten = ((List.replicate 3 z).flatten).map fun (j : Nat) => Dt.int (j : Int) := by
        rw [List.map_flatten, List.map_replicate]
        rfl
      rw [ez]
      have h3 : ∀ j ∈ (List.replicate 3 z).flatten, j ∈ plcs k := Kp.rep_wd (g := gK k W) rd.pls 3
      have l3 : ((List.replicate 3 z).flatten).length = 3 * z.length := Kp.rep_len z 3
      refine ⟨_, rfl, ?_⟩
      refine loop_W0 (fun (j : Nat) => Dt.int (j : Int)) (fun i5 sl w => ∃ x17 x19, sl = [some (.dat (.opq (.ref a))), some (.dat (.opq (.ref q))), some (.dat (rngN 0 y)), some (.dat (dK k)), some (.dat (.tup [.int p, .int qq])), some (.dat (dSt t)), some (.dat (dNt z)), some (.dat (.tpx ((sortW W).map (hgD fun s => lowF (h s) qq)))), some (.dat (.int (lowF (h st0) qq).1)), some (.dat (.int (lowF (h st0) qq).2)), x10, some (.dat (dSt (en (gK k W) t (((List.replicate 3 z).flatten).take i5)))), some (.dat (.int (co (gK k W) t (((List.replicate 3 z).flatten).take i5)))), x13, x14, x15, x16, x17, x18, x19] ∧ w = (⟨q, n4⟩, m2)) ((List.replicate 3 z).flatten) ?_ ?_ ?_
      · rintro i5 j sl w hj ⟨x17, x19, rfl, rfl⟩
        have hjP := h3 j (List.mem_of_getElem? hj)
        have hr : ∀ j ∈ ((List.replicate 3 z).flatten).take i5, j ∈ plcs k := fun i hi => h3 i (List.mem_of_mem_take hi)
        have hsW := ok.enW rd.st hr
        have gs := wf.good _ hsW
        refine ⟨_, rfl, fun N3 hN3 => ?_⟩
        walk_at "ck"
        refine use_pureP (k, (en (gK k W) t (((List.replicate 3 z).flatten).take i5)).1, (en (gK k W) t (((List.replicate 3 z).flatten).take i5)).2, (j : Int)) (by have := stepOk ko gs hjP; unfold pl at this; rwa [Int.zero_add] at this) ?_
        have est : stepD k (en (gK k W) t (((List.replicate 3 z).flatten).take i5)).1 (en (gK k W) t (((List.replicate 3 z).flatten).take i5)).2 (j : Int) = .tup [dSt (nxt k (en (gK k W) t (((List.replicate 3 z).flatten).take i5)) (pl j)), .int (costS k (en (gK k W) t (((List.replicate 3 z).flatten).take i5)) (pl j))] := by
          unfold pl
          rw [Int.zero_add]
          rfl
        dsimp only
        rw [est]
        walk_at "ck"
        refine hN3 _ _ ⟨some (.dat (.int (costS k (en (gK k W) t (((List.replicate 3 z).flatten).take i5)) (pl j)))), some (.dat (.int (j : Int))), ?_, rfl⟩
        rw [List.take_add_one, hj]
        show _ = _
        rw [show (some j).toList = [j] from rfl, Kp.en_app, co_snoc]
        rfl
      · exact ⟨x17, x19, rfl, rfl⟩
      · rintro sl w ⟨x17, x19, rfl, rfl⟩
        rw [List.take_length, Kp.rep_en (g := gK k W) rd.en, co_rep rd.en]
        have cb := co_bd ko wf rd.st rd.pls
        walk_at "ck"
        refine eqSt ko (wf.good t rd.st) (wf.good t rd.st) ?_
        rw [decide_eq_true rfl]
        refine ite2 (fun z => nomatch z) fun _ => ?_
        have szc : Bz 50 ((3 : Nat) * co (gK k W) t z) := Bz.of (by omega) (by omega)
        have szL : Bz 50 (z.length : Int) := Bz.of (by omega) (by omega)
        have e9 : ((3 : Nat) * co (gK k W) t z) * qq = p * (z.length : Int) * 3 := by
          rw [Int.mul_assoc, rd.co]
          grind
        rw [show dNt z = .tup (z.map fun (j : Nat) => Dt.int (j : Int)) from rfl]
        walk_at "ck"
        refine ⟨szc.ok szq (by decide), szp.ok szL (by decide), (szp.mul szL).ok (b := 50) (Bz.of (by decide) (by decide)) (by decide), ?_⟩
        refine ite2 (fun hd => ?_) fun _ => ?_
        · rw [e9] at hd
          simp at hd
        · exact hN _ _ ⟨_, _, _, _, _, _, _, _, _, _, _, _, _, _, _, _, _, _, n4, m2, rfl, rfl, by rw [Nat.add_mul]; omega⟩
  · exact ⟨_, _, _, _, _, _, _, _, _, _, _, _, _, _, _, _, _, _, allD, _, rfl, rfl, by omega⟩
  · rintro sl w ⟨x2, x3, x4, x5, x6, x7, x8, x9, x10, x11, x12, x13, x14, x15, x16, x17, x18, x19, nn, m', rfl, rfl, hn⟩
    walk_at "ck"

end Ck
namespace Ck
open PySem PySem.Spec PyProof.Rows L2
def topS (i : Nat) : Stmt := PySem.Challenge.pw_chunkforms_k27_whole_rows_of_edits.main.body.getD i (.Pass ⟨0, 0, 0, 0⟩)
abbrev t_law_draw : Stmt := topS 26
theorem c_law_draw : FnScope ["_law_deck_here", "_law_below", "_law_cells", "_law_turn", "_law_rests", "_law_at", "_law_digit", "_law_mixed", "_law_again"] ["_law_deck_here", "_law_below"] (defScope t_law_draw) := ⟨rfl, rfl, rfl, by decide +kernel, rfl, by decide +kernel, by decide +kernel⟩
section
variable {P : Program} {w : World} {K : PySem.W.Frag} {mg : Str → Option Value} {base : Heap}
theorem pow3_lt {i : Int} (h0 : 0 ≤ i) (h : i < 2 ^ 60) : CPow i 3 := ⟨by decide, by decide, by omega⟩
theorem ok_law_draw {f : Addr} {fd : FuncData} (F : L2.Fun K "_law_draw" "_law_draw" t_law_draw f fd) (mi : mg "int" = none) (ml : mg "len" = none) : FnG P w K mg base CX0 1 f fd ["_law_deck_here", "_law_below"] (spOf K DeckW sDraw) := by
  refine FnG.ofOk (F.ok c_law_draw (fun vs H Q E h => ?_) fun cdv A outer s H vs Q E hr h => ?_)
  · obtain ⟨B, F', G, w', ds, h1, h2, n, rfl, _⟩ := h
    exact h2.len
  · obtain ⟨B, F', G, ⟨p, nn⟩, ds, hh, hd, n, rfl, hn0, hn1, hn2, q⟩ := h
    obtain ⟨c, r, cells, rests, t, D, ht0, ht1⟩ := hh.w
    have D : DeckAt G p c r cells rests t := D
    have ht1 : t + (nn : Int) ≤ 2 ^ 40 := ht1
    have hn2 : 1 ≤ nn := hn2
    cases hd with
    | cons d1 hd =>
      cases hd with
      | cons d2 hd =>
        cases hd
        cases d1
        cases d2
        refine ⟨_, pss_cons (ps_asg (pv 0) (pg_unl rfl (pgs_cons (pg_name (i := 2) c_law_draw.nd rfl (.inl rfl)) (pgs_cons (pg_name (i := 3) c_law_draw.nd rfl (.inl rfl)) (pgs_cons (pg_name (i := 4) c_law_draw.nd rfl (.inl rfl)) pgs_nil)))))
          (pss_cons (ps_set (i := 5) c_law_draw.nd rfl (.inl rfl) (pe_op op_mod (pe_callTy call_int1 (by rfl) mi PySem.Pv.boot_int (pa_cons (pv 3) pa_nil)) (pe_callB call_len_seq (by rfl) ml PySem.boot_len (pa_cons (pv 2) pa_nil))))
          (pss_cons (ps_asg (pe_op op_add (pv 3) pe_int) (pg_sub (pv 0) pe_int set_list))
          (pss_cons (ps_if (pt_cmpR op_gt (pe_ix ix_list (pv 4) (pv 5) (fun _ _ => rfl)) pe_int (nomark _))
            (pss_cons (ps_set (i := 6) c_law_draw.nd rfl (.inl rfl) (pe_op op_mod (pe_callTy call_int1 (by rfl) mi PySem.Pv.boot_int (pa_cons (pe_ix ix_list (pv 4) (pv 5) (fun _ _ => rfl)) pa_nil)) (pv 1)))
            (pss_cons (ps_asg (pe_op op_fdivW (pe_ix ix_list (pv 4) (pv 5) (fun _ _ => rfl)) (pv 1)) (pg_sub (pv 4) (pv 5) set_list))
            (pss_one (ps_ret (pv 6))))) pss_nil)
          (pss_cons (ps_set (i := 7) c_law_draw.nd rfl (.inl rfl) (pe_op op_mod (pe_op op_pow (pe_op op_add (pe_op op_add (pe_op op_mod (pe_callTy call_int1 (by rfl) mi PySem.Pv.boot_int (pa_cons (pe_ix ix_list (pv 2) (pv 5) (fun _ _ => rfl)) pa_nil)) pe_int) (pe_op op_mul pe_int (pv 3))) pe_int) pe_int) pe_int))
          (pss_cons (ps_set (i := 8) c_law_draw.nd rfl (.inl rfl) (pe_op op_mod (pe_op op_pow (pe_op op_add (pe_op op_add (pv 7) (pe_op op_mul pe_int (pv 3))) pe_int) pe_int) pe_int))
          (pss_one (ps_ret (pe_op op_mod (pe_op op_mod (pe_callTy call_int1 (by rfl) mi PySem.Pv.boot_int (pa_cons (pe_op op_add (pe_op op_mul (pv 8) pe_int) (pv 7)) pa_nil)) pe_int) (pv 1))))))))), ?_⟩
        have hp : H p = some (.lst [.ref c, .int t, .ref r]) := hh.g _ _ D.hp
        have hcl : 0 < ((cells.map V.int).length : Int) := by
          rw [List.length_map]
          have := D.pos
          omega
        obtain ⟨j, hj, hjl⟩ : ∃ j : Nat, t % ((cells.map V.int).length : Int) = (j : Int) ∧ j < cells.length := by
          have h1 := Int.emod_nonneg t (Int.ne_of_gt hcl)
          have h2 := Int.emod_lt_of_pos t hcl
          rw [List.length_map] at h2 h1 ⊢
          exact ⟨(t % (cells.length : Int)).toNat, by omega, by omega⟩
        -- the deck's names
        refine ⟨.ref p, rfl, p, [.ref c, .int t, .ref r], rfl, .of hp, rfl, .ref c, _, rfl, .int t, _, rfl, .ref r, [], rfl, rfl, ?_⟩
        -- the cell's place
        refine ⟨.int t, rfl, .inl ⟨t, rfl, .ref c, rfl, c, _, rfl, .inl (.of (hh.g _ _ D.hc)), t, _, rfl, rfl, hcl, ?_⟩⟩
        simp only [hj]
        -- one draw more
        refine ⟨.int t, rfl, t, 1, rfl, rfl, .ref p, rfl, p, _, 1, 1, rfl, rfl, hp, rfl, ?_⟩
        have hh1 : HR Wd.all B F' (upd G p (.lst [.ref c, .int (t + 1), .ref r])) (upd H p (.lst [.ref c, .int (t + 1), .ref r])) () := hh.setG D.hp (fun z => nomatch z) trivial trivial
        have hr1 : (upd H p (.lst [.ref c, .int (t + 1), .ref r])) r = some (.lst (rests.map V.int)) := by
          rw [upd_ne D.pr.symm]
          exact hh.g _ _ D.hr
        have hc1 : (upd H p (.lst [.ref c, .int (t + 1), .ref r])) c = some (.lst (cells.map V.int)) := by
          rw [upd_ne D.pc.symm]
          exact hh.g _ _ D.hc
        have hjr : j < rests.length := by
          rw [D.len]
          exact hjl
        have atr : atI (rests.map V.int) (j : Int) = some (.int rests[j]) := atI_nat (by rw [List.getElem?_map, List.getElem?_eq_getElem hjr]; rfl)
        have atc : atI (cells.map V.int) (j : Int) = some (.int cells[j]) := atI_nat (by rw [List.getElem?_map, List.getElem?_eq_getElem hjl]; rfl)
        refine ⟨.ref r, rfl, .int (j : Int), rfl, r, _, (j : Int), _, rfl, rfl, .of hr1, atr, rests[j], 0, rfl, rfl, _, rfl, ite2 (fun hpos => ?_) (fun hneg => ?_)⟩
        · -- a digit of the rest
          have hpos : 0 < rests[j] := of_decide_eq_true hpos
          refine ⟨.ref r, rfl, .int (j : Int), rfl, r, _, (j : Int), _, rfl, rfl, .of hr1, atr, .inl ⟨rests[j], rfl, .int n, rfl, rests[j], n, rfl, rfl, hn0, ?_⟩⟩
          refine ⟨.ref r, rfl, .int (j : Int), rfl, r, _, (j : Int), _, rfl, rfl, .of hr1, atr, .int n, rfl, rests[j], n, rfl, rfl, ⟨hn0, ?_⟩, .ref r, rfl, .int (j : Int), rfl, r, _, (j : Int), j, rfl, rfl, hr1, ?_, ?_⟩
          · have : n.natAbs < 2 ^ 60 := by omega
            exact Nat.lt_trans (PySem.Flt.log2_lt_of (by decide) this) (by decide)
          · unfold ixN
            rw [if_pos (Int.natCast_nonneg j), if_pos (by rw [List.length_map]; omega)]
            rfl
          · refine ⟨.int (rests[j] % n), rfl, ?_⟩
            have e2 : (rests.map V.int).set j (.int (rests[j] / n)) = (rests.set j (rests[j] / n)).map V.int := by rw [List.map_set]
            have hG1 : (upd G p (.lst [.ref c, .int (t + 1), .ref r])) r = some (.lst (rests.map V.int)) := by
              rw [upd_ne D.pr.symm]
              exact D.hr
            rw [e2]
            refine q (rests[j] % n) (nn - 1) (Int.emod_nonneg _ (Int.ne_of_gt hn0)) (Int.emod_lt_of_pos _ hn0) (by show nn ≤ nn - 1 + 1; omega) _ F' (upd (upd G p (.lst [.ref c, .int (t + 1), .ref r])) r (.lst ((rests.set j (rests[j] / n)).map V.int))) _ (hh1.setG hG1 (fun z => nomatch z) ?_ trivial) (Same.refl _) (.int _)
            refine ⟨c, r, cells, rests.set j (rests[j] / n), t + 1, ⟨?_, ?_, upd_same, D.pc, D.pr, D.cr, by rw [List.length_set]; exact D.len, D.pos, D.few⟩, by omega, by show t + 1 + ((nn - 1 : Nat) : Int) ≤ _; omega⟩
            · rw [upd_ne D.pr, upd_same]
            · rw [upd_ne D.cr, upd_ne D.pc.symm]
              exact D.hc
        · -- a mix
          have b1 : 0 ≤ cells[j] % 2147483477 := Int.emod_nonneg _ (by decide)
          have b2 : cells[j] % 2147483477 < 2147483477 := Int.emod_lt_of_pos _ (by decide)
          refine ⟨.ref c, rfl, .int (j : Int), rfl, c, _, (j : Int), _, rfl, rfl, .of hc1, atc, .inl ⟨cells[j], rfl, cells[j], 2147483477, rfl, rfl, (by show (0 : Int) < 2147483477; decide), .int t, rfl, 65537, t, rfl, rfl, .inl ⟨by decide, by decide⟩, _, _, rfl, rfl, _, 6151, rfl, rfl, _, 3, rfl, rfl, pow3_lt (by omega) (by omega), _, 2147483399, rfl, rfl, (by show (0 : Int) < 2147483399; decide), ?_⟩⟩
          obtain ⟨x, hx⟩ : ∃ x, (cells[j] % 2147483477 + 65537 * t + 6151) ^ (3 : Int).toNat % 2147483399 = x := ⟨_, rfl⟩
          simp only [hx]
          have x1 : 0 ≤ x := by rw [← hx]; exact Int.emod_nonneg _ (by decide)
          have x2 : x < 2147483399 := by rw [← hx]; exact Int.emod_lt_of_pos _ (by decide)
          refine ⟨.int x, rfl, .int t, rfl, 10007, t, rfl, rfl, .inl ⟨by decide, by decide⟩, x, _, rfl, rfl, _, 29, rfl, rfl, _, 3, rfl, rfl, pow3_lt (by omega) (by omega), _, 2147483353, rfl, rfl, (by show (0 : Int) < 2147483353; decide), ?_⟩
          obtain ⟨y, hy⟩ : ∃ y, (x + 10007 * t + 29) ^ (3 : Int).toNat % 2147483353 = y := ⟨_, rfl⟩
          simp only [hy]
          have y1 : 0 ≤ y := by rw [← hy]; exact Int.emod_nonneg _ (by decide)
          have y2 : y < 2147483353 := by rw [← hy]; exact Int.emod_lt_of_pos _ (by decide)
          refine ⟨.int y, rfl, y, 2147483323, rfl, rfl, .inl ⟨by omega, by omega⟩, .int x, rfl, _, x, rfl, rfl, .inl ⟨_, rfl, _, 4611686018427387847, rfl, rfl, (by show (0 : Int) < 4611686018427387847; decide), .int n, rfl, _, n, rfl, rfl, hn0, ?_⟩⟩
          refine q _ (nn - 1) (Int.emod_nonneg _ (Int.ne_of_gt hn0)) (Int.emod_lt_of_pos _ hn0) (by show nn ≤ nn - 1 + 1; omega) _ F' (upd G p (.lst [.ref c, .int (t + 1), .ref r])) _ (hh.setG D.hp (fun z => nomatch z) ?_ trivial) (Same.refl _) (.int _)
          refine ⟨c, r, cells, rests, t + 1, ⟨upd_same, ?_, ?_, D.pc, D.pr, D.cr, D.len, D.pos, D.few⟩, by omega, by show t + 1 + ((nn - 1 : Nat) : Int) ≤ _; omega⟩
          · rw [upd_ne D.pc.symm]
            exact D.hc
          · rw [upd_ne D.pr.symm]
            exact D.hr
end
abbrev t_law_deck : Stmt := topS 25
abbrev N_law_deck : List Str := ["_law_script", "_law_cells", "_law_cell"]
theorem c_law_deck : FnScope N_law_deck ["_law_script"] (defScope t_law_deck) := ⟨rfl, rfl, rfl, by decide +kernel, rfl, by decide +kernel, by decide +kernel⟩
/-- the script -/
def ScriptAt (K : PySem.W.Frag) (H : Hp) (a : Addr) : Prop := ∃ zs : List Int, SqL K H a (zs.map V.int) ∧ zs.length ≤ 63 ∧ ∀ z ∈ zs, Builtin.Int.intBits z ≤ 1048576
def spDeck (K : PySem.W.Frag) : Sp := fun vs H Q _ => ∃ a, vs = [.ref a] ∧ ScriptAt K H a ∧ ∀ H' p c r cells rests, DeckAt H' p c r cells rests 0 → Q (.ref p) H'
abbrev noW : Wd Unit := Wd.all
section
variable {P : Program} {w : World} {K : PySem.W.Frag} {mg : Str → Option Value} {base : Heap}
theorem drL_ints {F : Hp} : ∀ zs : List Int, DrL K F (zs.map V.int) (zs.map Dt.int)
  | [] => .nil
  | z :: zs => .cons (.int z) (drL_ints zs)
theorem ints_drL {F : Hp} : ∀ (zs : List Int) (vs : List V), DrL K F vs (zs.map Dt.int) → vs = zs.map V.int
  | [], vs, h => by
    cases h
    rfl
  | z :: zs, vs, h => by
    cases h with
    | cons h1 h2 =>
      cases h1
      rw [ints_drL zs _ h2]
      rfl
theorem deck_cells {zs : List Int} : cutV (zs.map V.int) none (some 63) = (zs.take 63).map V.int := by
  unfold cutV
  rw [HT.sIx_none, show HT.sIx (zs.map V.int).length (zs.map V.int).length (some 63) = min 63 (zs.map V.int).length from HT.sIx_nat _ _ 63, List.drop_zero, Nat.sub_zero, List.length_map, ← List.map_take]
  congr 1
  exact List.take_eq_take_min.symm
theorem ok_law_deck {f : Addr} {fd : FuncData} (F : L2.Fun K "_law_deck" "_law_deck" t_law_deck f fd) (mi : mg "int" = none) (ml : mg "len" = none) (mt : mg "list" = none) : FnG P w K mg base CX0 1 f fd ["_law_script"] (spDeck K) := by
  refine FnG.of F c_law_deck (fun vs H Q E h => ?_) fun cdv A outer s H vs Q E hgu hr h => ?_
  · obtain ⟨a, rfl, _⟩ := h
    rfl
  · obtain ⟨a, rfl, ⟨zs, hS, hl, hb⟩, q⟩ := h
    refine ⟨_, pss_cons (ps_set (i := 1) c_law_deck.nd rfl (.inl rfl) (pe_op op_cat (pe_callTy call_list_of (by rfl) mt PySem.Pv.boot_list (pa_cons (pe_slice sl_list (pv 0) po_none (po_some pe_int)) pa_nil))
        (pe_op op_rep (pe_lst (pa_cons pe_int pa_nil)) (pe_callTy call_int1 (by rfl) mi PySem.Pv.boot_int (pa_cons (pe_cmpR op_eq (pe_callB call_len_seq (by rfl) ml PySem.boot_len (pa_cons (pv 0) pa_nil)) pe_int (nomark _)) pa_nil)))))
      (pss_one (ps_ret (pe_lst (pa_cons (pv 1) (pa_cons pe_int (pa_cons (PDL.run (W := noW) (dl_lc [("_law_cell", 2)] rfl c_law_deck.nd (blkOk_by (N := N_law_deck) (sc := defScope t_law_deck) (by decide +kernel)) (di_seq (d_var 1)) (fun _ _ _ _ _ => tg_one (i := 2) c_law_deck.nd rfl (by first | exact .inl rfl | exact .inr rfl)) (fun _ _ _ _ _ => dts_nil)
        (fun _ _ _ _ _ => d_op op_mulA od_mul (d_var 2) (d_t1 call_int1 fd_int (by rfl) mi PySem.Pv.boot_int (d_cmp op_ge od_cmp (d_var 2) (d_op op_pow od_pow d_int d_int) (nomark _)))) (by decide))) pa_nil)))))), ?_⟩
    have s0 : ∀ {H1 : Hp} {p : Addr} {o : HO}, H1 p = none → Same H1 (upd H1 p o) := fun h => sameUpd h
    refine ⟨.ref a, rfl, 63, rfl, a, zs.map V.int, rfl, hS, fun c0 n0 => ?_⟩
    refine ⟨c0, _, rfl, .inl (.inl (.inl upd_same)), fun c1 n1 => ?_⟩
    refine ⟨size1M (by decide), fun c2 n2 => ?_⟩
    have h1 : (upd (upd (upd H c0 (.lst (cutV (zs.map V.int) none (some 63)))) c1 (.lst (cutV (zs.map V.int) none (some 63)))) c2 (.lst [.int 0])) c1 = some (.lst (cutV (zs.map V.int) none (some 63))) := sameUpd n2 _ _ upd_same
    have hA : SqL K (upd (upd (upd H c0 (.lst (cutV (zs.map V.int) none (some 63)))) c1 (.lst (cutV (zs.map V.int) none (some 63)))) c2 (.lst [.int 0])) a (zs.map V.int) := ((sameUpd n0).trans ((sameUpd n1).trans (sameUpd n2))).seq hS
    refine ⟨.ref a, rfl, a, _, rfl, .inl hA, rfl, .inr ⟨_, rfl, ?_⟩⟩
    refine ⟨c2, _, [.int 0], rfl, rfl, upd_same, by split <;> decide, by split <;> decide, by split <;> exact size1M (by decide), fun c3 n3 => ?_⟩
    obtain ⟨cells, ec, hc0, hc63, hcb⟩ : ∃ cells : List Int, cutV (zs.map V.int) none (some 63) ++ (List.replicate (if decide (V.int ((zs.map V.int).length : Int) = V.int 0) = true then (1 : Int) else 0).toNat [V.int 0]).flatten = cells.map V.int ∧ 0 < cells.length ∧ cells.length ≤ 63 ∧ ∀ z ∈ cells, Builtin.Int.intBits z ≤ 1048576 := by
      rw [deck_cells]
      cases zs with
      | nil => exact ⟨[0], rfl, by decide, by decide, fun z hz => by rw [List.mem_singleton.mp hz]; decide⟩
      | cons z zs =>
        refine ⟨(z :: zs).take 63, ?_, ?_, ?_, fun y hy => hb y (List.mem_of_mem_take hy)⟩
        · rw [if_neg (by
            intro h
            have := V.int.inj (of_decide_eq_true h)
            rw [List.length_map, List.length_cons] at this
            omega)]
          exact List.append_nil _
        · rw [List.length_take, List.length_cons]
          omega
        · rw [List.length_take]
          omega
    have hlen : (cutV (zs.map V.int) none (some 63)).length + (List.replicate (if decide (V.int ((zs.map V.int).length : Int) = V.int 0) = true then (1 : Int) else 0).toNat [V.int 0]).flatten.length ≤ sizeLine := by
      rw [← List.length_append, ec, List.length_map]
      exact size1M (by omega)
    refine ⟨c1, c3, _, _, rfl, rfl, sameUpd n3 _ _ h1, upd_same, hlen, fun c nc => ?_⟩
    rw [ec]
    generalize (upd (upd (upd (upd H c0 (.lst (cutV (zs.map V.int) none (some 63)))) c1 (.lst (cutV (zs.map V.int) none (some 63)))) c2 (.lst [.int 0])) c3 _) = H3 at nc ⊢
    refine ⟨.ref c, rfl, fun _ => none, upd (fun _ => none) c (.lst (cells.map V.int)), fun _ => none, (), [some (.dat (.opq (.ref a))), some (.dat (.lst (cells.map Dt.int))), none], ⟨⟨fun b o e => (by cases e), fun b o e => ?_, fun b o e => (by cases e), fun b o e => .inl rfl, trivial, trivial⟩, rfl, fun i x e => ?_, fun i j v l r e => ?_⟩, ?_⟩
    · by_cases hb : b = c
      · subst hb
        rw [upd_same] at e ⊢
        exact e
      · rw [upd_ne hb] at e
        cases e
    · match i, e with
      | 0, e => cases e; exact ⟨.ref a, rfl, .opq _⟩
      | 1, e => cases e; exact ⟨.ref c, rfl, .lst upd_same (drL_ints _)⟩
      | 2, e => cases e
    · match i, e with
      | 0, e => cases e
      | 1, e => cases e
      | 2, e => cases e
    · refine ⟨rfl, _, rfl, by rw [List.length_map]; exact size1M (by omega), rfl, ?_⟩
      refine lc_map Dt.int (fun z => .int (z * (if decide (10 ^ 18 ≤ z) = true then 1 else 0))) cells (fun z hz => ⟨_, rfl, fun C hC => ?_⟩) ?_
      · refine ⟨⟨by decide, by decide, by decide⟩, ?_, hC⟩
        have := hcb z hz
        unfold CMulX
        split
        · rw [show Builtin.Int.intBits 1 = 1 by decide]
          omega
        · rw [show Builtin.Int.intBits 0 = 0 by decide]
          omega
      · intro r vs F' G' H' sr e1 _ _ eH eF _ hd
        refine ⟨size1M (by show 3 ≤ _; decide), fun p np => ?_⟩
        have hF : F' c = some (.lst (cells.map V.int)) := e1 _ _ upd_same
        have hHc : H' c = some (.lst (cells.map V.int)) := sr.hr.f _ _ hF
        have ev : ∀ (l : List Int) (vs : List V), DrL K F' vs (l.map fun z => Dt.int (z * (if decide (10 ^ 18 ≤ z) = true then 1 else 0))) → vs = (l.map fun z => z * (if decide (10 ^ 18 ≤ z) = true then 1 else 0)).map V.int := by
          intro l vs h
          refine ints_drL (K := K) (F := F') _ _ ?_
          rw [List.map_map]
          exact h
        rw [ev _ _ hd] at eH
        refine q _ p c r cells (cells.map fun z => z * (if decide (10 ^ 18 ≤ z) = true then 1 else 0)) ⟨upd_same, ?_, ?_, fun z => ?_, fun z => ?_, fun z => ?_, by rw [List.length_map], hc0, hc63⟩
        · rw [upd_ne (ne_of_none hHc np)]
          exact hHc
        · rw [upd_ne (ne_of_none eH np)]
          exact eH
        · exact ne_of_none hHc np z.symm
        · exact ne_of_none eH np z.symm
        · rw [z, eF] at hF
          cases hF
/-! ### the law's own body: the deck first, then what is said over data -/
def spLaw (K : PySem.W.Frag) : Sp := fun vs H Q _ => ∃ a, vs = [.ref a] ∧ ScriptAt K H a ∧ ∀ H', Q (.bl true) H'
theorem law_endN {N : List Str} {p : DS NkT} {H : Hp} {Q : VK} {E : XK} {vs : List V} (h : spLaw K vs H Q E) (mono : ∀ (D D' : DD NkT), D.Le D' → ∀ sl w, p D sl w → p D' sl w)
    (m : ∀ a q, p (endD fun d _ => d = .bl true) (lawSl N.length a q) (⟨q, allD⟩, fun _ => none)) :
    tSeq (tAsg (fun σ H Q => tCons (tVar 0) tNil σ H fun vs H1 => spDeck K vs H1 Q E) (gName 1)) (lftS K (DeckW.sep (NkW P w K)) p) { nx := fun _ H' => Q .non H', rt := Q } (start N vs) H := by
  obtain ⟨a, rfl, hS, q⟩ := h
  have h0 : (start N [V.ref a])[0]? = some (some (.ref a)) := rfl
  refine ⟨.ref a, h0, a, rfl, hS, fun H' b c r cells rests D => ?_⟩
  have st : HR DeckW (fun _ => none) (fun _ => none) (upd (upd (upd (fun _ => none) b (.lst [.ref c, .int 0, .ref r])) c (.lst (cells.map V.int))) r (.lst (rests.map V.int))) H' (⟨b, allD⟩ : Dw) := by
    refine ⟨fun b o e => (by cases e), fun b o e => (by cases e), fun d o e => ?_, fun b o e => (by cases e), ⟨c, r, cells, rests, 0, ⟨?_, ?_, upd_same, D.pc, D.pr, D.cr, D.len, D.pos, D.few⟩, Int.le_refl _, by show (0 : Int) + ((1099511627776 : Nat) : Int) ≤ 2 ^ 40; decide⟩, trivial⟩
    · by_cases h1 : d = r
      · subst h1
        rw [upd_same] at e
        rw [D.hr, e]
      · rw [upd_ne h1] at e
        by_cases h2 : d = c
        · subst h2
          rw [upd_same] at e
          rw [D.hc, e]
        · rw [upd_ne h2] at e
          by_cases h3 : d = b
          · subst h3
            rw [upd_same] at e
            rw [D.hp, e]
          · rw [upd_ne h3] at e
            cases e
    · rw [upd_ne D.pr, upd_ne D.pc, upd_same]
    · rw [upd_ne D.cr, upd_same]
  refine ⟨_, _, _, (⟨b, allD⟩, fun _ => none), lawSl N.length a b, (start_ok st.addNk (.cons (.opq _) .nil)).dat 1 (.opq _), mono _ _ ?_ _ _ (m a b)⟩
  refine ⟨fun sl w z => ?_, fun d w z v F' G' H' r1 e1 d1 => ?_, fun _ _ z => z.elim, fun _ _ z => z.elim⟩
  · cases (show Dt.non = Dt.bl true from z)
  · cases (show d = Dt.bl true from z)
    cases d1
    exact q _
end
structure Bt (K : PySem.W.Frag) (base : Heap) (mg : Str → Option Value) : Prop where
  mods : HasMods base
  b_abs : mg "abs" = none
  b_dict : mg "dict" = none
  b_enumerate : mg "enumerate" = none
  b_int : mg "int" = none
  b_len : mg "len" = none
  b_list : mg "list" = none
  b_max : mg "max" = none
  b_min : mg "min" = none
  b_range : mg "range" = none
  b_sorted : mg "sorted" = none
  b_sum : mg "sum" = none
  b_tuple : mg "tuple" = none
  g_START : GCon K mg "START" strtD
abbrev t_shape_of : Stmt := topS 1
abbrev N_shape_of : List Str := ["runs", "start", "end"]
theorem c_shape_of : FnScope N_shape_of ["runs"] (defScope t_shape_of) := ⟨rfl, rfl, rfl, by decide +kernel, rfl, by decide +kernel, by decide +kernel⟩
abbrev t_places_in : Stmt := topS 2
abbrev N_places_in : List Str := ["runs", "found", "start", "end"]
theorem c_places_in : FnScope N_places_in ["runs"] (defScope t_places_in) := ⟨rfl, rfl, rfl, by decide +kernel, rfl, by decide +kernel, by decide +kernel⟩
abbrev t_runs_of : Stmt := topS 3
abbrev N_runs_of : List Str := ["places", "found", "place"]
theorem c_runs_of : FnScope N_runs_of ["places"] (defScope t_runs_of) := ⟨rfl, rfl, rfl, by decide +kernel, rfl, by decide +kernel, by decide +kernel⟩
abbrev t_toggled : Stmt := topS 4
abbrev N_toggled : List Str := ["runs", "place", "places", "other"]
theorem c_toggled : FnScope N_toggled ["runs", "place"] (defScope t_toggled) := ⟨rfl, rfl, rfl, by decide +kernel, rfl, by decide +kernel, by decide +kernel⟩
abbrev t_room_at : Stmt := topS 6
abbrev N_room_at : List Str := ["price", "shape"]
theorem c_room_at : FnScope N_room_at ["price", "shape"] (defScope t_room_at) := ⟨rfl, rfl, rfl, by decide +kernel, rfl, by decide +kernel, by decide +kernel⟩
abbrev t_do_hold : Stmt := topS 7
abbrev N_do_hold : List Str := ["tests", "shape", "p", "q", "limit"]
theorem c_do_hold : FnScope N_do_hold ["tests", "shape"] (defScope t_do_hold) := ⟨rfl, rfl, rfl, by decide +kernel, rfl, by decide +kernel, by decide +kernel⟩
abbrev t_lowest : Stmt := topS 9
abbrev N_lowest : List Str := ["top", "bottom", "one", "other"]
theorem c_lowest : FnScope N_lowest ["top", "bottom"] (defScope t_lowest) := ⟨rfl, rfl, rfl, by decide +kernel, rfl, by decide +kernel, by decide +kernel⟩
abbrev t_step : Stmt := topS 12
abbrev N_step : List Str := ["keeper", "standing", "place", "runs", "form", "shape", "old", "tests", "new"]
theorem c_step : FnScope N_step ["keeper", "standing", "place"] (defScope t_step) := ⟨rfl, rfl, rfl, by decide +kernel, rfl, by decide +kernel, by decide +kernel⟩
abbrev t_web_of : Stmt := topS 13
abbrev N_web_of : List Str := ["keeper", "web", "waiting", "standing", "place", "later", "cost"]
theorem c_web_of : FnScope N_web_of ["keeper"] (defScope t_web_of) := ⟨rfl, rfl, rfl, by decide +kernel, rfl, by decide +kernel, by decide +kernel⟩
abbrev t_nothing_for : Stmt := topS 14
abbrev N_nothing_for : List Str := ["web", "standing"]
theorem c_nothing_for : FnScope N_nothing_for ["web"] (defScope t_nothing_for) := ⟨rfl, rfl, rfl, by decide +kernel, rfl, by decide +kernel, by decide +kernel⟩
abbrev t_most_changes : Stmt := topS 15
abbrev N_most_changes : List Str := ["keeper", "many", "web", "best", "turn", "more", "standing", "later", "cost"]
theorem c_most_changes : FnScope N_most_changes ["keeper", "many"] (defScope t_most_changes) := ⟨rfl, rfl, rfl, by decide +kernel, rfl, by decide +kernel, by decide +kernel⟩
abbrev t_dearest_rows : Stmt := topS 16
abbrev N_dearest_rows : List Str := ["web", "rows", "turn", "row", "standing", "later", "cost"]
theorem c_dearest_rows : FnScope N_dearest_rows ["web"] (defScope t_dearest_rows) := ⟨rfl, rfl, rfl, by decide +kernel, rfl, by decide +kernel, by decide +kernel⟩
abbrev t_least_mean : Stmt := topS 17
abbrev N_least_mean : List Str := ["rows", "standing", "found", "k", "mean"]
theorem c_least_mean : FnScope N_least_mean ["rows", "standing"] (defScope t_least_mean) := ⟨rfl, rfl, rfl, by decide +kernel, rfl, by decide +kernel, by decide +kernel⟩
abbrev t_greatest_mean : Stmt := topS 18
abbrev N_greatest_mean : List Str := ["web", "rows", "best", "standing", "mean"]
theorem c_greatest_mean : FnScope N_greatest_mean ["web"] (defScope t_greatest_mean) := ⟨rfl, rfl, rfl, by decide +kernel, rfl, by decide +kernel, by decide +kernel⟩
abbrev t_heights_of : Stmt := topS 19
abbrev N_heights_of : List Str := ["web", "mean", "heights", "is_raised", "standing", "later", "cost", "height"]
theorem c_heights_of : FnScope N_heights_of ["web", "mean"] (defScope t_heights_of) := ⟨rfl, rfl, rfl, by decide +kernel, rfl, by decide +kernel, by decide +kernel⟩
abbrev t_tight_places : Stmt := topS 20
abbrev N_tight_places : List Str := ["web", "heights", "mean", "standing", "found", "place", "later", "cost"]
theorem c_tight_places : FnScope N_tight_places ["web", "heights", "mean", "standing"] (defScope t_tight_places) := ⟨rfl, rfl, rfl, by decide +kernel, rfl, by decide +kernel, by decide +kernel⟩
abbrev t_open_places : Stmt := topS 21
abbrev N_open_places : List Str := ["web", "heights", "mean", "places", "is_lessened", "standing", "left", "place"]
theorem c_open_places : FnScope N_open_places ["web", "heights", "mean"] (defScope t_open_places) := ⟨rfl, rfl, rfl, by decide +kernel, rfl, by decide +kernel, by decide +kernel⟩
abbrev t_round_of : Stmt := topS 22
abbrev N_round_of : List Str := ["web", "places", "standing", "path", "row", "one"]
theorem c_round_of : FnScope N_round_of ["web", "places"] (defScope t_round_of) := ⟨rfl, rfl, rfl, by decide +kernel, rfl, by decide +kernel, by decide +kernel⟩
abbrev t_worst : Stmt := topS 23
abbrev N_worst : List Str := ["keeper", "web", "mean", "heights", "found", "standing"]
theorem c_worst : FnScope N_worst ["keeper"] (defScope t_worst) := ⟨rfl, rfl, rfl, by decide +kernel, rfl, by decide +kernel, by decide +kernel⟩
abbrev t_law_one : Stmt := topS 27
abbrev N_law_one : List Str := ["_law_deck_here", "_law_items"]
theorem c_law_one : FnScope N_law_one ["_law_deck_here", "_law_items"] (defScope t_law_one) := ⟨rfl, rfl, rfl, by decide +kernel, rfl, by decide +kernel, by decide +kernel⟩
abbrev t_law_price : Stmt := topS 28
abbrev N_law_price : List Str := ["_law_deck_here", "_law_width", "_law_way", "_law_a", "_law_b", "_law_c"]
theorem c_law_price : FnScope N_law_price ["_law_deck_here", "_law_width"] (defScope t_law_price) := ⟨rfl, rfl, rfl, by decide +kernel, rfl, by decide +kernel, by decide +kernel⟩
abbrev t_law_prices : Stmt := topS 29
abbrev N_law_prices : List Str := ["_law_deck_here", "_law_width", "_law_most", "_law_share", "_law_found", "_law_k", "_law_part"]
theorem c_law_prices : FnScope N_law_prices ["_law_deck_here", "_law_width", "_law_most"] (defScope t_law_prices) := ⟨rfl, rfl, rfl, by decide +kernel, rfl, by decide +kernel, by decide +kernel⟩
abbrev t_law_some_shape : Stmt := topS 30
abbrev N_law_some_shape : List Str := ["_law_deck_here", "_law_width", "_law_size"]
theorem c_law_some_shape : FnScope N_law_some_shape ["_law_deck_here", "_law_width"] (defScope t_law_some_shape) := ⟨rfl, rfl, rfl, by decide +kernel, rfl, by decide +kernel, by decide +kernel⟩
abbrev t_law_test : Stmt := topS 31
abbrev N_law_test : List Str := ["_law_deck_here", "_law_width", "_law_wide", "_law_p", "_law_q", "_law_size", "_law_count"]
theorem c_law_test : FnScope N_law_test ["_law_deck_here", "_law_width"] (defScope t_law_test) := ⟨rfl, rfl, rfl, by decide +kernel, rfl, by decide +kernel, by decide +kernel⟩
abbrev t_law_tests : Stmt := topS 32
abbrev N_law_tests : List Str := ["_law_deck_here", "_law_width", "_law_k"]
theorem c_law_tests : FnScope N_law_tests ["_law_deck_here", "_law_width"] (defScope t_law_tests) := ⟨rfl, rfl, rfl, by decide +kernel, rfl, by decide +kernel, by decide +kernel⟩
abbrev t_law_keeper : Stmt := topS 33
abbrev N_law_keeper : List Str := ["_law_deck_here", "_law_width", "_law_prices_here", "_law_turns", "_law_k", "_law_old", "_law_new"]
theorem c_law_keeper : FnScope N_law_keeper ["_law_deck_here"] (defScope t_law_keeper) := ⟨rfl, rfl, rfl, by decide +kernel, rfl, by decide +kernel, by decide +kernel⟩
abbrev t_lawmain : Stmt := topS 34
abbrev N_lawmain : List Str := ["_law_script", "_law_deck_here", "_law_turn", "_law_keeper_here", "_law_mean", "_law_start", "_law_places", "_law_heights", "_law_top", "_law_bottom", "_law_again", "_law_standing", "_law_costs", "_law_turns", "_law_length", "_law_k", "_law_later", "_law_cost", "_law_far", "_law_place"]
theorem c_lawmain : FnScope N_lawmain ["_law_script"] (defScope t_lawmain) := ⟨rfl, rfl, rfl, by decide +kernel, rfl, by decide +kernel, by decide +kernel⟩
section
variable {P : Program} {w : World} {K : PySem.W.Frag} {mg : Str → Option Value} {base : Heap}
theorem h_law_draw (T : Bt K base mg) (h : Has K mg "_law_draw" t_law_draw) : Callee P w K mg base 1 "_law_draw" ["_law_deck_here", "_law_below"] DeckW S_law_draw := by
  obtain ⟨f, fd, F, hm⟩ := h.ex
  exact ⟨f, fd, ok_law_draw F T.b_int T.b_len, hm, F.kp, F.binds fun _ _ _ _ _ _ us hl => match us, hl with | [_, _], _ => rfl⟩
theorem h_shape_of (T : Bt K base mg) (h : Has K mg "shape_of" t_shape_of) : Callee P w K mg base 1 "shape_of" ["runs"] DeckW S_shape_of :=
  Callee.mk' h c_shape_of (fun _ _ _ _ _ _ us hl => match us, hl with | [_], _ => rfl) (fun ds w C h => by obtain ⟨i, rfl, _⟩ := h; rfl) (p := p_shape_of) (fun f cdv A outer s H E hgu hr =>
    (db_one (ds_ret (d_tup (da_cons (d_b1 (cr_sum rfl) fd_sum (by rfl) T.b_sum (by decide +kernel) (d_L (dl_lc (g := gTup K 2 (gCons (gName 1) (gCons (gName 2) gNil))) [("start", 1), ("end", 2)] rfl c_shape_of.nd (blkOk_by (N := N_shape_of) (sc := defScope t_shape_of) (by decide +kernel)) (di_seq (d_var 0)) (fun _ _ _ _ _ => (tg_many rfl (tgs_cons c_shape_of.nd rfl (by first | exact .inl rfl | exact .inr rfl) (tgs_cons c_shape_of.nd rfl (by first | exact .inl rfl | exact .inr rfl) tgs_nil)) rfl)) (fun _ _ _ _ _ => dts_nil) (fun _ _ _ _ _ => (d_op op_addA od_add (d_op op_sub od_sub (d_var 2) (d_var 1)) d_int)) (by decide)))) (da_cons (d_b1 call_lenA fd_len (by rfl) T.b_len PySem.boot_len (d_var 0)) da_nil)))))) m_shape_of
theorem h_places_in (T : Bt K base mg) (h : Has K mg "places_in" t_places_in) : Callee P w K mg base 1 "places_in" ["runs"] DeckW S_places_in :=
  Callee.mk' h c_places_in (fun _ _ _ _ _ _ us hl => match us, hl with | [_], _ => rfl) (fun ds w C h => by obtain ⟨i, rfl, _⟩ := h; rfl) (p := p_places_in) (fun f cdv A outer s H E hgu hr =>
    (db_cons (ds_own c_places_in.nd rfl (by first | exact .inl rfl | exact .inr rfl) (dl_lst da_nil))
      (db_cons (ds_for PassesOwn.never rfl (di_seq (d_var 0)) (tg_many rfl (tgs_cons c_places_in.nd rfl (by first | exact .inl rfl | exact .inr rfl) (tgs_cons c_places_in.nd rfl (by first | exact .inl rfl | exact .inr rfl) tgs_nil)) rfl) (db_one (ds_ext (pv 1) (dl_r2 rfl (by rfl) T.b_list (by rfl) T.b_range (d_var 2) (d_op op_addA od_add (d_var 3) d_int) rfl rfl rfl rfl (prg_2 (by rfl) T.b_range (d_var 2).run (d_op op_addA od_add (d_var 3) d_int).run rfl rfl rfl)) (fun h => pe_bm PySem.F.plainAttrs_list PySem.F.slot_list_extend PySem.F.type_list_extend mt_extend (pv 1) h))))
      (db_frz (i := 1) (db_one (ds_ret (d_var 1))))))) m_places_in
theorem h_runs_of (T : Bt K base mg) (h : Has K mg "runs_of" t_runs_of) : Callee P w K mg base 1 "runs_of" ["places"] DeckW S_runs_of :=
  Callee.mk' h c_runs_of (fun _ _ _ _ _ _ us hl => match us, hl with | [_], _ => rfl) (fun ds w C h => by obtain ⟨i, rfl, _⟩ := h; rfl) (p := p_runs_of) (fun f cdv A outer s H E hgu hr =>
    (db_cons (ds_own c_runs_of.nd rfl (by first | exact .inl rfl | exact .inr rfl) (dl_lst da_nil))
      (db_cons (ds_for PassesOwn.never rfl (di_seq (d_var 0)) (tg_one c_runs_of.nd rfl (by first | exact .inl rfl | exact .inr rfl)) (db_one (ds_if (PDW.pt (dt_and (dt_cmp (op_neA hr.units) od_ne (d_var 1) (d_L (dl_lst da_nil)) (nomark _)) (dt_and1 (dt_cmp (op_eqA hr.units) od_eq (d_ix ix_seq od_ix (d_ix ix_seq od_ix (d_var 1) (d_neg d_int) (fun _ _ => rfl)) d_int (fun _ _ => rfl)) (d_op op_sub od_sub (d_var 2) d_int) (nomark _))))) (db_one (ds_setIx (o := .Name (Str.ofString "found") ⟨0, 0, 0, 0⟩) (pv 1) (d_tup (da_cons (d_ix ix_seq od_ix (d_ix ix_seq od_ix (d_var 1) (d_neg d_int) (fun _ _ => rfl)) d_int (fun _ _ => rfl)) (da_cons (d_var 2) da_nil))) (d_neg d_int))) (db_one (ds_app (pv 1) (d_tup (da_cons (d_var 2) (da_cons (d_var 2) da_nil))) (fun h => pe_bm PySem.F.plainAttrs_list PySem.F.slot_list_append PySem.F.type_list_append mt_append (pv 1) h))))))
      (db_one (ds_ret (d_t1 call_tuple_of fd_tuple (by rfl) T.b_tuple PySem.Pv.boot_tuple (d_var 1))))))) m_runs_of
theorem h_room_at (T : Bt K base mg) (h : Has K mg "room_at" t_room_at) : Callee P w K mg base 1 "room_at" ["price", "shape"] DeckW S_room_at :=
  Callee.mk' h c_room_at (fun _ _ _ _ _ _ us hl => match us, hl with | [_, _], _ => rfl) (fun ds w C h => by obtain ⟨i, rfl, _⟩ := h; rfl) (p := p_room_at) (fun f cdv A outer s H E hgu hr =>
    (db_one (ds_ret (d_op op_addA od_add (d_op op_addA od_add (d_ix ix_seq od_ix (d_var 0) d_int (fun _ _ => rfl)) (d_op op_mulA od_mul (d_ix ix_seq od_ix (d_var 0) d_int (fun _ _ => rfl)) (d_ix ix_seq od_ix (d_var 1) d_int (fun _ _ => rfl)))) (d_op op_mulA od_mul (d_ix ix_seq od_ix (d_var 0) d_int (fun _ _ => rfl)) (d_ix ix_seq od_ix (d_var 1) d_int (fun _ _ => rfl))))))) m_room_at
theorem h_do_hold (T : Bt K base mg) (h : Has K mg "do_hold" t_do_hold) : Callee P w K mg base 1 "do_hold" ["tests", "shape"] DeckW S_do_hold :=
  Callee.mk' h c_do_hold (fun _ _ _ _ _ _ us hl => match us, hl with | [_, _], _ => rfl) (fun ds w C h => by obtain ⟨i, rfl, _⟩ := h; rfl) (p := p_do_hold) (fun f cdv A outer s H E hgu hr =>
    (db_cons (ds_for PassesOwn.never rfl (di_seq (d_var 0)) (tg_many rfl (tgs_cons c_do_hold.nd rfl (by first | exact .inl rfl | exact .inr rfl) (tgs_cons c_do_hold.nd rfl (by first | exact .inl rfl | exact .inr rfl) (tgs_cons c_do_hold.nd rfl (by first | exact .inl rfl | exact .inr rfl) tgs_nil))) rfl) (db_one (ds_if (dt_cmp op_gt od_cmp (d_op op_addA od_add (d_op op_mulA od_mul (d_var 2) (d_ix ix_seq od_ix (d_var 1) d_int (fun _ _ => rfl))) (d_op op_mulA od_mul (d_var 3) (d_ix ix_seq od_ix (d_var 1) d_int (fun _ _ => rfl)))) (d_var 4) (nomark _)) (db_one (ds_ret d_bl)) db_nil)))
      (db_one (ds_ret d_bl)))) m_do_hold
theorem h_lowest (T : Bt K base mg) (h : Has K mg "lowest" t_lowest) : Callee P w K mg base 1 "lowest" ["top", "bottom"] DeckW S_lowest :=
  Callee.mk' h c_lowest (fun _ _ _ _ _ _ us hl => match us, hl with | [_, _], _ => rfl) (fun ds w C h => by obtain ⟨i, rfl, _⟩ := h; rfl) (p := p_lowest) (fun f cdv A outer s H E hgu hr =>
    (db_cons (ds_par rfl c_lowest.nd rfl rfl (by decide) rfl rfl (da_cons (d_b1 call_abs fd_abs (by rfl) T.b_abs (by decide +kernel) (d_var 0)) (da_cons (d_var 1) da_nil)) rfl (fun h => ps_par rfl c_lowest.nd rfl rfl (by decide) rfl rfl h rfl))
      (db_cons (ds_while PassesOwn.never (dt_cmp (op_neA hr.units) od_ne (d_var 3) d_int (nomark _)) (db_one (ds_par rfl c_lowest.nd rfl rfl (by decide) rfl rfl (da_cons (d_var 3) (da_cons (d_op op_mod od_mod (d_var 2) (d_var 3)) da_nil)) rfl (fun h => ps_par rfl c_lowest.nd rfl rfl (by decide) rfl rfl h rfl))))
      (db_one (ds_ret (d_tup (da_cons (d_op op_fdivW od_div (d_var 0) (d_var 2)) (da_cons (d_op op_fdivW od_div (d_var 1) (d_var 2)) da_nil)))))))) m_lowest
theorem h_nothing_for (T : Bt K base mg) (h : Has K mg "nothing_for" t_nothing_for) : Callee P w K mg base 1 "nothing_for" ["web"] (DeckW.sep (NkW P w K)) S_nothing_for :=
  Callee.mk' h c_nothing_for (fun _ _ _ _ _ _ us hl => match us, hl with | [_], _ => rfl) (fun ds w C h => by first | (obtain ⟨i, rfl, _⟩ := h; rfl) | (obtain ⟨_, _, rfl, _⟩ := h; rfl) | (obtain ⟨_, _, _, rfl, _⟩ := h; rfl) | (obtain ⟨_, _, _, _, rfl, _⟩ := h; rfl) | (obtain ⟨_, _, _, _, _, rfl, _⟩ := h; rfl) | (obtain ⟨_, _, _, _, _, _, rfl, _⟩ := h; rfl) | (obtain ⟨_, _, _, _, _, _, _, rfl, _⟩ := h; rfl) | (obtain ⟨_, _, _, _, _, _, _, _, rfl, _⟩ := h; rfl) | (obtain ⟨_, _, _, _, _, _, _, _, _, rfl, _⟩ := h; rfl) | (obtain ⟨_, _, _, _, _, _, _, _, _, _, rfl, _⟩ := h; rfl) | (obtain ⟨_, _, _, _, _, _, _, _, _, _, _, rfl, _⟩ := h; rfl)) (p := p_nothing_for) (fun f cdv A outer s H E hgu hr =>
    (db_one (ds_ret (d_ndictL nkIo hr.units rfl (by rfl) T.b_dict (by decide +kernel) (d_L (dl_lc [("standing", 1)] rfl c_nothing_for.nd (blkOk_by (N := N_nothing_for) (sc := defScope t_nothing_for) (by decide +kernel)) (di_keysN nkIo (d_var 0)) (fun _ _ _ _ _ => (tg_one c_nothing_for.nd rfl (by first | exact .inl rfl | exact .inr rfl))) (fun _ _ _ _ _ => dts_nil) (fun _ _ _ _ _ => (d_tup (da_cons (d_var 1) (da_cons d_int da_nil)))) (by decide))))))) m_nothing_for
theorem h_dearest_rows (T : Bt K base mg) (h : Has K mg "dearest_rows" t_dearest_rows) : Callee P w K mg base 1 "dearest_rows" ["web"] (DeckW.sep (NkW P w K)) S_dearest_rows :=
  Callee.mk' h c_dearest_rows (fun _ _ _ _ _ _ us hl => match us, hl with | [_], _ => rfl) (fun ds w C h => by first | (obtain ⟨i, rfl, _⟩ := h; rfl) | (obtain ⟨_, _, rfl, _⟩ := h; rfl) | (obtain ⟨_, _, _, rfl, _⟩ := h; rfl) | (obtain ⟨_, _, _, _, rfl, _⟩ := h; rfl) | (obtain ⟨_, _, _, _, _, rfl, _⟩ := h; rfl) | (obtain ⟨_, _, _, _, _, _, rfl, _⟩ := h; rfl) | (obtain ⟨_, _, _, _, _, _, _, rfl, _⟩ := h; rfl) | (obtain ⟨_, _, _, _, _, _, _, _, rfl, _⟩ := h; rfl) | (obtain ⟨_, _, _, _, _, _, _, _, _, rfl, _⟩ := h; rfl) | (obtain ⟨_, _, _, _, _, _, _, _, _, _, rfl, _⟩ := h; rfl) | (obtain ⟨_, _, _, _, _, _, _, _, _, _, _, rfl, _⟩ := h; rfl)) (p := p_dearest_rows) (fun f cdv A outer s H E hgu hr =>
    (db_cons (ds_own c_dearest_rows.nd rfl (by first | exact .inl rfl | exact .inr rfl) (dl_lst (da_cons (d_ndisp1 nkIo hr.units (d_gcon (by rfl) T.g_START) d_int) da_nil)))
      (db_cons (ds_for PassesOwn.never rfl (di_r1 (by rfl) T.b_range (d_nlen nkIo (by rfl) T.b_len PySem.boot_len (d_var 0))) (tg_one c_dearest_rows.nd rfl (by first | exact .inl rfl | exact .inr rfl)) (db_cons (ds_set c_dearest_rows.nd rfl (by first | exact .inl rfl | exact .inr rfl) (d_nnew nkIo))
      (db_cons (ds_for PassesOwn.never rfl (di_keysN nkIo (d_ix ix_seq od_ix (d_var 1) (d_neg d_int) (fun _ _ => rfl))) (tg_one c_dearest_rows.nd rfl (by first | exact .inl rfl | exact .inr rfl)) (db_one (ds_for PassesOwn.never rfl (di_seq (d_nget nkIo hr.units (d_var 0) (d_var 4) (fun _ _ => rfl))) (tg_many rfl (tgs_cons c_dearest_rows.nd rfl (by first | exact .inl rfl | exact .inr rfl) (tgs_cons c_dearest_rows.nd rfl (by first | exact .inl rfl | exact .inr rfl) tgs_nil)) rfl) (db_one (ds_nput nkIo hr.units (d_b2 (call_max2 rfl) fd_max2 (by rfl) T.b_max (by decide +kernel) (d_ngetD nkIo hr.units (d_var 3) (d_var 5) d_int ⟨rfl, rfl, rfl, rfl⟩) (d_op op_addA od_add (d_nget nkIo hr.units (d_ix ix_seq od_ix (d_var 1) (d_neg d_int) (fun _ _ => rfl)) (d_var 4) (fun _ _ => rfl)) (d_var 6))) (d_var 3) (d_var 5))))))
      (db_one (ds_app (pv 1) (d_var 3) (fun h => pe_bm PySem.F.plainAttrs_list PySem.F.slot_list_append PySem.F.type_list_append mt_append (pv 1) h))))))
      (db_frz (i := 1) (db_one (ds_ret (d_var 1))))))) m_dearest_rows
theorem h_least_mean (T : Bt K base mg) (h : Has K mg "least_mean" t_least_mean) : Callee P w K mg base 1 "least_mean" ["rows", "standing"] (DeckW.sep (NkW P w K)) S_least_mean :=
  Callee.mk' h c_least_mean (fun _ _ _ _ _ _ us hl => match us, hl with | [_, _], _ => rfl) (fun ds w C h => by first | (obtain ⟨i, rfl, _⟩ := h; rfl) | (obtain ⟨_, _, rfl, _⟩ := h; rfl) | (obtain ⟨_, _, _, rfl, _⟩ := h; rfl) | (obtain ⟨_, _, _, _, rfl, _⟩ := h; rfl) | (obtain ⟨_, _, _, _, _, rfl, _⟩ := h; rfl) | (obtain ⟨_, _, _, _, _, _, rfl, _⟩ := h; rfl) | (obtain ⟨_, _, _, _, _, _, _, rfl, _⟩ := h; rfl) | (obtain ⟨_, _, _, _, _, _, _, _, rfl, _⟩ := h; rfl) | (obtain ⟨_, _, _, _, _, _, _, _, _, rfl, _⟩ := h; rfl) | (obtain ⟨_, _, _, _, _, _, _, _, _, _, rfl, _⟩ := h; rfl) | (obtain ⟨_, _, _, _, _, _, _, _, _, _, _, rfl, _⟩ := h; rfl)) (p := p_least_mean) (fun f cdv A outer s H E hgu hr =>
    (db_cons (ds_set c_least_mean.nd rfl (by first | exact .inl rfl | exact .inr rfl) d_non)
      (db_cons (ds_for PassesOwn.never rfl (di_r1 (by rfl) T.b_range (d_op op_sub od_sub (d_b1 call_lenA fd_len (by rfl) T.b_len PySem.boot_len (d_var 0)) d_int)) (tg_one c_least_mean.nd rfl (by first | exact .inl rfl | exact .inr rfl)) (db_one (ds_if (dt_nin nkIo hr.units (d_var 1) (d_ix ix_seq od_ix (d_var 0) (d_var 3) (fun _ _ => rfl)) (by rfl)) (db_cons (ds_set c_least_mean.nd rfl (by first | exact .inl rfl | exact .inr rfl) (d_tup (da_cons (d_op op_sub od_sub (d_nget nkIo hr.units (d_ix ix_seq od_ix (d_var 0) (d_neg d_int) (fun _ _ => rfl)) (d_var 1) (fun _ _ => rfl)) (d_nget nkIo hr.units (d_ix ix_seq od_ix (d_var 0) (d_var 3) (fun _ _ => rfl)) (d_var 1) (fun _ _ => rfl))) (da_cons (d_op op_sub od_sub (d_op op_sub od_sub (d_b1 call_lenA fd_len (by rfl) T.b_len PySem.boot_len (d_var 0)) d_int) (d_var 3)) da_nil))))
      (db_one (ds_if (PDW.pt (dt_or (dt_isN (d_var 2)) (dt_or1 (dt_cmp op_lt od_cmp (d_op op_mulA od_mul (d_ix ix_seq od_ix (d_var 4) d_int (fun _ _ => rfl)) (d_ix ix_seq od_ix (d_var 2) d_int (fun _ _ => rfl))) (d_op op_mulA od_mul (d_ix ix_seq od_ix (d_var 2) d_int (fun _ _ => rfl)) (d_ix ix_seq od_ix (d_var 4) d_int (fun _ _ => rfl))) (nomark _))))) (db_one (ds_set c_least_mean.nd rfl (by first | exact .inl rfl | exact .inr rfl) (d_var 4))) db_nil))) db_nil)))
      (db_one (ds_ret (d_var 2)))))) m_least_mean
theorem h_tight_places (T : Bt K base mg) (h : Has K mg "tight_places" t_tight_places) : Callee P w K mg base 1 "tight_places" ["web", "heights", "mean", "standing"] (DeckW.sep (NkW P w K)) S_tight_places :=
  Callee.mk' h c_tight_places (fun _ _ _ _ _ _ us hl => match us, hl with | [_, _, _, _], _ => rfl) (fun ds w C h => by first | (obtain ⟨i, rfl, _⟩ := h; rfl) | (obtain ⟨_, _, rfl, _⟩ := h; rfl) | (obtain ⟨_, _, _, rfl, _⟩ := h; rfl) | (obtain ⟨_, _, _, _, rfl, _⟩ := h; rfl) | (obtain ⟨_, _, _, _, _, rfl, _⟩ := h; rfl) | (obtain ⟨_, _, _, _, _, _, rfl, _⟩ := h; rfl) | (obtain ⟨_, _, _, _, _, _, _, rfl, _⟩ := h; rfl) | (obtain ⟨_, _, _, _, _, _, _, _, rfl, _⟩ := h; rfl) | (obtain ⟨_, _, _, _, _, _, _, _, _, rfl, _⟩ := h; rfl) | (obtain ⟨_, _, _, _, _, _, _, _, _, _, rfl, _⟩ := h; rfl) | (obtain ⟨_, _, _, _, _, _, _, _, _, _, _, rfl, _⟩ := h; rfl)) (p := p_tight_places) (fun f cdv A outer s H E hgu hr =>
    (db_cons (ds_own c_tight_places.nd rfl (by first | exact .inl rfl | exact .inr rfl) (dl_lst da_nil))
      (db_cons (ds_for PassesOwn.never rfl (di_enum (by rfl) T.b_enumerate (d_nget nkIo hr.units (d_var 0) (d_var 3) (fun _ _ => rfl))) (tg_two rfl c_tight_places.nd rfl (by first | exact .inl rfl | exact .inr rfl) (tg_many rfl (tgs_cons c_tight_places.nd rfl (by first | exact .inl rfl | exact .inr rfl) (tgs_cons c_tight_places.nd rfl (by first | exact .inl rfl | exact .inr rfl) tgs_nil)) rfl)) (db_one (ds_if (dt_cmp (op_eqA hr.units) od_eq (d_op op_addA od_add (d_op op_sub od_sub (d_op op_mulA od_mul (d_var 7) (d_ix ix_seq od_ix (d_var 2) d_int (fun _ _ => rfl))) (d_ix ix_seq od_ix (d_var 2) d_int (fun _ _ => rfl))) (d_nget nkIo hr.units (d_var 1) (d_var 6) (fun _ _ => rfl))) (d_nget nkIo hr.units (d_var 1) (d_var 3) (fun _ _ => rfl)) (nomark _)) (db_one (ds_app (pv 4) (d_var 5) (fun h => pe_bm PySem.F.plainAttrs_list PySem.F.slot_list_append PySem.F.type_list_append mt_append (pv 4) h))) db_nil)))
      (db_frz (i := 4) (db_one (ds_ret (d_var 4))))))) m_tight_places
theorem h_round_of (T : Bt K base mg) (h : Has K mg "round_of" t_round_of) : Callee P w K mg base 1 "round_of" ["web", "places"] (DeckW.sep (NkW P w K)) S_round_of :=
  Callee.mk' h c_round_of (fun _ _ _ _ _ _ us hl => match us, hl with | [_, _], _ => rfl) (fun ds w C h => by first | (obtain ⟨i, rfl, _⟩ := h; rfl) | (obtain ⟨_, _, rfl, _⟩ := h; rfl) | (obtain ⟨_, _, _, rfl, _⟩ := h; rfl) | (obtain ⟨_, _, _, _, rfl, _⟩ := h; rfl) | (obtain ⟨_, _, _, _, _, rfl, _⟩ := h; rfl) | (obtain ⟨_, _, _, _, _, _, rfl, _⟩ := h; rfl) | (obtain ⟨_, _, _, _, _, _, _, rfl, _⟩ := h; rfl) | (obtain ⟨_, _, _, _, _, _, _, _, rfl, _⟩ := h; rfl) | (obtain ⟨_, _, _, _, _, _, _, _, _, rfl, _⟩ := h; rfl) | (obtain ⟨_, _, _, _, _, _, _, _, _, _, rfl, _⟩ := h; rfl) | (obtain ⟨_, _, _, _, _, _, _, _, _, _, _, rfl, _⟩ := h; rfl)) (p := p_round_of) (fun f cdv A outer s H E hgu hr =>
    (db_cons (ds_set c_round_of.nd rfl (by first | exact .inl rfl | exact .inr rfl) (d_b1 (cr_minN rfl hr.units) fd_minN (by rfl) T.b_min (by decide +kernel) (d_L (dl_lc [("one", 5)] rfl c_round_of.nd (blkOk_by (N := N_round_of) (sc := defScope t_round_of) (by decide +kernel)) (di_keysN nkIo (d_var 0)) (fun _ _ _ _ _ => (tg_one c_round_of.nd rfl (by first | exact .inl rfl | exact .inr rfl))) (fun _ _ _ _ _ => (dts_one (dt_cmp (op_neA hr.units) od_ne (d_nget nkIo hr.units (d_var 1) (d_var 5) (fun _ _ => rfl)) (d_L (dl_lst da_nil)) (nomark _)))) (fun _ _ _ _ _ => (d_var 5)) (by decide)))))
      (db_cons (ds_parOO rfl c_round_of.nd rfl rfl (by decide) rfl rfl (dl_lst da_nil) (dl_lst da_nil) rfl (fun h => ps_par rfl c_round_of.nd rfl rfl (by decide) rfl rfl h rfl))
      (db_cons (ds_while PassesOwn.never (dt_cmp (op_notInD (Room.u65 hr)) od_nInN (d_var 2) (d_var 3) (by rfl)) (db_cons (ds_app (pv 3) (d_var 2) (fun h => pe_bm PySem.F.plainAttrs_list PySem.F.slot_list_append PySem.F.type_list_append mt_append (pv 3) h))
      (db_cons (ds_app (pv 4) (d_ix ix_seq od_ix (d_nget nkIo hr.units (d_var 1) (d_var 2) (fun _ _ => rfl)) d_int (fun _ _ => rfl)) (fun h => pe_bm PySem.F.plainAttrs_list PySem.F.slot_list_append PySem.F.type_list_append mt_append (pv 4) h))
      (db_one (ds_set c_round_of.nd rfl (by first | exact .inl rfl | exact .inr rfl) (d_ix ix_seq od_ix (d_ix ix_seq od_ix (d_nget nkIo hr.units (d_var 0) (d_var 2) (fun _ _ => rfl)) (d_ix ix_seq od_ix (d_nget nkIo hr.units (d_var 1) (d_var 2) (fun _ _ => rfl)) d_int (fun _ _ => rfl)) (fun _ _ => rfl)) d_int (fun _ _ => rfl)))))))
      (db_frz (i := 3) (db_one (ds_ret (d_tup (da_cons (d_var 2) (da_cons (d_t1 call_tuple_of fd_tuple (by rfl) T.b_tuple PySem.Pv.boot_tuple (d_sl sl_B sd_sl (d_var 4) (do_some (d_indexN (d_var 3) (d_var 2) (fun ho h => pe_bm PySem.F.plainAttrs_list PySem.F.slot_list_index PySem.F.type_list_index (mt_indexD (Room.u65 hr)) ho h))) do_none)) da_nil)))))))))) m_round_of
theorem h_toggled (T : Bt K base mg) (h : Has K mg "toggled" t_toggled) (h_places_in : Callee P w K mg base 1 "places_in" ["runs"] DeckW S_places_in) (h_runs_of : Callee P w K mg base 1 "runs_of" ["places"] DeckW S_runs_of) : Callee P w K mg base 2 "toggled" ["runs", "place"] DeckW S_toggled :=
  Callee.mk' h c_toggled (fun _ _ _ _ _ _ us hl => match us, hl with | [_, _], _ => rfl) (fun ds w C h => by obtain ⟨i, rfl, _⟩ := h; rfl) (p := p_toggled) (fun f cdv A outer s H E hgu hr =>
    (db_cons (ds_set c_toggled.nd rfl (by first | exact .inl rfl | exact .inr rfl) (d_calle h_places_in hgu hr (by decide) (by rfl) (da_cons (d_var 0) da_nil)))
      (db_cons (ds_if (dt_cmp op_in_seq od_in (d_var 1) (d_var 2) (by rfl)) (db_one (ds_ret (d_calle h_runs_of hgu hr (by decide) (by rfl) (da_cons (d_L (dl_lc [("other", 3)] rfl c_toggled.nd (blkOk_by (N := N_toggled) (sc := defScope t_toggled) (by decide +kernel)) (di_seq (d_var 2)) (fun _ _ _ _ _ => (tg_one c_toggled.nd rfl (by first | exact .inl rfl | exact .inr rfl))) (fun _ _ _ _ _ => (dts_one (dt_cmp (op_neA hr.units) od_ne (d_var 3) (d_var 1) (nomark _)))) (fun _ _ _ _ _ => (d_var 3)) (by decide))) da_nil)))) db_nil)
      (db_one (ds_ret (d_calle h_runs_of hgu hr (by decide) (by rfl) (da_cons (d_L (dl_b1 cr_sortedI fl_sorted (by rfl) T.b_sorted (by decide +kernel) (d_L (dl_op op_cat ol_add (d_var 2) (d_L (dl_lst (da_cons (d_var 1) da_nil))))))) da_nil))))))) m_toggled
theorem h_greatest_mean (T : Bt K base mg) (h : Has K mg "greatest_mean" t_greatest_mean) (h_dearest_rows : Callee P w K mg base 1 "dearest_rows" ["web"] (DeckW.sep (NkW P w K)) S_dearest_rows) (h_least_mean : Callee P w K mg base 1 "least_mean" ["rows", "standing"] (DeckW.sep (NkW P w K)) S_least_mean) (h_lowest : Callee P w K mg base 1 "lowest" ["top", "bottom"] DeckW S_lowest) : Callee P w K mg base 2 "greatest_mean" ["web"] (DeckW.sep (NkW P w K)) S_greatest_mean :=
  Callee.mk' h c_greatest_mean (fun _ _ _ _ _ _ us hl => match us, hl with | [_], _ => rfl) (fun ds w C h => by first | (obtain ⟨i, rfl, _⟩ := h; rfl) | (obtain ⟨_, _, rfl, _⟩ := h; rfl) | (obtain ⟨_, _, _, rfl, _⟩ := h; rfl) | (obtain ⟨_, _, _, _, rfl, _⟩ := h; rfl) | (obtain ⟨_, _, _, _, _, rfl, _⟩ := h; rfl) | (obtain ⟨_, _, _, _, _, _, rfl, _⟩ := h; rfl) | (obtain ⟨_, _, _, _, _, _, _, rfl, _⟩ := h; rfl) | (obtain ⟨_, _, _, _, _, _, _, _, rfl, _⟩ := h; rfl) | (obtain ⟨_, _, _, _, _, _, _, _, _, rfl, _⟩ := h; rfl) | (obtain ⟨_, _, _, _, _, _, _, _, _, _, rfl, _⟩ := h; rfl) | (obtain ⟨_, _, _, _, _, _, _, _, _, _, _, rfl, _⟩ := h; rfl)) (p := p_greatest_mean) (fun f cdv A outer s H E hgu hr =>
    (db_cons (ds_par rfl c_greatest_mean.nd rfl rfl (by decide) rfl rfl (da_cons (d_calle h_dearest_rows hgu hr (by decide) (by rfl) (da_cons (d_var 0) da_nil)) (da_cons (d_tup (da_cons d_int (da_cons d_int da_nil))) da_nil)) rfl (fun h => ps_par rfl c_greatest_mean.nd rfl rfl (by decide) rfl rfl h rfl))
      (db_cons (ds_for PassesOwn.never rfl (di_keysN nkIo (d_ix ix_seq od_ix (d_var 1) (d_neg d_int) (fun _ _ => rfl))) (tg_one c_greatest_mean.nd rfl (by first | exact .inl rfl | exact .inr rfl)) (db_cons (ds_set c_greatest_mean.nd rfl (by first | exact .inl rfl | exact .inr rfl) (d_calle h_least_mean hgu hr (by decide) (by rfl) (da_cons (d_var 1) (da_cons (d_var 3) da_nil))))
      (db_one (ds_if (PDW.pt (dt_and (dt_notN (d_var 4)) (dt_and1 (dt_cmp op_gt od_cmp (d_op op_mulA od_mul (d_ix ix_seq od_ix (d_var 4) d_int (fun _ _ => rfl)) (d_ix ix_seq od_ix (d_var 2) d_int (fun _ _ => rfl))) (d_op op_mulA od_mul (d_ix ix_seq od_ix (d_var 2) d_int (fun _ _ => rfl)) (d_ix ix_seq od_ix (d_var 4) d_int (fun _ _ => rfl))) (nomark _))))) (db_one (ds_set c_greatest_mean.nd rfl (by first | exact .inl rfl | exact .inr rfl) (d_var 4))) db_nil))))
      (db_one (ds_ret (d_calle h_lowest.left hgu hr (by decide) (by rfl) (da_cons (d_ix ix_seq od_ix (d_var 2) d_int (fun _ _ => rfl)) (da_cons (d_ix ix_seq od_ix (d_var 2) d_int (fun _ _ => rfl)) da_nil)))))))) m_greatest_mean
theorem h_heights_of (T : Bt K base mg) (h : Has K mg "heights_of" t_heights_of) (h_nothing_for : Callee P w K mg base 1 "nothing_for" ["web"] (DeckW.sep (NkW P w K)) S_nothing_for) : Callee P w K mg base 2 "heights_of" ["web", "mean"] (DeckW.sep (NkW P w K)) S_heights_of :=
  Callee.mk' h c_heights_of (fun _ _ _ _ _ _ us hl => match us, hl with | [_, _], _ => rfl) (fun ds w C h => by first | (obtain ⟨i, rfl, _⟩ := h; rfl) | (obtain ⟨_, _, rfl, _⟩ := h; rfl) | (obtain ⟨_, _, _, rfl, _⟩ := h; rfl) | (obtain ⟨_, _, _, _, rfl, _⟩ := h; rfl) | (obtain ⟨_, _, _, _, _, rfl, _⟩ := h; rfl) | (obtain ⟨_, _, _, _, _, _, rfl, _⟩ := h; rfl) | (obtain ⟨_, _, _, _, _, _, _, rfl, _⟩ := h; rfl) | (obtain ⟨_, _, _, _, _, _, _, _, rfl, _⟩ := h; rfl) | (obtain ⟨_, _, _, _, _, _, _, _, _, rfl, _⟩ := h; rfl) | (obtain ⟨_, _, _, _, _, _, _, _, _, _, rfl, _⟩ := h; rfl) | (obtain ⟨_, _, _, _, _, _, _, _, _, _, _, rfl, _⟩ := h; rfl)) (p := p_heights_of) (fun f cdv A outer s H E hgu hr =>
    (db_cons (ds_par rfl c_heights_of.nd rfl rfl (by decide) rfl rfl (da_cons (d_calle h_nothing_for hgu hr (by decide) (by rfl) (da_cons (d_var 0) da_nil)) (da_cons d_bl da_nil)) rfl (fun h => ps_par rfl c_heights_of.nd rfl rfl (by decide) rfl rfl h rfl))
      (db_cons (ds_while PassesOwn.never (dt_val (d_var 3)) (db_cons (ds_set c_heights_of.nd rfl (by first | exact .inl rfl | exact .inr rfl) d_bl)
      (db_one (ds_for PassesOwn.never rfl (di_keysN nkIo (d_var 0)) (tg_one c_heights_of.nd rfl (by first | exact .inl rfl | exact .inr rfl)) (db_one (ds_for PassesOwn.never rfl (di_seq (d_nget nkIo hr.units (d_var 0) (d_var 4) (fun _ _ => rfl))) (tg_many rfl (tgs_cons c_heights_of.nd rfl (by first | exact .inl rfl | exact .inr rfl) (tgs_cons c_heights_of.nd rfl (by first | exact .inl rfl | exact .inr rfl) tgs_nil)) rfl) (db_cons (ds_set c_heights_of.nd rfl (by first | exact .inl rfl | exact .inr rfl) (d_op op_addA od_add (d_op op_sub od_sub (d_op op_mulA od_mul (d_var 6) (d_ix ix_seq od_ix (d_var 1) d_int (fun _ _ => rfl))) (d_ix ix_seq od_ix (d_var 1) d_int (fun _ _ => rfl))) (d_nget nkIo hr.units (d_var 2) (d_var 5) (fun _ _ => rfl))))
      (db_one (ds_if (dt_cmp op_gt od_cmp (d_var 7) (d_nget nkIo hr.units (d_var 2) (d_var 4) (fun _ _ => rfl)) (nomark _)) (db_cons (ds_nput nkIo hr.units (d_var 7) (d_var 2) (d_var 4))
      (db_one (ds_set c_heights_of.nd rfl (by first | exact .inl rfl | exact .inr rfl) d_bl))) db_nil)))))))))
      (db_one (ds_ret (d_var 2)))))) m_heights_of
theorem h_open_places (T : Bt K base mg) (h : Has K mg "open_places" t_open_places) (h_tight_places : Callee P w K mg base 1 "tight_places" ["web", "heights", "mean", "standing"] (DeckW.sep (NkW P w K)) S_tight_places) : Callee P w K mg base 2 "open_places" ["web", "heights", "mean"] (DeckW.sep (NkW P w K)) S_open_places :=
  Callee.mk' h c_open_places (fun _ _ _ _ _ _ us hl => match us, hl with | [_, _, _], _ => rfl) (fun ds w C h => by first | (obtain ⟨i, rfl, _⟩ := h; rfl) | (obtain ⟨_, _, rfl, _⟩ := h; rfl) | (obtain ⟨_, _, _, rfl, _⟩ := h; rfl) | (obtain ⟨_, _, _, _, rfl, _⟩ := h; rfl) | (obtain ⟨_, _, _, _, _, rfl, _⟩ := h; rfl) | (obtain ⟨_, _, _, _, _, _, rfl, _⟩ := h; rfl) | (obtain ⟨_, _, _, _, _, _, _, rfl, _⟩ := h; rfl) | (obtain ⟨_, _, _, _, _, _, _, _, rfl, _⟩ := h; rfl) | (obtain ⟨_, _, _, _, _, _, _, _, _, rfl, _⟩ := h; rfl) | (obtain ⟨_, _, _, _, _, _, _, _, _, _, rfl, _⟩ := h; rfl) | (obtain ⟨_, _, _, _, _, _, _, _, _, _, _, rfl, _⟩ := h; rfl)) (p := p_open_places) (fun f cdv A outer s H E hgu hr =>
    (db_cons (ds_unp rfl (d_tup (da_cons (d_nnew nkIo) (da_cons d_bl da_nil))) (tgs_cons c_open_places.nd rfl (by first | exact .inl rfl | exact .inr rfl) (tgs_cons c_open_places.nd rfl (by first | exact .inl rfl | exact .inr rfl) tgs_nil)) rfl)
      (db_cons (ds_for PassesOwn.never rfl (di_keysN nkIo (d_var 0)) (tg_one c_open_places.nd rfl (by first | exact .inl rfl | exact .inr rfl)) (db_one (ds_nput nkIo hr.units (d_calle h_tight_places hgu hr (by decide) (by rfl) (da_cons (d_var 0) (da_cons (d_var 1) (da_cons (d_var 2) (da_cons (d_var 5) da_nil))))) (d_var 3) (d_var 5))))
      (db_cons (ds_while PassesOwn.never (dt_val (d_var 4)) (db_cons (ds_set c_open_places.nd rfl (by first | exact .inl rfl | exact .inr rfl) d_bl)
      (db_one (ds_for PassesOwn.never rfl (di_keysN nkIo (d_var 0)) (tg_one c_open_places.nd rfl (by first | exact .inl rfl | exact .inr rfl)) (db_cons (ds_setLc [("place", 7)] rfl c_open_places.nd rfl rfl (sw_true rfl rfl rfl (by decide +kernel)) (blkOk_by (N := N_open_places) (sc := defScope t_open_places) (by decide +kernel)) (di_seq (d_nget nkIo hr.units (d_var 3) (d_var 5) (fun _ _ => rfl))) (fun _ _ _ _ _ => (tg_one c_open_places.nd rfl (by first | exact .inl rfl | exact .inr rfl))) (fun _ _ _ _ _ => (dts_one (dt_cmp (op_neA hr.units) od_ne (d_nget nkIo hr.units (d_var 3) (d_ix ix_seq od_ix (d_ix ix_seq od_ix (d_nget nkIo hr.units (d_var 0) (d_var 5) (fun _ _ => rfl)) (d_var 7) (fun _ _ => rfl)) d_int (fun _ _ => rfl)) (fun _ _ => rfl)) (d_L (dl_lst da_nil)) (nomark _)))) (fun _ _ _ _ _ => (d_var 7)) (by decide))
      (db_one (ds_if (dt_cmp (op_neA hr.units) od_ne (d_var 6) (d_nget nkIo hr.units (d_var 3) (d_var 5) (fun _ _ => rfl)) (nomark _)) (db_cons (ds_nput nkIo hr.units (d_var 6) (d_var 3) (d_var 5))
      (db_one (ds_set c_open_places.nd rfl (by first | exact .inl rfl | exact .inr rfl) d_bl))) db_nil)))))))
      (db_one (ds_ret (d_var 3))))))) m_open_places
theorem h_law_one (T : Bt K base mg) (h : Has K mg "_law_one" t_law_one) (h_law_draw : Callee P w K mg base 1 "_law_draw" ["_law_deck_here", "_law_below"] DeckW S_law_draw) : Callee P w K mg base 2 "_law_one" ["_law_deck_here", "_law_items"] DeckW S_law_one :=
  Callee.mk' h c_law_one (fun _ _ _ _ _ _ us hl => match us, hl with | [_, _], _ => rfl) (fun ds w C h => by obtain ⟨i, rfl, _⟩ := h; rfl) (p := p_law_one) (fun f cdv A outer s H E hgu hr =>
    (db_one (ds_ret (d_ix ix_seq od_ix (d_var 1) (d_calle h_law_draw hgu hr (by decide) (by rfl) (da_cons (d_var 0) (da_cons (d_b1 call_lenA fd_len (by rfl) T.b_len PySem.boot_len (d_var 1)) da_nil))) (fun _ _ => rfl))))) m_law_one
theorem h_law_price (T : Bt K base mg) (h : Has K mg "_law_price" t_law_price) (h_law_draw : Callee P w K mg base 1 "_law_draw" ["_law_deck_here", "_law_below"] DeckW S_law_draw) : Callee P w K mg base 2 "_law_price" ["_law_deck_here", "_law_width"] DeckW S_law_price :=
  Callee.mk' h c_law_price (fun _ _ _ _ _ _ us hl => match us, hl with | [_, _], _ => rfl) (fun ds w C h => by obtain ⟨i, rfl, _⟩ := h; rfl) (p := p_law_price) (fun f cdv A outer s H E hgu hr =>
    (db_cons (ds_unp rfl (d_tup (da_cons (d_calle h_law_draw hgu hr (by decide) (by rfl) (da_cons (d_var 0) (da_cons d_int da_nil))) (da_cons (d_op op_addA od_add d_int (d_calle h_law_draw hgu hr (by decide) (by rfl) (da_cons (d_var 0) (da_cons d_int da_nil)))) (da_cons (d_calle h_law_draw hgu hr (by decide) (by rfl) (da_cons (d_var 0) (da_cons d_int da_nil))) (da_cons (d_calle h_law_draw hgu hr (by decide) (by rfl) (da_cons (d_var 0) (da_cons d_int da_nil))) da_nil))))) (tgs_cons c_law_price.nd rfl (by first | exact .inl rfl | exact .inr rfl) (tgs_cons c_law_price.nd rfl (by first | exact .inl rfl | exact .inr rfl) (tgs_cons c_law_price.nd rfl (by first | exact .inl rfl | exact .inr rfl) (tgs_cons c_law_price.nd rfl (by first | exact .inl rfl | exact .inr rfl) tgs_nil)))) rfl)
      (db_cons (ds_if (dt_cmp op_lt od_cmp (d_var 2) d_int (nomark _)) (db_one (ds_ret (d_ix ix_seq od_ix (d_L (dl_lst (da_cons (d_tup (da_cons (d_var 3) (da_cons (d_var 4) (da_cons d_int da_nil)))) (da_cons (d_tup (da_cons (d_op op_addA od_add (d_var 3) (d_op op_fdivW od_div (d_var 1) (d_op op_addA od_add d_int (d_var 4)))) (da_cons d_int (da_cons d_int da_nil)))) (da_cons (d_tup (da_cons (d_var 3) (da_cons d_int (da_cons (d_var 5) da_nil)))) da_nil))))) (d_var 2) (fun _ _ => rfl)))) db_nil)
      (db_cons (ds_if (dt_cmp (op_eqA hr.units) od_eq (d_var 2) d_int (nomark _)) (db_one (ds_ret (d_tup (da_cons (d_op op_addA od_add (d_var 3) (d_op op_mulA od_mul (d_var 4) (d_var 1))) (da_cons (d_op op_sub od_sub d_int (d_var 4)) (da_cons d_int da_nil)))))) db_nil)
      (db_one (ds_ret (d_ifx (dt_cmp (op_eqA hr.units) od_eq (d_var 2) d_int (nomark _)) (d_tup (da_cons (d_var 3) (da_cons (d_var 4) (da_cons (d_var 5) da_nil)))) (d_tup (da_cons (d_op op_addA od_add (d_var 3) (d_op op_mulA od_mul (d_var 5) (d_op op_fdivW od_div (d_op op_addA od_add (d_var 1) d_int) d_int))) (da_cons (d_var 4) (da_cons (d_op op_sub od_sub d_int (d_var 5)) da_nil))))))))))) m_law_price
theorem h_law_some_shape (T : Bt K base mg) (h : Has K mg "_law_some_shape" t_law_some_shape) (h_law_draw : Callee P w K mg base 1 "_law_draw" ["_law_deck_here", "_law_below"] DeckW S_law_draw) : Callee P w K mg base 2 "_law_some_shape" ["_law_deck_here", "_law_width"] DeckW S_law_some_shape :=
  Callee.mk' h c_law_some_shape (fun _ _ _ _ _ _ us hl => match us, hl with | [_, _], _ => rfl) (fun ds w C h => by obtain ⟨i, rfl, _⟩ := h; rfl) (p := p_law_some_shape) (fun f cdv A outer s H E hgu hr =>
    (db_cons (ds_set c_law_some_shape.nd rfl (by first | exact .inl rfl | exact .inr rfl) (d_calle h_law_draw hgu hr (by decide) (by rfl) (da_cons (d_var 0) (da_cons (d_op op_addA od_add (d_var 1) d_int) da_nil))))
      (db_one (ds_ret (d_ifx (dt_cmp op_gt od_cmp (d_var 2) d_int (nomark _)) (d_tup (da_cons (d_var 2) (da_cons (d_op op_addA od_add d_int (d_calle h_law_draw hgu hr (by decide) (by rfl) (da_cons (d_var 0) (da_cons (d_b2 (call_min2 rfl) fd_min2 (by rfl) T.b_min (by decide +kernel) (d_var 2) (d_op op_addA od_add (d_op op_sub od_sub (d_var 1) (d_var 2)) d_int)) da_nil)))) da_nil))) (d_tup (da_cons d_int (da_cons d_int da_nil)))))))) m_law_some_shape
theorem h_step (T : Bt K base mg) (h : Has K mg "step" t_step) (h_toggled : Callee P w K mg base 2 "toggled" ["runs", "place"] DeckW S_toggled) (h_shape_of : Callee P w K mg base 1 "shape_of" ["runs"] DeckW S_shape_of) (h_do_hold : Callee P w K mg base 1 "do_hold" ["tests", "shape"] DeckW S_do_hold) (h_room_at : Callee P w K mg base 1 "room_at" ["price", "shape"] DeckW S_room_at) : Callee P w K mg base 3 "step" ["keeper", "standing", "place"] DeckW S_step :=
  Callee.mk' h c_step (fun _ _ _ _ _ _ us hl => match us, hl with | [_, _, _], _ => rfl) (fun ds w C h => by obtain ⟨i, rfl, _⟩ := h; rfl) (p := p_step) (fun f cdv A outer s H E hgu hr =>
    (db_cons (ds_par rfl c_step.nd rfl rfl (by decide) rfl rfl (da_cons (d_calle h_toggled hgu hr (by decide) (by rfl) (da_cons (d_ix ix_seq od_ix (d_var 1) d_int (fun _ _ => rfl)) (da_cons (d_var 2) da_nil))) (da_cons (d_ix ix_seq od_ix (d_var 1) d_int (fun _ _ => rfl)) da_nil)) rfl (fun h => ps_par rfl c_step.nd rfl rfl (by decide) rfl rfl h rfl))
      (db_cons (ds_set c_step.nd rfl (by first | exact .inl rfl | exact .inr rfl) (d_calle h_shape_of hgu hr (by decide) (by rfl) (da_cons (d_var 3) da_nil)))
      (db_cons (ds_for PassesOwn.never rfl (di_seq (d_ix ix_seq od_ix (d_var 0) d_int (fun _ _ => rfl))) (tg_many rfl (tgs_cons c_step.nd rfl (by first | exact .inl rfl | exact .inr rfl) (tgs_cons c_step.nd rfl (by first | exact .inl rfl | exact .inr rfl) (tgs_cons c_step.nd rfl (by first | exact .inl rfl | exact .inr rfl) tgs_nil))) rfl) (db_one (ds_if (PDW.pt (dt_and (dt_cmp (op_eqA hr.units) od_eq (d_var 6) (d_var 4) (nomark _)) (dt_and1 (dt_val (d_calle h_do_hold hgu hr (by decide) (by rfl) (da_cons (d_var 7) (da_cons (d_var 5) da_nil))))))) (db_one (ds_ret (d_tup (da_cons (d_tup (da_cons (d_var 3) (da_cons (d_var 8) da_nil))) (da_cons (d_calle h_room_at hgu hr (by decide) (by rfl) (da_cons (d_ix ix_seq od_ix (d_ix ix_seq od_ix (d_var 0) d_int (fun _ _ => rfl)) (d_var 8) (fun _ _ => rfl)) (da_cons (d_var 5) da_nil))) da_nil))))) db_nil)))
      (db_one (ds_ret (d_tup (da_cons (d_tup (da_cons (d_var 3) (da_cons (d_var 4) da_nil))) (da_cons d_int da_nil))))))))) m_step
theorem h_law_prices (T : Bt K base mg) (h : Has K mg "_law_prices" t_law_prices) (h_law_one : Callee P w K mg base 2 "_law_one" ["_law_deck_here", "_law_items"] DeckW S_law_one) (h_law_draw : Callee P w K mg base 1 "_law_draw" ["_law_deck_here", "_law_below"] DeckW S_law_draw) (h_law_price : Callee P w K mg base 2 "_law_price" ["_law_deck_here", "_law_width"] DeckW S_law_price) : Callee P w K mg base 3 "_law_prices" ["_law_deck_here", "_law_width", "_law_most"] DeckW S_law_prices :=
  Callee.mk' h c_law_prices (fun _ _ _ _ _ _ us hl => match us, hl with | [_, _, _], _ => rfl) (fun ds w C h => by obtain ⟨i, rfl, _⟩ := h; rfl) (p := p_law_prices) (fun f cdv A outer s H E hgu hr =>
    (db_cons (ds_set c_law_prices.nd rfl (by first | exact .inl rfl | exact .inr rfl) (d_calle h_law_one hgu hr (by decide) (by rfl) (da_cons (d_var 0) (da_cons (d_L (dl_lst (da_cons d_int (da_cons d_int (da_cons d_int (da_cons d_int (da_cons (d_ifx (dt_cmp op_lt od_cmp (d_var 1) d_int (nomark _)) d_int d_int) da_nil))))))) da_nil))))
      (db_cons (ds_own c_law_prices.nd rfl (by first | exact .inl rfl | exact .inr rfl) (dl_lst da_nil))
      (db_cons (ds_for PassesOwn.never rfl (di_r1 (by rfl) T.b_range (d_op op_addA od_add d_int (d_calle h_law_draw hgu hr (by decide) (by rfl) (da_cons (d_var 0) (da_cons (d_var 2) da_nil))))) (tg_one c_law_prices.nd rfl (by first | exact .inl rfl | exact .inr rfl)) (db_one (ds_app (pv 4) (d_t1 call_tuple_of fd_tuple (by rfl) T.b_tuple PySem.Pv.boot_tuple (d_L (dl_lc [("_law_part", 6)] rfl c_law_prices.nd (blkOk_by (N := N_law_prices) (sc := defScope t_law_prices) (by decide +kernel)) (di_seq (d_calle h_law_price hgu hr (by decide) (by rfl) (da_cons (d_var 0) (da_cons (d_var 1) da_nil)))) (fun _ _ _ _ _ => (tg_one c_law_prices.nd rfl (by first | exact .inl rfl | exact .inr rfl))) (fun _ _ _ _ _ => dts_nil) (fun _ _ _ _ _ => (d_op op_mulA od_mul (d_var 3) (d_var 6))) (by decide)))) (fun h => pe_bm PySem.F.plainAttrs_list PySem.F.slot_list_append PySem.F.type_list_append mt_append (pv 4) h))))
      (db_one (ds_ret (d_t1 call_tuple_of fd_tuple (by rfl) T.b_tuple PySem.Pv.boot_tuple (d_var 4)))))))) m_law_prices
theorem h_law_test (T : Bt K base mg) (h : Has K mg "_law_test" t_law_test) (h_law_one : Callee P w K mg base 2 "_law_one" ["_law_deck_here", "_law_items"] DeckW S_law_one) (h_law_draw : Callee P w K mg base 1 "_law_draw" ["_law_deck_here", "_law_below"] DeckW S_law_draw) (h_law_some_shape : Callee P w K mg base 2 "_law_some_shape" ["_law_deck_here", "_law_width"] DeckW S_law_some_shape) : Callee P w K mg base 3 "_law_test" ["_law_deck_here", "_law_width"] DeckW S_law_test :=
  Callee.mk' h c_law_test (fun _ _ _ _ _ _ us hl => match us, hl with | [_, _], _ => rfl) (fun ds w C h => by obtain ⟨i, rfl, _⟩ := h; rfl) (p := p_law_test) (fun f cdv A outer s H E hgu hr =>
    (db_cons (ds_set c_law_test.nd rfl (by first | exact .inl rfl | exact .inr rfl) (d_calle h_law_one hgu hr (by decide) (by rfl) (da_cons (d_var 0) (da_cons (d_L (dl_lst (da_cons d_int (da_cons d_int (da_cons d_int (da_cons d_int (da_cons d_int da_nil))))))) da_nil))))
      (db_cons (ds_par rfl c_law_test.nd rfl rfl (by decide) rfl rfl (da_cons (d_op op_sub od_sub (d_calle h_law_draw hgu hr (by decide) (by rfl) (da_cons (d_var 0) (da_cons (d_op op_addA od_add (d_op op_mulA od_mul d_int (d_var 2)) d_int) da_nil))) (d_var 2)) (da_cons (d_op op_sub od_sub (d_calle h_law_draw hgu hr (by decide) (by rfl) (da_cons (d_var 0) (da_cons (d_op op_addA od_add (d_op op_mulA od_mul d_int (d_var 2)) d_int) da_nil))) (d_var 2)) da_nil)) rfl (fun h => ps_par rfl c_law_test.nd rfl rfl (by decide) rfl rfl h rfl))
      (db_cons (ds_unp rfl (d_calle h_law_some_shape hgu hr (by decide) (by rfl) (da_cons (d_var 0) (da_cons (d_var 1) da_nil))) (tgs_cons c_law_test.nd rfl (by first | exact .inl rfl | exact .inr rfl) (tgs_cons c_law_test.nd rfl (by first | exact .inl rfl | exact .inr rfl) tgs_nil)) rfl)
      (db_one (ds_ret (d_tup (da_cons (d_var 3) (da_cons (d_var 4) (da_cons (d_op op_sub od_sub (d_op op_addA od_add (d_op op_addA od_add (d_op op_mulA od_mul (d_var 3) (d_var 5)) (d_op op_mulA od_mul (d_var 4) (d_var 6))) (d_calle h_law_draw hgu hr (by decide) (by rfl) (da_cons (d_var 0) (da_cons d_int da_nil)))) d_int) da_nil)))))))))) m_law_test
theorem h_web_of (T : Bt K base mg) (h : Has K mg "web_of" t_web_of) (h_step : Callee P w K mg base 3 "step" ["keeper", "standing", "place"] DeckW S_step) : Callee P w K mg base 4 "web_of" ["keeper"] (DeckW.sep (NkW P w K)) S_web_of :=
  Callee.mk' h c_web_of (fun _ _ _ _ _ _ us hl => match us, hl with | [_], _ => rfl) (fun ds w C h => by first | (obtain ⟨i, rfl, _⟩ := h; rfl) | (obtain ⟨_, _, rfl, _⟩ := h; rfl) | (obtain ⟨_, _, _, rfl, _⟩ := h; rfl) | (obtain ⟨_, _, _, _, rfl, _⟩ := h; rfl) | (obtain ⟨_, _, _, _, _, rfl, _⟩ := h; rfl) | (obtain ⟨_, _, _, _, _, _, rfl, _⟩ := h; rfl) | (obtain ⟨_, _, _, _, _, _, _, rfl, _⟩ := h; rfl) | (obtain ⟨_, _, _, _, _, _, _, _, rfl, _⟩ := h; rfl) | (obtain ⟨_, _, _, _, _, _, _, _, _, rfl, _⟩ := h; rfl) | (obtain ⟨_, _, _, _, _, _, _, _, _, _, rfl, _⟩ := h; rfl) | (obtain ⟨_, _, _, _, _, _, _, _, _, _, _, rfl, _⟩ := h; rfl)) (p := p_web_of) (fun f cdv A outer s H E hgu hr =>
    (db_cons (ds_parDO rfl c_web_of.nd rfl rfl (by decide) rfl rfl (d_nnew nkIo) (dl_lst (da_cons (d_gcon (by rfl) T.g_START) da_nil)) rfl (fun h => ps_par rfl c_web_of.nd rfl rfl (by decide) rfl rfl h rfl))
      (db_cons (ds_while PassesOwn.never (dt_cmp (op_neA hr.units) od_ne (d_var 2) (d_L (dl_lst da_nil)) (nomark _)) (db_cons (ds_popTo c_web_of.nd rfl (by first | exact .inl rfl | exact .inr rfl) (pv 2) (pe_bm0 PySem.F.plainAttrs_list PySem.F.slot_list_pop PySem.F.type_list_pop mt_pop (pv 2)))
      (db_one (ds_if (dt_nnin nkIo hr.units (d_var 3) (d_var 1) (by rfl)) (db_cons (ds_nput nkIo hr.units (d_L (dl_lc [("place", 4)] rfl c_web_of.nd (blkOk_by (N := N_web_of) (sc := defScope t_web_of) (by decide +kernel)) (di_r1 (by rfl) T.b_range (d_ix ix_seq od_ix (d_var 0) d_int (fun _ _ => rfl))) (fun _ _ _ _ _ => (tg_one c_web_of.nd rfl (by first | exact .inl rfl | exact .inr rfl))) (fun _ _ _ _ _ => dts_nil) (fun _ _ _ _ _ => (d_calle h_step.left hgu hr (by decide) (by rfl) (da_cons (d_var 0) (da_cons (d_var 3) (da_cons (d_var 4) da_nil))))) (by decide))) (d_var 1) (d_var 3))
      (db_one (ds_ext (pv 2) (dl_lc (g := gTup K 2 (gCons (gName 5) (gCons (gName 6) gNil))) [("later", 5), ("cost", 6)] rfl c_web_of.nd (blkOk_by (N := N_web_of) (sc := defScope t_web_of) (by decide +kernel)) (di_seq (d_nget nkIo hr.units (d_var 1) (d_var 3) (fun _ _ => rfl))) (fun _ _ _ _ _ => (tg_many rfl (tgs_cons c_web_of.nd rfl (by first | exact .inl rfl | exact .inr rfl) (tgs_cons c_web_of.nd rfl (by first | exact .inl rfl | exact .inr rfl) tgs_nil)) rfl)) (fun _ _ _ _ _ => dts_nil) (fun _ _ _ _ _ => (d_var 5)) (by decide)) (fun h => pe_bm PySem.F.plainAttrs_list PySem.F.slot_list_extend PySem.F.type_list_extend mt_extend (pv 2) h)))) db_nil))))
      (db_one (ds_ret (d_var 1)))))) m_web_of
theorem h_law_tests (T : Bt K base mg) (h : Has K mg "_law_tests" t_law_tests) (h_law_one : Callee P w K mg base 2 "_law_one" ["_law_deck_here", "_law_items"] DeckW S_law_one) (h_law_test : Callee P w K mg base 3 "_law_test" ["_law_deck_here", "_law_width"] DeckW S_law_test) : Callee P w K mg base 4 "_law_tests" ["_law_deck_here", "_law_width"] DeckW S_law_tests :=
  Callee.mk' h c_law_tests (fun _ _ _ _ _ _ us hl => match us, hl with | [_, _], _ => rfl) (fun ds w C h => by obtain ⟨i, rfl, _⟩ := h; rfl) (p := p_law_tests) (fun f cdv A outer s H E hgu hr =>
    (db_one (ds_ret (d_t1 call_tuple_of fd_tuple (by rfl) T.b_tuple PySem.Pv.boot_tuple (d_L (dl_lc [("_law_k", 2)] rfl c_law_tests.nd (blkOk_by (N := N_law_tests) (sc := defScope t_law_tests) (by decide +kernel)) (di_r1 (by rfl) T.b_range (d_calle h_law_one hgu hr (by decide) (by rfl) (da_cons (d_var 0) (da_cons (d_L (dl_lst (da_cons d_int (da_cons d_int (da_cons d_int (da_cons d_int (da_cons d_int (da_cons d_int (da_cons d_int (da_cons d_int (da_cons d_int da_nil))))))))))) da_nil)))) (fun _ _ _ _ _ => (tg_one c_law_tests.nd rfl (by first | exact .inl rfl | exact .inr rfl))) (fun _ _ _ _ _ => dts_nil) (fun _ _ _ _ _ => (d_calle h_law_test hgu hr (by decide) (by rfl) (da_cons (d_var 0) (da_cons (d_var 1) da_nil)))) (by decide))))))) m_law_tests
theorem h_most_changes (T : Bt K base mg) (h : Has K mg "most_changes" t_most_changes) (h_web_of : Callee P w K mg base 4 "web_of" ["keeper"] (DeckW.sep (NkW P w K)) S_web_of) (h_nothing_for : Callee P w K mg base 1 "nothing_for" ["web"] (DeckW.sep (NkW P w K)) S_nothing_for) : Callee P w K mg base 5 "most_changes" ["keeper", "many"] (DeckW.sep (NkW P w K)) S_most_changes :=
  Callee.mk' h c_most_changes (fun _ _ _ _ _ _ us hl => match us, hl with | [_, _], _ => rfl) (fun ds w C h => by first | (obtain ⟨i, rfl, _⟩ := h; rfl) | (obtain ⟨_, _, rfl, _⟩ := h; rfl) | (obtain ⟨_, _, _, rfl, _⟩ := h; rfl) | (obtain ⟨_, _, _, _, rfl, _⟩ := h; rfl) | (obtain ⟨_, _, _, _, _, rfl, _⟩ := h; rfl) | (obtain ⟨_, _, _, _, _, _, rfl, _⟩ := h; rfl) | (obtain ⟨_, _, _, _, _, _, _, rfl, _⟩ := h; rfl) | (obtain ⟨_, _, _, _, _, _, _, _, rfl, _⟩ := h; rfl) | (obtain ⟨_, _, _, _, _, _, _, _, _, rfl, _⟩ := h; rfl) | (obtain ⟨_, _, _, _, _, _, _, _, _, _, rfl, _⟩ := h; rfl) | (obtain ⟨_, _, _, _, _, _, _, _, _, _, _, rfl, _⟩ := h; rfl)) (p := p_most_changes) (fun f cdv A outer s H E hgu hr =>
    (db_cons (ds_set c_most_changes.nd rfl (by first | exact .inl rfl | exact .inr rfl) (d_calle h_web_of hgu hr (by decide) (by rfl) (da_cons (d_var 0) da_nil)))
      (db_cons (ds_set c_most_changes.nd rfl (by first | exact .inl rfl | exact .inr rfl) (d_calle h_nothing_for hgu hr (by decide) (by rfl) (da_cons (d_var 2) da_nil)))
      (db_cons (ds_for PassesOwn.never rfl (di_r1 (by rfl) T.b_range (d_var 1)) (tg_one c_most_changes.nd rfl (by first | exact .inl rfl | exact .inr rfl)) (db_cons (ds_set c_most_changes.nd rfl (by first | exact .inl rfl | exact .inr rfl) (d_nnew nkIo))
      (db_cons (ds_for PassesOwn.never rfl (di_keysN nkIo (d_var 2)) (tg_one c_most_changes.nd rfl (by first | exact .inl rfl | exact .inr rfl)) (db_one (ds_nput nkIo hr.units (d_b1 (cr_max rfl) fd_max1 (by rfl) T.b_max (by decide +kernel) (d_L (dl_lc (g := gTup K 2 (gCons (gName 7) (gCons (gName 8) gNil))) [("later", 7), ("cost", 8)] rfl c_most_changes.nd (blkOk_by (N := N_most_changes) (sc := defScope t_most_changes) (by decide +kernel)) (di_seq (d_nget nkIo hr.units (d_var 2) (d_var 6) (fun _ _ => rfl))) (fun _ _ _ _ _ => (tg_many rfl (tgs_cons c_most_changes.nd rfl (by first | exact .inl rfl | exact .inr rfl) (tgs_cons c_most_changes.nd rfl (by first | exact .inl rfl | exact .inr rfl) tgs_nil)) rfl)) (fun _ _ _ _ _ => dts_nil) (fun _ _ _ _ _ => (d_op op_addA od_add (d_t1 call_int1 fd_int (by rfl) T.b_int PySem.Pv.boot_int (d_cmp (op_neA hr.units) od_ne (d_ix ix_seq od_ix (d_var 7) d_int (fun _ _ => rfl)) (d_ix ix_seq od_ix (d_var 6) d_int (fun _ _ => rfl)) (nomark _))) (d_nget nkIo hr.units (d_var 3) (d_var 7) (fun _ _ => rfl)))) (by decide)))) (d_var 5) (d_var 6))))
      (db_one (ds_set c_most_changes.nd rfl (by first | exact .inl rfl | exact .inr rfl) (d_var 5))))))
      (db_one (ds_ret (d_nget nkIo hr.units (d_var 3) (d_gcon (by rfl) T.g_START) (fun _ _ => rfl)))))))) m_most_changes
theorem h_worst (T : Bt K base mg) (h : Has K mg "worst" t_worst) (h_web_of : Callee P w K mg base 4 "web_of" ["keeper"] (DeckW.sep (NkW P w K)) S_web_of) (h_greatest_mean : Callee P w K mg base 2 "greatest_mean" ["web"] (DeckW.sep (NkW P w K)) S_greatest_mean) (h_heights_of : Callee P w K mg base 2 "heights_of" ["web", "mean"] (DeckW.sep (NkW P w K)) S_heights_of) (h_round_of : Callee P w K mg base 1 "round_of" ["web", "places"] (DeckW.sep (NkW P w K)) S_round_of) (h_open_places : Callee P w K mg base 2 "open_places" ["web", "heights", "mean"] (DeckW.sep (NkW P w K)) S_open_places) (h_lowest : Callee P w K mg base 1 "lowest" ["top", "bottom"] DeckW S_lowest) : Callee P w K mg base 5 "worst" ["keeper"] (DeckW.sep (NkW P w K)) S_worst :=
  Callee.mk' h c_worst (fun _ _ _ _ _ _ us hl => match us, hl with | [_], _ => rfl) (fun ds w C h => by first | (obtain ⟨i, rfl, _⟩ := h; rfl) | (obtain ⟨_, _, rfl, _⟩ := h; rfl) | (obtain ⟨_, _, _, rfl, _⟩ := h; rfl) | (obtain ⟨_, _, _, _, rfl, _⟩ := h; rfl) | (obtain ⟨_, _, _, _, _, rfl, _⟩ := h; rfl) | (obtain ⟨_, _, _, _, _, _, rfl, _⟩ := h; rfl) | (obtain ⟨_, _, _, _, _, _, _, rfl, _⟩ := h; rfl) | (obtain ⟨_, _, _, _, _, _, _, _, rfl, _⟩ := h; rfl) | (obtain ⟨_, _, _, _, _, _, _, _, _, rfl, _⟩ := h; rfl) | (obtain ⟨_, _, _, _, _, _, _, _, _, _, rfl, _⟩ := h; rfl) | (obtain ⟨_, _, _, _, _, _, _, _, _, _, _, rfl, _⟩ := h; rfl)) (p := p_worst) (fun f cdv A outer s H E hgu hr =>
    (db_cons (ds_set c_worst.nd rfl (by first | exact .inl rfl | exact .inr rfl) (d_calle h_web_of hgu hr (by decide) (by rfl) (da_cons (d_var 0) da_nil)))
      (db_cons (ds_set c_worst.nd rfl (by first | exact .inl rfl | exact .inr rfl) (d_calle h_greatest_mean hgu hr (by decide) (by rfl) (da_cons (d_var 1) da_nil)))
      (db_cons (ds_set c_worst.nd rfl (by first | exact .inl rfl | exact .inr rfl) (d_calle h_heights_of hgu hr (by decide) (by rfl) (da_cons (d_var 1) (da_cons (d_var 2) da_nil))))
      (db_cons (ds_set c_worst.nd rfl (by first | exact .inl rfl | exact .inr rfl) (d_calle h_round_of hgu hr (by decide) (by rfl) (da_cons (d_var 1) (da_cons (d_calle h_open_places hgu hr (by decide) (by rfl) (da_cons (d_var 1) (da_cons (d_var 3) (da_cons (d_var 2) da_nil)))) da_nil))))
      (db_one (ds_ret (d_tup (da_cons (d_var 2) (da_cons (d_var 4) (da_cons (d_t1 call_tupX fd_tupX (by rfl) T.b_tuple PySem.Pv.boot_tuple (d_L (dl_lc [("standing", 5)] rfl c_worst.nd (blkOk_by (N := N_worst) (sc := defScope t_worst) (by decide +kernel)) (di_seq (d_L (dl_nsort nkIo hr.units rfl (by rfl) T.b_sorted (d_var 1)))) (fun _ _ _ _ _ => (tg_one c_worst.nd rfl (by first | exact .inl rfl | exact .inr rfl))) (fun _ _ _ _ _ => dts_nil) (fun _ _ _ _ _ => (d_tup (da_cons (d_var 5) (da_cons (d_calle h_lowest.left hgu hr (by decide) (by rfl) (da_cons (d_nget nkIo hr.units (d_var 3) (d_var 5) (fun _ _ => rfl)) (da_cons (d_ix ix_seq od_ix (d_var 2) d_int (fun _ _ => rfl)) da_nil))) da_nil)))) (by decide)))) da_nil))))))))))) m_worst
theorem h_law_keeper (T : Bt K base mg) (h : Has K mg "_law_keeper" t_law_keeper) (h_law_draw : Callee P w K mg base 1 "_law_draw" ["_law_deck_here", "_law_below"] DeckW S_law_draw) (h_law_prices : Callee P w K mg base 3 "_law_prices" ["_law_deck_here", "_law_width", "_law_most"] DeckW S_law_prices) (h_law_tests : Callee P w K mg base 4 "_law_tests" ["_law_deck_here", "_law_width"] DeckW S_law_tests) : Callee P w K mg base 5 "_law_keeper" ["_law_deck_here"] DeckW S_law_keeper :=
  Callee.mk' h c_law_keeper (fun _ _ _ _ _ _ us hl => match us, hl with | [_], _ => rfl) (fun ds w C h => by obtain ⟨i, rfl, _⟩ := h; rfl) (p := p_law_keeper) (fun f cdv A outer s H E hgu hr =>
    (db_cons (ds_set c_law_keeper.nd rfl (by first | exact .inl rfl | exact .inr rfl) (d_op op_addA od_add d_int (d_calle h_law_draw hgu hr (by decide) (by rfl) (da_cons (d_var 0) (da_cons d_int da_nil)))))
      (db_cons (ds_set c_law_keeper.nd rfl (by first | exact .inl rfl | exact .inr rfl) (d_calle h_law_prices hgu hr (by decide) (by rfl) (da_cons (d_var 0) (da_cons (d_var 1) (da_cons d_int da_nil)))))
      (db_cons (ds_if (dt_cmp (op_eqA hr.units) od_eq (d_b1 call_lenA fd_len (by rfl) T.b_len PySem.boot_len (d_var 2)) d_int (nomark _)) (db_one (ds_set c_law_keeper.nd rfl (by first | exact .inl rfl | exact .inr rfl) (d_op op_addA od_add (d_var 2) (d_tup (da_cons (d_tup (da_cons (d_op op_addA od_add d_int (d_calle h_law_draw hgu hr (by decide) (by rfl) (da_cons (d_var 0) (da_cons d_int da_nil)))) (da_cons d_int (da_cons d_int da_nil)))) da_nil))))) db_nil)
      (db_cons (ds_own c_law_keeper.nd rfl (by first | exact .inl rfl | exact .inr rfl) (dl_lst da_nil))
      (db_cons (ds_for PassesOwn.never rfl (di_r1 (by rfl) T.b_range (d_calle h_law_draw hgu hr (by decide) (by rfl) (da_cons (d_var 0) (da_cons d_int da_nil)))) (tg_one c_law_keeper.nd rfl (by first | exact .inl rfl | exact .inr rfl)) (db_cons (ds_set c_law_keeper.nd rfl (by first | exact .inl rfl | exact .inr rfl) (d_calle h_law_draw hgu hr (by decide) (by rfl) (da_cons (d_var 0) (da_cons (d_b1 call_lenA fd_len (by rfl) T.b_len PySem.boot_len (d_var 2)) da_nil))))
      (db_cons (ds_set c_law_keeper.nd rfl (by first | exact .inl rfl | exact .inr rfl) (d_op op_mod od_mod (d_t1 call_int1 fd_int (by rfl) T.b_int PySem.Pv.boot_int (d_op op_addA od_add (d_op op_addA od_add (d_var 5) d_int) (d_calle h_law_draw hgu hr (by decide) (by rfl) (da_cons (d_var 0) (da_cons (d_op op_sub od_sub (d_b1 call_lenA fd_len (by rfl) T.b_len PySem.boot_len (d_var 2)) d_int) da_nil))))) (d_b1 call_lenA fd_len (by rfl) T.b_len PySem.boot_len (d_var 2))))
      (db_one (ds_app (pv 3) (d_tup (da_cons (d_var 5) (da_cons (d_calle h_law_tests hgu hr (by decide) (by rfl) (da_cons (d_var 0) (da_cons (d_var 1) da_nil))) (da_cons (d_var 6) da_nil)))) (fun h => pe_bm PySem.F.plainAttrs_list PySem.F.slot_list_append PySem.F.type_list_append mt_append (pv 3) h))))))
      (db_one (ds_ret (d_tup (da_cons (d_var 1) (da_cons (d_var 2) (da_cons (d_t1 call_tuple_of fd_tuple (by rfl) T.b_tuple PySem.Pv.boot_tuple (d_var 3)) da_nil)))))))))))) m_law_keeper
theorem ok_lawmain {f : Addr} {fd : FuncData} (F : L2.Fun K "law" "law" t_lawmain f fd) (T : Bt K base mg) (hd : Has K mg "_law_deck" t_law_deck) (h_law_keeper : Callee P w K mg base 5 "_law_keeper" ["_law_deck_here"] DeckW S_law_keeper) (h_worst : Callee P w K mg base 5 "worst" ["keeper"] (DeckW.sep (NkW P w K)) S_worst) (h_law_draw : Callee P w K mg base 1 "_law_draw" ["_law_deck_here", "_law_below"] DeckW S_law_draw) (h_step : Callee P w K mg base 3 "step" ["keeper", "standing", "place"] DeckW S_step) (h_most_changes : Callee P w K mg base 5 "most_changes" ["keeper", "many"] (DeckW.sep (NkW P w K)) S_most_changes) : FnG P w K mg base CX0 6 f fd ["_law_script"] (spLaw K) := by
  obtain ⟨fk, fdk, Fk, mk⟩ := hd.ex
  have gk : FnG P w K mg base CX0 1 fk fdk ["_law_script"] (spDeck K) := ok_law_deck Fk T.b_int T.b_len T.b_list
  have bk : Binds K fdk ["_law_script"] [] := Fk.binds fun _ _ _ _ _ _ us hl => match us, hl with | [_], _ => rfl
  refine FnG.of F c_lawmain (fun vs H Q E h => ?_) fun cdv A outer s H vs Q E hgu hr h => ?_
  · obtain ⟨a, rfl, _⟩ := h
    rfl
  · have body : PDB (cxOf CX0 P w K mg base N_lawmain "law" (defScope t_lawmain) f cdv A outer s H E).nox (DeckW.sep (NkW P w K)) ((defBody t_lawmain).tail) p_lawmain :=
      (db_cons (ds_for PassesOwn.never rfl (di_r1 (by rfl) T.b_range d_int) (tg_one c_lawmain.nd rfl (by first | exact .inl rfl | exact .inr rfl)) (db_cons (ds_set c_lawmain.nd rfl (by first | exact .inl rfl | exact .inr rfl) (d_calle h_law_keeper.left hgu hr (by decide) (by rfl) (da_cons (d_var 1) da_nil)))
      (db_cons (ds_unp2 rfl (d_calle h_worst hgu hr (by decide) (by rfl) (da_cons (d_var 3) da_nil)) (tgg_cons (tg_one c_lawmain.nd rfl (by first | exact .inl rfl | exact .inr rfl)) (tgg_cons (tg_many rfl (tgs_cons c_lawmain.nd rfl (by first | exact .inl rfl | exact .inr rfl) (tgs_cons c_lawmain.nd rfl (by first | exact .inl rfl | exact .inr rfl) tgs_nil)) rfl) (tgg_cons (tg_one c_lawmain.nd rfl (by first | exact .inl rfl | exact .inr rfl)) tgg_nil))) rfl)
      (db_cons (ds_unp rfl (d_nget nkIo hr.units (d_ndictT nkIo hr.units rfl (by rfl) T.b_dict (by decide +kernel) (d_var 7)) (d_tup (da_cons (d_tup da_nil) (da_cons d_int da_nil))) (fun _ _ => rfl)) (tgs_cons c_lawmain.nd rfl (by first | exact .inl rfl | exact .inr rfl) (tgs_cons c_lawmain.nd rfl (by first | exact .inl rfl | exact .inr rfl) tgs_nil)) rfl)
      (db_cons (ds_for PassesOwn.never rfl (di_r1 (by rfl) T.b_range d_int) (tg_one c_lawmain.nd rfl (by first | exact .inl rfl | exact .inr rfl)) (db_cons (ds_unp rfl (d_tup (da_cons (d_tup (da_cons (d_tup da_nil) (da_cons d_int da_nil))) (da_cons d_int (da_cons d_int (da_cons (d_calle h_law_draw.left hgu hr (by decide) (by rfl) (da_cons (d_var 1) (da_cons d_int da_nil))) da_nil))))) (tgs_cons c_lawmain.nd rfl (by first | exact .inl rfl | exact .inr rfl) (tgs_cons c_lawmain.nd rfl (by first | exact .inl rfl | exact .inr rfl) (tgs_cons c_lawmain.nd rfl (by first | exact .inl rfl | exact .inr rfl) (tgs_cons c_lawmain.nd rfl (by first | exact .inl rfl | exact .inr rfl) tgs_nil)))) rfl)
      (db_cons (ds_for PassesOwn.never rfl (di_r1 (by rfl) T.b_range (d_var 14)) (tg_one c_lawmain.nd rfl (by first | exact .inl rfl | exact .inr rfl)) (db_cons (ds_unp rfl (d_calle h_step.left hgu hr (by decide) (by rfl) (da_cons (d_var 3) (da_cons (d_var 11) (da_cons (d_calle h_law_draw.left hgu hr (by decide) (by rfl) (da_cons (d_var 1) (da_cons (d_ix ix_seq od_ix (d_var 3) d_int (fun _ _ => rfl)) da_nil))) da_nil)))) (tgs_cons c_lawmain.nd rfl (by first | exact .inl rfl | exact .inr rfl) (tgs_cons c_lawmain.nd rfl (by first | exact .inl rfl | exact .inr rfl) tgs_nil)) rfl)
      (db_one (ds_par3 rfl c_lawmain.nd rfl rfl rfl (by decide) (by decide) (by decide) rfl rfl rfl (da_cons (d_op op_addA od_add (d_var 12) (d_var 17)) (da_cons (d_op op_addA od_add (d_var 13) (d_t1 call_int1 fd_int (by rfl) T.b_int PySem.Pv.boot_int (d_cmp (op_neA hr.units) od_ne (d_ix ix_seq od_ix (d_var 16) d_int (fun _ _ => rfl)) (d_ix ix_seq od_ix (d_var 11) d_int (fun _ _ => rfl)) (nomark _)))) (da_cons (d_var 16) da_nil))) rfl))))
      (db_cons (ds_set c_lawmain.nd rfl (by first | exact .inl rfl | exact .inr rfl) (d_nget nkIo hr.units (d_ndictT nkIo hr.units rfl (by rfl) T.b_dict (by decide +kernel) (d_var 7)) (d_var 11) (fun _ _ => rfl)))
      (db_cons (ds_if (dt_cmp op_gt od_cmp (d_op op_mulA od_mul (d_op op_mulA od_mul (d_op op_addA od_add (d_op op_mulA od_mul (d_var 12) (d_ix ix_seq od_ix (d_var 18) d_int (fun _ _ => rfl))) (d_ix ix_seq od_ix (d_var 18) d_int (fun _ _ => rfl))) (d_ix ix_seq od_ix (d_var 4) d_int (fun _ _ => rfl))) (d_var 9)) (d_op op_mulA od_mul (d_op op_addA od_add (d_op op_mulA od_mul (d_op op_mulA od_mul (d_ix ix_seq od_ix (d_var 4) d_int (fun _ _ => rfl)) (d_var 14)) (d_var 9)) (d_op op_mulA od_mul (d_var 8) (d_ix ix_seq od_ix (d_var 4) d_int (fun _ _ => rfl)))) (d_ix ix_seq od_ix (d_var 18) d_int (fun _ _ => rfl))) (nomark _)) (db_one (ds_ret d_bl)) db_nil)
      (db_one (ds_if (dt_cmp op_gt od_cmp (d_var 13) (d_calle h_most_changes hgu hr (by decide) (by rfl) (da_cons (d_var 3) (da_cons (d_var 14) da_nil))) (nomark _)) (db_one (ds_ret d_bl)) db_nil)))))))
      (db_cons (ds_par rfl c_lawmain.nd rfl rfl (by decide) rfl rfl (da_cons (d_var 5) (da_cons d_int da_nil)) rfl (fun h => ps_par rfl c_lawmain.nd rfl rfl (by decide) rfl rfl h rfl))
      (db_cons (ds_for PassesOwn.never rfl (di_seq (d_op op_mulT od_mulT (d_var 6) d_int)) (tg_one c_lawmain.nd rfl (by first | exact .inl rfl | exact .inr rfl)) (db_cons (ds_unp rfl (d_calle h_step.left hgu hr (by decide) (by rfl) (da_cons (d_var 3) (da_cons (d_var 11) (da_cons (d_var 19) da_nil)))) (tgs_cons c_lawmain.nd rfl (by first | exact .inl rfl | exact .inr rfl) (tgs_cons c_lawmain.nd rfl (by first | exact .inl rfl | exact .inr rfl) tgs_nil)) rfl)
      (db_one (ds_set c_lawmain.nd rfl (by first | exact .inl rfl | exact .inr rfl) (d_op op_addA od_add (d_var 12) (d_var 17))))))
      (db_one (ds_if (PDW.pt (dt_or (dt_cmp (op_neA hr.units) od_ne (d_var 11) (d_var 5) (nomark _)) (dt_or1 (dt_cmp (op_neA hr.units) od_ne (d_op op_mulA od_mul (d_var 12) (d_ix ix_seq od_ix (d_var 4) d_int (fun _ _ => rfl))) (d_op op_mulA od_mul (d_op op_mulA od_mul (d_ix ix_seq od_ix (d_var 4) d_int (fun _ _ => rfl)) (d_b1 call_lenA fd_len (by rfl) T.b_len PySem.boot_len (d_var 6))) d_int) (nomark _))))) (db_one (ds_ret d_bl)) db_nil)))))))))
      (db_one (ds_ret d_bl)))
    refine ⟨_, pss_cons (ps_set (i := 1) c_lawmain.nd rfl (by first | exact .inl rfl | exact .inr rfl) (pe_callG gk hgu (hr.mono (by decide)) (by rfl) mk Fk.kp bk pass0 (pa_cons (pv 0) pa_nil))) (PDB.nox body).run, ?_⟩
    exact law_endN h body.mono m_lawmain
theorem all_ok {l : PySem.W.OpenLaw} {h : Heap} {fa : Addr} (hfa : mg "law" = some (.ref fa)) (T0 : ∀ base, HasMods base → Bt K base mg) (g_lawmain : Has K mg "law" t_lawmain) (g_law_deck : Has K mg "_law_deck" t_law_deck) (g_law_draw : Has K mg "_law_draw" t_law_draw) (g_shape_of : Has K mg "shape_of" t_shape_of) (g_places_in : Has K mg "places_in" t_places_in) (g_runs_of : Has K mg "runs_of" t_runs_of) (g_room_at : Has K mg "room_at" t_room_at) (g_do_hold : Has K mg "do_hold" t_do_hold) (g_lowest : Has K mg "lowest" t_lowest) (g_nothing_for : Has K mg "nothing_for" t_nothing_for) (g_dearest_rows : Has K mg "dearest_rows" t_dearest_rows) (g_least_mean : Has K mg "least_mean" t_least_mean) (g_tight_places : Has K mg "tight_places" t_tight_places) (g_round_of : Has K mg "round_of" t_round_of) (g_toggled : Has K mg "toggled" t_toggled) (g_greatest_mean : Has K mg "greatest_mean" t_greatest_mean) (g_heights_of : Has K mg "heights_of" t_heights_of) (g_open_places : Has K mg "open_places" t_open_places) (g_law_one : Has K mg "_law_one" t_law_one) (g_law_price : Has K mg "_law_price" t_law_price) (g_law_some_shape : Has K mg "_law_some_shape" t_law_some_shape) (g_step : Has K mg "step" t_step) (g_law_prices : Has K mg "_law_prices" t_law_prices) (g_law_test : Has K mg "_law_test" t_law_test) (g_web_of : Has K mg "web_of" t_web_of) (g_law_tests : Has K mg "_law_tests" t_law_tests) (g_most_changes : Has K mg "most_changes" t_most_changes) (g_worst : Has K mg "worst" t_worst) (g_law_keeper : Has K mg "_law_keeper" t_law_keeper) :
    ∃ fd : FuncData, (∀ (s : Shared) (u : Value), BindsTo s fd ⟨[u], []⟩ [("_law_script", u)]) ∧ ∀ base : Heap, K.In base → base.Ns mainGlobals mg → HasMods base → FnG l.prog w K mg base CX0 6 fa fd ["_law_script"] (spLaw K) := by
  obtain ⟨f, fd, F, hm⟩ := g_lawmain.ex
  cases hfa.symm.trans hm
  refine ⟨fd, ?_, fun base _ _ hmod => ?_⟩
  · obtain ⟨oc, od, kV, doc, pm, an, cdv, ct, osl, rfl, lk, hcd⟩ := F.ex
    exact fun s v => .of_eq rfl
  · have T := T0 base hmod
    have k_law_draw := h_law_draw (P := l.prog) (w := w) (base := base) T g_law_draw
    have k_shape_of := h_shape_of (P := l.prog) (w := w) (base := base) T g_shape_of
    have k_places_in := h_places_in (P := l.prog) (w := w) (base := base) T g_places_in
    have k_runs_of := h_runs_of (P := l.prog) (w := w) (base := base) T g_runs_of
    have k_room_at := h_room_at (P := l.prog) (w := w) (base := base) T g_room_at
    have k_do_hold := h_do_hold (P := l.prog) (w := w) (base := base) T g_do_hold
    have k_lowest := h_lowest (P := l.prog) (w := w) (base := base) T g_lowest
    have k_nothing_for := h_nothing_for (P := l.prog) (w := w) (base := base) T g_nothing_for
    have k_dearest_rows := h_dearest_rows (P := l.prog) (w := w) (base := base) T g_dearest_rows
    have k_least_mean := h_least_mean (P := l.prog) (w := w) (base := base) T g_least_mean
    have k_tight_places := h_tight_places (P := l.prog) (w := w) (base := base) T g_tight_places
    have k_round_of := h_round_of (P := l.prog) (w := w) (base := base) T g_round_of
    have k_toggled := h_toggled (P := l.prog) (w := w) (base := base) T g_toggled k_places_in k_runs_of
    have k_greatest_mean := h_greatest_mean (P := l.prog) (w := w) (base := base) T g_greatest_mean k_dearest_rows k_least_mean k_lowest
    have k_heights_of := h_heights_of (P := l.prog) (w := w) (base := base) T g_heights_of k_nothing_for
    have k_open_places := h_open_places (P := l.prog) (w := w) (base := base) T g_open_places k_tight_places
    have k_law_one := h_law_one (P := l.prog) (w := w) (base := base) T g_law_one k_law_draw
    have k_law_price := h_law_price (P := l.prog) (w := w) (base := base) T g_law_price k_law_draw
    have k_law_some_shape := h_law_some_shape (P := l.prog) (w := w) (base := base) T g_law_some_shape k_law_draw
    have k_step := h_step (P := l.prog) (w := w) (base := base) T g_step k_toggled k_shape_of k_do_hold k_room_at
    have k_law_prices := h_law_prices (P := l.prog) (w := w) (base := base) T g_law_prices k_law_one k_law_draw k_law_price
    have k_law_test := h_law_test (P := l.prog) (w := w) (base := base) T g_law_test k_law_one k_law_draw k_law_some_shape
    have k_web_of := h_web_of (P := l.prog) (w := w) (base := base) T g_web_of k_step
    have k_law_tests := h_law_tests (P := l.prog) (w := w) (base := base) T g_law_tests k_law_one k_law_test
    have k_most_changes := h_most_changes (P := l.prog) (w := w) (base := base) T g_most_changes k_web_of k_nothing_for
    have k_worst := h_worst (P := l.prog) (w := w) (base := base) T g_worst k_web_of k_greatest_mean k_heights_of k_round_of k_open_places k_lowest
    have k_law_keeper := h_law_keeper (P := l.prog) (w := w) (base := base) T g_law_keeper k_law_draw k_law_prices k_law_tests
    exact ok_lawmain F T g_law_deck k_law_keeper k_worst k_law_draw k_step k_most_changes
end
end Ck
open PySem PySem.W PyProof.Rows
set_option maxHeartbeats 0 in
theorem PySem.Challenge.cw_chunkforms_k27_whole_rows_of_edits_holds : PySem.Challenge.rw_chunkforms_k27_whole_rows_of_edits.Holds := by
  w_on; o_law; k_head; (case hw => w_witness2)
  k_fill
  refine Ck.walk_G (l := PySem.Challenge.rw_chunkforms_k27_whole_rows_of_edits) (n := 63) (k := 6) (x := "_law_script") (CX := fun _ => L2.CX0) (sp := fun w => Ck.spLaw _) rfl rfl (by decide) rfl ⟨rfl, by decide, by decide⟩ (fun w h Y => PySem.W.kIn_of Y) ?F (fun _ _ a zs hl hb _ hS => ⟨a, rfl, ⟨zs, hS, hl, hb⟩, fun _ => rfl⟩) (fun _ _ _ _ _ h => h)
  case F =>
    intro w mg fa h KX G hmg
    refine' Ck.all_ok (h := h) hmg (fun _ hmod => ⟨hmod, (PySem.W.mg_none_of KX G ?z0), (PySem.W.mg_none_of KX G ?z1), (PySem.W.mg_none_of KX G ?z2), (PySem.W.mg_none_of KX G ?z3), (PySem.W.mg_none_of KX G ?z4), (PySem.W.mg_none_of KX G ?z5), (PySem.W.mg_none_of KX G ?z6), (PySem.W.mg_none_of KX G ?z7), (PySem.W.mg_none_of KX G ?z8), (PySem.W.mg_none_of KX G ?z9), (PySem.W.mg_none_of KX G ?z10), (PySem.W.mg_none_of KX G ?z11), (Ck.start_of KX G ?st0)⟩) (Ck.has_mk KX G ?a0 ?l0 ?c0 ?k0) (Ck.has_mk KX G ?a1 ?l1 ?c1 ?k1) (Ck.has_mk KX G ?a2 ?l2 ?c2 ?k2) (Ck.has_mk KX G ?a3 ?l3 ?c3 ?k3) (Ck.has_mk KX G ?a4 ?l4 ?c4 ?k4) (Ck.has_mk KX G ?a5 ?l5 ?c5 ?k5) (Ck.has_mk KX G ?a6 ?l6 ?c6 ?k6) (Ck.has_mk KX G ?a7 ?l7 ?c7 ?k7) (Ck.has_mk KX G ?a8 ?l8 ?c8 ?k8) (Ck.has_mk KX G ?a9 ?l9 ?c9 ?k9) (Ck.has_mk KX G ?a10 ?l10 ?c10 ?k10) (Ck.has_mk KX G ?a11 ?l11 ?c11 ?k11) (Ck.has_mk KX G ?a12 ?l12 ?c12 ?k12) (Ck.has_mk KX G ?a13 ?l13 ?c13 ?k13) (Ck.has_mk KX G ?a14 ?l14 ?c14 ?k14) (Ck.has_mk KX G ?a15 ?l15 ?c15 ?k15) (Ck.has_mk KX G ?a16 ?l16 ?c16 ?k16) (Ck.has_mk KX G ?a17 ?l17 ?c17 ?k17) (Ck.has_mk KX G ?a18 ?l18 ?c18 ?k18) (Ck.has_mk KX G ?a19 ?l19 ?c19 ?k19) (Ck.has_mk KX G ?a20 ?l20 ?c20 ?k20) (Ck.has_mk KX G ?a21 ?l21 ?c21 ?k21) (Ck.has_mk KX G ?a22 ?l22 ?c22 ?k22) (Ck.has_mk KX G ?a23 ?l23 ?c23 ?k23) (Ck.has_mk KX G ?a24 ?l24 ?c24 ?k24) (Ck.has_mk KX G ?a25 ?l25 ?c25 ?k25) (Ck.has_mk KX G ?a26 ?l26 ?c26 ?k26) (Ck.has_mk KX G ?a27 ?l27 ?c27 ?k27) (Ck.has_mk KX G ?a28 ?l28 ?c28 ?k28)
    (case z0 => k_is)
    (case z1 => k_is)
    (case z2 => k_is)
    (case z3 => k_is)
    (case z4 => k_is)
    (case z5 => k_is)
    (case z6 => k_is)
    (case z7 => k_is)
    (case z8 => k_is)
    (case z9 => k_is)
    (case z10 => k_is)
    (case z11 => k_is)
    (case a0 => k_is)
    (case l0 => k_is)
    (case c0 => k_is)
    (case k0 => k_is)
    (case a1 => k_is)
    (case l1 => k_is)
    (case c1 => k_is)
    (case k1 => k_is)
    (case a2 => k_is)
    (case l2 => k_is)
    (case c2 => k_is)
    (case k2 => k_is)
    (case a3 => k_is)
    (case l3 => k_is)
    (case c3 => k_is)
    (case k3 => k_is)
    (case a4 => k_is)
    (case l4 => k_is)
    (case c4 => k_is)
    (case k4 => k_is)
    (case a5 => k_is)
    (case l5 => k_is)
    (case c5 => k_is)
    (case k5 => k_is)
    (case a6 => k_is)
    (case l6 => k_is)
    (case c6 => k_is)
    (case k6 => k_is)
    (case a7 => k_is)
    (case l7 => k_is)
    (case c7 => k_is)
    (case k7 => k_is)
    (case a8 => k_is)
    (case l8 => k_is)
    (case c8 => k_is)
    (case k8 => k_is)
    (case a9 => k_is)
    (case l9 => k_is)
    (case c9 => k_is)
    (case k9 => k_is)
    (case a10 => k_is)
    (case l10 => k_is)
    (case c10 => k_is)
    (case k10 => k_is)
    (case a11 => k_is)
    (case l11 => k_is)
    (case c11 => k_is)
    (case k11 => k_is)
    (case a12 => k_is)
    (case l12 => k_is)
    (case c12 => k_is)
    (case k12 => k_is)
    (case a13 => k_is)
    (case l13 => k_is)
    (case c13 => k_is)
    (case k13 => k_is)
    (case a14 => k_is)
    (case l14 => k_is)
    (case c14 => k_is)
    (case k14 => k_is)
    (case a15 => k_is)
    (case l15 => k_is)
    (case c15 => k_is)
    (case k15 => k_is)
    (case a16 => k_is)
    (case l16 => k_is)
    (case c16 => k_is)
    (case k16 => k_is)
    (case a17 => k_is)
    (case l17 => k_is)
    (case c17 => k_is)
    (case k17 => k_is)
    (case a18 => k_is)
    (case l18 => k_is)
    (case c18 => k_is)
    (case k18 => k_is)
    (case a19 => k_is)
    (case l19 => k_is)
    (case c19 => k_is)
    (case k19 => k_is)
    (case a20 => k_is)
    (case l20 => k_is)
    (case c20 => k_is)
    (case k20 => k_is)
    (case a21 => k_is)
    (case l21 => k_is)
    (case c21 => k_is)
    (case k21 => k_is)
    (case a22 => k_is)
    (case l22 => k_is)
    (case c22 => k_is)
    (case k22 => k_is)
    (case a23 => k_is)
    (case l23 => k_is)
    (case c23 => k_is)
    (case k23 => k_is)
    (case a24 => k_is)
    (case l24 => k_is)
    (case c24 => k_is)
    (case k24 => k_is)
    (case a25 => k_is)
    (case l25 => k_is)
    (case c25 => k_is)
    (case k25 => k_is)
    (case a26 => k_is)
    (case l26 => k_is)
    (case c26 => k_is)
    (case k26 => k_is)
    (case a27 => k_is)
    (case l27 => k_is)
    (case c27 => k_is)
    (case k27 => k_is)
    (case a28 => k_is)
    (case l28 => k_is)
    (case c28 => k_is)
    (case k28 => k_is)
    (case st0 => kernel_rfl)
