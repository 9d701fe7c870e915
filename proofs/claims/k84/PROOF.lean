import PyProof.Rows.All
import Wide.All
import OpenK.AllK
import Wide.FinOn
import HandS.ForMost
import HandS.ForExc
import HandS.Wide
import HandS.Defaults
import HandS.HeadHook1
import HandS.HeadHook4
import HandS.Lambda
import HandS.Flow
import HandS.TupAny
import HandS.Style
import HandS.Deep
import HandS.NoneIn
import HandS.More
import HandS.Comp
import HandS.IsInst
import HandS.RaiseMore
import HandS.Conv
import HandS.SortInts
import PyProof.ReprRoads
import HandS.Ends
import HandS.HeadEnd
import HandS.HeadHook2
import HandS.HeadHook3
import HandS.Head0
import HandS.Head1
import HandS.Head2
import HandS.SortRule
import HandS.Property
import HandS.IterVal
import HandS.OwnEq
import KE.KOpsOwn
import KE.KOwnIter
import PyProof.InstNe
import HandS.Star
import KE.KExcLine
import HandS.ExcInit
import HandS.ExcField
import HandS.ExcIs
import KE.KExcIs
import HandS.HotCalls
import HandS.EndTab
import HandS.DeepEq
import PyProof.MaxThree
import PyProof.MeetsIn
import KE.KIndexOf
import HandS.Sort
import HandS.OwnIter
import KE.SortData
import HandS.Zip
import KE.DataMinMax
import HandS.DictComp
import KE.KDictPairs
import PyProof.EqAt
import PyProof.NeKinds
import PyProof.FactsAll.dict
import PySem.Challenge.RW_pupilpairs_k84_orders_with_their_primes
import PyProof.ReprLen
set_option Elab.async false
set_option linter.all false
set_option maxRecDepth 100000
set_option maxHeartbeats 0
namespace Sh
open PySem L2

inductive W where
  | non | bl (b : Bool) | int (i : Int) | str (x : Str)
  | tup (xs : List W) | lst (xs : List W) | dct (kvs : List (Key × W)) | dcT (kvs : List (List Key × W))
  | obj (C : Str) (fs : List (Str × W)) | exn (C : Str) (fs : List (Str × W)) (a : Addr) (d : Option Addr) | ref (a : Addr) | ty (n : String) | scr (ns : List Int) | glo (n : Str)
/-- an object that may be written -/
inductive SO where
  | lst (ws : List W) | dct (kvs : List (Key × W)) | dcT (kvs : List (List Key × W)) | ins (C : Str) (fs : List (Str × W)) | tbl (a : Addr) (d : Str)
inductive Slot where
  | none | val (w : W) | own (o : SO)
abbrev Sto := Addr → Option SO
structure Stt where
  ρ : List Slot
  S : Sto
/-- a result: a value; a new object that nobody else holds -/
inductive R where
  | val (w : W) | new (o : SO)
def SO.fz : SO → W
  | .lst ws => .lst ws
  | .dct kvs => .dct kvs
  | .dcT kvs => .dcT kvs
  | .ins C fs => .obj C fs
  | .tbl a _ => .ref a
def R.fz : R → W
  | .val w => w
  | .new o => o.fz

def FzL (Lv : Addr → Prop) (H : Hp) (a : Addr) (xs : List V) : Prop := H a = some (.lst xs) ∧ ¬ Lv a
/-- the script: read, never written -/
def FzS (K : PySem.W.Frag) (Lv : Addr → Prop) (H : Hp) (a : Addr) (xs : List V) : Prop :=
  ((∃ o, H a = some (.frz o (.lst xs))) ∧ ¬ Lv a) ∨ FzL Lv H a xs ∨ ∃ (o : Obj) (its : Array Value) (n : Nat), K.lookup a = some o ∧ o.cls = .type "list" ∧ o.dict = none ∧ o.data = .seq its n ∧ its.size ≤ sizeLine ∧ Vals xs its.toList
def FzT (K : PySem.W.Frag) (Lv : Addr → Prop) (H : Hp) (a : Addr) (xs : List V) : Prop :=
  (H a = some (.tup xs) ∧ ¬ Lv a) ∨ ∃ (o : Obj) (its : Array Value) (n : Nat), K.lookup a = some o ∧ o.cls = .type "tuple" ∧ o.data = .seq its n ∧ its.size ≤ sizeLine ∧ Vals xs its.toList
theorem FzL.sq {K : PySem.W.Frag} {Lv : Addr → Prop} {H : Hp} {a : Addr} {xs : List V} (h : FzL Lv H a xs) : SqL K H a xs := SqL.of h.1
theorem FzS.sq {K : PySem.W.Frag} {Lv : Addr → Prop} {H : Hp} {a : Addr} {xs : List V} (h : FzS K Lv H a xs) : SqL K H a xs := by
  rcases h with ⟨h, _⟩ | h | h
  · exact .inl (.inr h)
  · exact h.sq
  · exact .inr h
theorem FzT.sq {K : PySem.W.Frag} {Lv : Addr → Prop} {H : Hp} {a : Addr} {xs : List V} (h : FzT K Lv H a xs) : SqT K H a xs := h.imp (fun z => .inl z.1) id
mutual
inductive RelW (K : PySem.W.Frag) (Lv : Addr → Prop) (H : Hp) : W → V → Prop
  | non : RelW K Lv H .non .non
  | bl (b : Bool) : RelW K Lv H (.bl b) (.bl b)
  | int (i : Int) : RelW K Lv H (.int i) (.int i)
  | str (x : Str) : RelW K Lv H (.str x) (.str x)
  | ty (n : String) : RelW K Lv H (.ty n) (.ty n)
  | ref (a : Addr) : RelW K Lv H (.ref a) (.ref a)
  | glo (n : Str) : RelW K Lv H (.glo n) (.ref (He.ga K n))
  | tup {a : Addr} {ws : List W} {vs : List V} : FzT K Lv H a vs → RelWs K Lv H ws vs → RelW K Lv H (.tup ws) (.ref a)
  | scr {a : Addr} {ns : List Int} : FzS K Lv H a (ns.map V.int) → RelW K Lv H (.scr ns) (.ref a)
  | lst {a : Addr} {ws : List W} {vs : List V} : FzL Lv H a vs → RelWs K Lv H ws vs → RelW K Lv H (.lst ws) (.ref a)
  | dct {a : Addr} {ws : List (Key × W)} {vs : List (Key × V)} : H a = some (.dK vs) → ¬ Lv a → RelKs K Lv H ws vs → RelW K Lv H (.dct ws) (.ref a)
  | dcT {a : Addr} {ws : List (List Key × W)} {vs : List (List Key × V)} : H a = some (.dT vs) → ¬ Lv a → RelTs K Lv H ws vs → RelW K Lv H (.dcT ws) (.ref a)
  | obj {a dx : Addr} {C : Str} {ws : List (Str × W)} {vs : List (Str × V)} : H a = some (.ins (He.ga K C) dx vs) → ¬ Lv a → RelFs K Lv H ws vs → RelW K Lv H (.obj C ws) (.ref a)
  | exn0 {a : Addr} {C : Str} : RelW K Lv H (.exn C [] a none) (.ref a)
  | exn1 {a dd : Addr} {C : Str} {ws : List (Str × W)} {vs : List (Str × V)} : H dd = some (.xd vs) → ¬ Lv dd → RelFs K Lv H ws vs → RelW K Lv H (.exn C ws a (some dd)) (.ref a)
inductive RelWs (K : PySem.W.Frag) (Lv : Addr → Prop) (H : Hp) : List W → List V → Prop
  | nil : RelWs K Lv H [] []
  | cons {w : W} {v : V} {ws : List W} {vs : List V} : RelW K Lv H w v → RelWs K Lv H ws vs → RelWs K Lv H (w :: ws) (v :: vs)
inductive RelKs (K : PySem.W.Frag) (Lv : Addr → Prop) (H : Hp) : List (Key × W) → List (Key × V) → Prop
  | nil : RelKs K Lv H [] []
  | cons {k : Key} {w : W} {v : V} {ws : List (Key × W)} {vs : List (Key × V)} : RelW K Lv H w v → RelKs K Lv H ws vs → RelKs K Lv H ((k, w) :: ws) ((k, v) :: vs)
inductive RelTs (K : PySem.W.Frag) (Lv : Addr → Prop) (H : Hp) : List (List Key × W) → List (List Key × V) → Prop
  | nil : RelTs K Lv H [] []
  | cons {k : List Key} {w : W} {v : V} {ws : List (List Key × W)} {vs : List (List Key × V)} : RelW K Lv H w v → RelTs K Lv H ws vs → RelTs K Lv H ((k, w) :: ws) ((k, v) :: vs)
inductive RelFs (K : PySem.W.Frag) (Lv : Addr → Prop) (H : Hp) : List (Str × W) → List (Str × V) → Prop
  | nil : RelFs K Lv H [] []
  | cons {k : Str} {w : W} {v : V} {ws : List (Str × W)} {vs : List (Str × V)} : RelW K Lv H w v → RelFs K Lv H ws vs → RelFs K Lv H ((k, w) :: ws) ((k, v) :: vs)
end
/-- what is not live stays, and stays not live -/
def Mv (Lv : Addr → Prop) (H : Hp) (Lv' : Addr → Prop) (H' : Hp) : Prop := ∀ a u, H a = some u → ¬ Lv a → H' a = some u ∧ ¬ Lv' a
section
variable {K : PySem.W.Frag} {Lv Lv' : Addr → Prop} {H H' : Hp}
theorem FzL.mono (m : Mv Lv H Lv' H') {a : Addr} {xs : List V} (h : FzL Lv H a xs) : FzL Lv' H' a xs := m _ _ h.1 h.2
theorem FzS.mono (m : Mv Lv H Lv' H') {a : Addr} {xs : List V} (h : FzS K Lv H a xs) : FzS K Lv' H' a xs := by
  rcases h with ⟨⟨o, h⟩, n⟩ | h | h
  · exact .inl ⟨⟨o, (m _ _ h n).1⟩, (m _ _ h n).2⟩
  · exact .inr (.inl (h.mono m))
  · exact .inr (.inr h)
theorem FzT.mono (m : Mv Lv H Lv' H') {a : Addr} {xs : List V} (h : FzT K Lv H a xs) : FzT K Lv' H' a xs := by
  rcases h with ⟨h, n⟩ | h
  · exact .inl ⟨(m _ _ h n).1, (m _ _ h n).2⟩
  · exact .inr h
mutual
theorem RelW.mono (m : Mv Lv H Lv' H') : ∀ {w : W} {v : V}, RelW K Lv H w v → RelW K Lv' H' w v
  | _, _, .non => .non
  | _, _, .bl b => .bl b
  | _, _, .int i => .int i
  | _, _, .str x => .str x
  | _, _, .ty n => .ty n
  | _, _, .ref a => .ref a
  | _, _, .glo n => .glo n
  | _, _, .tup h r => .tup (h.mono m) (RelWs.mono m r)
  | _, _, .lst h r => .lst (h.mono m) (RelWs.mono m r)
  | _, _, .scr h => .scr (h.mono m)
  | _, _, .dct h n r => .dct (m _ _ h n).1 (m _ _ h n).2 (RelKs.mono m r)
  | _, _, .obj h n r => .obj (m _ _ h n).1 (m _ _ h n).2 (RelFs.mono m r)
  | _, _, .dcT h n r => .dcT (m _ _ h n).1 (m _ _ h n).2 (RelTs.mono m r)
  | _, _, .exn0 => .exn0
  | _, _, .exn1 h n r => .exn1 (m _ _ h n).1 (m _ _ h n).2 (RelFs.mono m r)
theorem RelWs.mono (m : Mv Lv H Lv' H') : ∀ {ws : List W} {vs : List V}, RelWs K Lv H ws vs → RelWs K Lv' H' ws vs
  | _, _, .nil => .nil
  | _, _, .cons h r => .cons (RelW.mono m h) (RelWs.mono m r)
theorem RelKs.mono (m : Mv Lv H Lv' H') : ∀ {ws : List (Key × W)} {vs : List (Key × V)}, RelKs K Lv H ws vs → RelKs K Lv' H' ws vs
  | _, _, .nil => .nil
  | _, _, .cons h r => .cons (RelW.mono m h) (RelKs.mono m r)
theorem RelTs.mono (m : Mv Lv H Lv' H') : ∀ {ws : List (List Key × W)} {vs : List (List Key × V)}, RelTs K Lv H ws vs → RelTs K Lv' H' ws vs
  | _, _, .nil => .nil
  | _, _, .cons h r => .cons (RelW.mono m h) (RelTs.mono m r)
theorem RelFs.mono (m : Mv Lv H Lv' H') : ∀ {ws : List (Str × W)} {vs : List (Str × V)}, RelFs K Lv H ws vs → RelFs K Lv' H' ws vs
  | _, _, .nil => .nil
  | _, _, .cons h r => .cons (RelW.mono m h) (RelFs.mono m r)
end
theorem RelWs.length : ∀ {ws : List W} {vs : List V}, RelWs K Lv H ws vs → ws.length = vs.length
  | _, _, .nil => rfl
  | _, _, .cons _ r => congrArg Nat.succ (RelWs.length r)
theorem RelWs.get : ∀ {ws : List W} {vs : List V} {i : Nat} {w : W}, RelWs K Lv H ws vs → ws[i]? = some w → ∃ v, vs[i]? = some v ∧ RelW K Lv H w v
  | _, _, _, _, .nil, e => by simp at e
  | _, _, 0, _, .cons h _, e => by
    have e2 := Option.some.inj e
    subst e2
    exact ⟨_, rfl, h⟩
  | _, _, i + 1, w, .cons _ r, e => RelWs.get (i := i) r (by simpa using e)
theorem RelWs.append : ∀ {ws ws' : List W} {vs vs' : List V}, RelWs K Lv H ws vs → RelWs K Lv H ws' vs' → RelWs K Lv H (ws ++ ws') (vs ++ vs')
  | _, _, _, _, .nil, s => s
  | _, _, _, _, .cons h r, s => .cons h (RelWs.append r s)
end
/-- the name of a lambda of a def -/
def lamN (d : Str) : Str := d ++ ".<locals>." ++ "<lambda>"
/-- the table of the lambdas of the def d -/
def TabO (K : PySem.W.Frag) (Lv : Addr → Prop) (H : Hp) (a : Addr) (d : Str) : Prop := a = (He.cT K (d, none)).2 ∧ ∃ ps : Array Value, H a = some (.tbl ps) ∧ TriplesOk ps.toList ∧ ∀ (pos : Pos) (cv : Value), codeAmong pos ps.toList = some cv → ∃ c, cv = .ref c ∧ H c = some (LamX.CodeO c (lamN d)) ∧ ¬ Lv c
/-- what stands at an address that may be written -/
def RelO (K : PySem.W.Frag) (Lv : Addr → Prop) (H : Hp) (a : Addr) : SO → Prop
  | .lst ws => ∃ vs, H a = some (.lst vs) ∧ RelWs K Lv H ws vs
  | .dct kvs => ∃ vs, H a = some (.dK vs) ∧ RelKs K Lv H kvs vs
  | .dcT kvs => ∃ vs, H a = some (.dT vs) ∧ RelTs K Lv H kvs vs
  | .ins C fs => ∃ dx vs, H a = some (.ins (He.ga K C) dx vs) ∧ RelFs K Lv H fs vs
  | .tbl b d => a = b ∧ TabO K Lv H a d
theorem RelO.at {K : PySem.W.Frag} {Lv : Addr → Prop} {H : Hp} {a : Addr} {o : SO} (h : RelO K Lv H a o) : ∃ u, H a = some u := by
  cases o with
  | lst ws => obtain ⟨vs, e, _⟩ := h; exact ⟨_, e⟩
  | dct ws => obtain ⟨vs, e, _⟩ := h; exact ⟨_, e⟩
  | dcT ws => obtain ⟨vs, e, _⟩ := h; exact ⟨_, e⟩
  | ins C ws => obtain ⟨dx, vs, e, _⟩ := h; exact ⟨_, e⟩
  | tbl b d => obtain ⟨_, _, ps, e, _⟩ := h; exact ⟨_, e⟩
theorem RelO.move {K : PySem.W.Frag} {Lv Lv' : Addr → Prop} {H H' : Hp} {a : Addr} {o : SO} (h : RelO K Lv H a o) (e : ∀ u, H a = some u → H' a = some u) (m : Mv Lv H Lv' H') : RelO K Lv' H' a o := by
  cases o with
  | lst ws => obtain ⟨vs, q, r⟩ := h; exact ⟨vs, e _ q, r.mono m⟩
  | dct ws => obtain ⟨vs, q, r⟩ := h; exact ⟨vs, e _ q, r.mono m⟩
  | dcT ws => obtain ⟨vs, q, r⟩ := h; exact ⟨vs, e _ q, r.mono m⟩
  | ins C ws => obtain ⟨dx, vs, q, r⟩ := h; exact ⟨dx, vs, e _ q, r.mono m⟩
  | tbl b d =>
    obtain ⟨e0, e1, ps, q, r1, r2⟩ := h
    refine ⟨e0, e1, ps, e _ q, r1, fun pos cv hc => ?_⟩
    obtain ⟨c, e2, e3, e4⟩ := r2 pos cv hc
    exact ⟨c, e2, (m _ _ e3 e4).1, (m _ _ e3 e4).2⟩
theorem RelO.fz {K : PySem.W.Frag} {Lv : Addr → Prop} {H : Hp} {a : Addr} {o : SO} (h : RelO K Lv H a o) (n : ¬ Lv a) : RelW K Lv H o.fz (.ref a) := by
  cases o with
  | lst ws => obtain ⟨vs, q, r⟩ := h; exact .lst ⟨q, n⟩ r
  | dct ws => obtain ⟨vs, q, r⟩ := h; exact .dct q n r
  | dcT ws => obtain ⟨vs, q, r⟩ := h; exact .dcT q n r
  | ins C ws => obtain ⟨dx, vs, q, r⟩ := h; exact .obj q n r
  | tbl b d => obtain ⟨e0, _⟩ := h; rw [e0]; exact .ref b

/-- the addresses of the objects that slots own -/
def Ow (ρ : List Slot) (σ : St) (a : Addr) : Prop := ∃ (i : Nat) (o : SO), ρ[i]? = some (.own o) ∧ σ[i]? = some (some (.ref a))
/-- may be written by us -/
def Wr (st : Stt) (σ : St) (a : Addr) : Prop := st.S a ≠ none ∨ Ow st.ρ σ a
def Live (F : Addr → Prop) (st : Stt) (σ : St) (a : Addr) : Prop := Wr st σ a ∨ F a
structure Lk (K : PySem.W.Frag) (F : Addr → Prop) (st : Stt) (σ : St) (H : Hp) : Prop where
  len : st.ρ.length = σ.length
  val : ∀ (i : Nat) (w : W), st.ρ[i]? = some (.val w) → ∃ v, σ[i]? = some (some v) ∧ RelW K (Live F st σ) H w v
  own : ∀ (i : Nat) (o : SO), st.ρ[i]? = some (.own o) → ∃ a, σ[i]? = some (some (.ref a)) ∧ RelO K (Live F st σ) H a o ∧ st.S a = none ∧ ¬ F a
  inj : ∀ (i j : Nat) (o o' : SO) (a : Addr), st.ρ[i]? = some (.own o) → st.ρ[j]? = some (.own o') → σ[i]? = some (some (.ref a)) → σ[j]? = some (some (.ref a)) → i = j
  sto : ∀ a o, st.S a = some o → RelO K (Live F st σ) H a o
  ftr : ∀ a, F a → ∃ u, H a = some u
  fdis : ∀ a, F a → st.S a = none
structure Step (st : Stt) (σ : St) (H : Hp) (st' : Stt) (σ' : St) (H' : Hp) : Prop where
  keep : ∀ a u, H a = some u → ¬ Wr st σ a → H' a = some u
  new : ∀ a, Wr st' σ' a → Wr st σ a ∨ H a = none
theorem Step.refl {st : Stt} {σ : St} {H : Hp} : Step st σ H st σ H := ⟨fun _ _ e _ => e, fun _ w => .inl w⟩
theorem Step.trans {st st1 st2 : Stt} {σ σ1 σ2 : St} {H H1 H2 : Hp} (a : Step st σ H st1 σ1 H1) (b : Step st1 σ1 H1 st2 σ2 H2) : Step st σ H st2 σ2 H2 := by
  refine ⟨fun x u e n => b.keep x u (a.keep x u e n) fun w => ?_, fun x w => ?_⟩
  · rcases a.new x w with z | z
    · exact n z
    · rw [e] at z; cases z
  · rcases b.new x w with z | z
    · exact a.new x z
    · by_cases h : Wr st σ x
      · exact .inl h
      · cases e : H x with
        | none => exact .inr rfl
        | some u =>
          rw [a.keep x u e h] at z
          cases z
theorem Step.mv {F : Addr → Prop} {st st' : Stt} {σ σ' : St} {H H' : Hp} (s : Step st σ H st' σ' H') : Mv (Live F st σ) H (Live F st' σ') H' := fun a u e n =>
  ⟨s.keep a u e fun w => n (.inl w), fun l => by
    rcases l with l | l
    · rcases s.new a l with z | z
      · exact n (.inl z)
      · rw [e] at z; cases z
    · exact n (.inr l)⟩
section
variable {K : PySem.W.Frag} {F : Addr → Prop} {st st' : Stt} {σ σ' : St} {H H' : Hp}
theorem Lk.wtr (l : Lk K F st σ H) {a : Addr} (w : Wr st σ a) : ∃ u, H a = some u := by
  rcases w with w | ⟨i, o, e1, e2⟩
  · cases e : st.S a with
    | none => exact absurd e w
    | some o => exact (l.sto a o e).at
  · obtain ⟨b, e3, r, _⟩ := l.own i o e1
    rw [e2] at e3
    cases e3
    exact r.at
theorem Lk.fresh (l : Lk K F st σ H) {a : Addr} (e : H a = none) : ¬ Live F st σ a := fun z => by
  rcases z with z | z
  · obtain ⟨u, q⟩ := l.wtr z
    rw [e] at q; cases q
  · obtain ⟨u, q⟩ := l.ftr a z
    rw [e] at q; cases q
/-- a new object, tracked, that is nobody's -/
theorem Step.laid (l : Lk K F st σ H) {p : Addr} {o : HO} (e : H p = none) : Step st σ H st σ (upd H p o) :=
  ⟨fun a u q _ => by rw [upd_ne (ne_of_none q e)]; exact q, fun _ w => .inl w⟩
theorem Lk.laid (l : Lk K F st σ H) {p : Addr} {o : HO} (e : H p = none) : Lk K F st σ (upd H p o) := by
  have s : Step st σ H st σ (upd H p o) := Step.laid l e
  have k : ∀ a u, H a = some u → upd H p o a = some u := fun a u q => by rw [upd_ne (ne_of_none q e)]; exact q
  refine ⟨l.len, fun i w q => ?_, fun i o q => ?_, l.inj, fun a o q => (l.sto a o q).move (k a) s.mv, fun a q => ?_, l.fdis⟩
  · obtain ⟨v, e1, r⟩ := l.val i w q
    exact ⟨v, e1, r.mono s.mv⟩
  · obtain ⟨a, e1, r, n1, n2⟩ := l.own i o q
    exact ⟨a, e1, r.move (k a) s.mv, n1, n2⟩
  · obtain ⟨u, z⟩ := l.ftr a q
    exact ⟨u, k a u z⟩
theorem FzT.new (l : Lk K F st σ H) {p : Addr} {vs : List V} (e : H p = none) : FzT K (Live F st σ) (upd H p (.tup vs)) p vs := .inl ⟨upd_same, l.fresh e⟩
theorem FzL.new (l : Lk K F st σ H) {p : Addr} {vs : List V} (e : H p = none) : FzL (Live F st σ) (upd H p (.lst vs)) p vs := ⟨upd_same, l.fresh e⟩
/-- fewer are foreign -/
theorem Lk.less {F' : Addr → Prop} (l : Lk K F st σ H) (h : ∀ a, F' a → F a) : Lk K F' st σ H := by
  have m : Mv (Live F st σ) H (Live F' st σ) H := fun a u e n => ⟨e, fun z => n (z.imp id (h a))⟩
  refine ⟨l.len, fun i w q => ?_, fun i o q => ?_, l.inj, fun a o q => (l.sto a o q).move (fun _ e => e) m, fun a q => l.ftr a (h a q), fun a q => l.fdis a (h a q)⟩
  · obtain ⟨v, e1, r⟩ := l.val i w q
    exact ⟨v, e1, r.mono m⟩
  · obtain ⟨a, e1, r, n1, n2⟩ := l.own i o q
    exact ⟨a, e1, r.move (fun _ e => e) m, n1, fun z => n2 (h a z)⟩
end
end Sh
namespace Sh
open PySem L2

structure Exn where
  C : Str
  fs : List (Str × W)
abbrev XI := Exn → Stt → Prop
abbrev IE := XI → Stt → (W → Stt → Prop) → Prop
abbrev IN := XI → Stt → (SO → Stt → Prop) → Prop
abbrev IT := XI → Stt → (Bool → Stt → Prop) → Prop
abbrev IA := XI → Stt → (List W → Stt → Prop) → Prop
structure IEnds where
  nx : Stt → Prop
  rt : R → Sto → Prop
  bk : Stt → Prop := fun _ => False
  ct : Stt → Prop := fun _ => False
abbrev IS := XI → IEnds → Stt → Prop
abbrev ISp := List W → Sto → (R → Sto → Prop) → (Exn → Sto → Prop) → Prop

/-- nobody else can know it -/
def NewAt (st : Stt) (σ : St) (H : Hp) (a : Addr) : Prop := Wr st σ a ∨ H a = none
def FA (F : Addr → Prop) (a : Addr) : Addr → Prop := fun b => F b ∨ b = a
def RelX (K : PySem.W.Frag) (Lv : Addr → Prop) (H : Hp) (x : Exn) (cls : Value) (d : Option Addr) : Prop :=
  cls = .ref (He.ga K x.C) ∧ ((x.fs = [] ∧ d = none) ∨ ∃ a vs, d = some a ∧ H a = some (.xd vs) ∧ ¬ Lv a ∧ RelFs K Lv H x.fs vs)
/-- an error leaves an expression: the slots are as they were -/
def UpX (K : PySem.W.Frag) (F : Addr → Prop) (Wx : WX) (st : Stt) (σ : St) (H : Hp) (EI : XI) : Prop :=
  ∀ x st' cls d H', EI x st' → Lk K F st' σ H' → Step st σ H st' σ H' → RelX K (Live F st' σ) H' x cls d → Wx cls d σ H'
/-- an error leaves a statement -/
def UpXs (K : PySem.W.Frag) (F : Addr → Prop) (Wx : WX) (st : Stt) (σ : St) (H : Hp) (EI : XI) : Prop :=
  ∀ x st' σ' cls d H', EI x st' → Lk K F st' σ' H' → Step st σ H st' σ' H' → RelX K (Live F st' σ') H' x cls d → Wx cls d σ' H'
def LE (K : PySem.W.Frag) (F : Addr → Prop) (Wx : WX) (i : IE) : TE := fun σ H Q => ∃ st QI EI, Lk K F st σ H ∧ i EI st QI ∧ UpX K F Wx st σ H EI ∧
  ∀ w st' v H', QI w st' → Lk K F st' σ H' → Step st σ H st' σ H' → RelW K (Live F st' σ) H' w v → Q v H'
def LT (K : PySem.W.Frag) (F : Addr → Prop) (Wx : WX) (i : IT) : TT := fun σ H Q => ∃ st QI EI, Lk K F st σ H ∧ i EI st QI ∧ UpX K F Wx st σ H EI ∧
  ∀ b st' H', QI b st' → Lk K F st' σ H' → Step st σ H st' σ H' → Q b H'
def LA (K : PySem.W.Frag) (F : Addr → Prop) (Wx : WX) (n : Nat) (i : IA) : TA := fun σ H Q => ∃ st QI EI, Lk K F st σ H ∧ i EI st QI ∧ UpX K F Wx st σ H EI ∧
  ∀ ws st' vs H', ws.length = n → QI ws st' → Lk K F st' σ H' → Step st σ H st' σ H' → RelWs K (Live F st' σ) H' ws vs → Q vs H'
def LN (K : PySem.W.Frag) (F : Addr → Prop) (Wx : WX) (i : IN) : TE := fun σ H Q => ∃ st QI EI, Lk K F st σ H ∧ i EI st QI ∧ UpX K F Wx st σ H EI ∧
  ∀ o st' a H', QI o st' → Lk K (FA F a) st' σ H' → Step st σ H st' σ H' → RelO K (Live (FA F a) st' σ) H' a o → NewAt st σ H a → Q (.ref a) H'
def RetOk (K : PySem.W.Frag) (F : Addr → Prop) (st : Stt) (σ : St) (H : Hp) (r : R) (S' : Sto) (v : V) (H' : Hp) : Prop :=
  Step st σ H ⟨[], S'⟩ [] H' ∧ match r with
    | .val w => Lk K F ⟨[], S'⟩ [] H' ∧ RelW K (Live F ⟨[], S'⟩ []) H' w v
    | .new o => ∃ a, v = .ref a ∧ Lk K (FA F a) ⟨[], S'⟩ [] H' ∧ RelO K (Live (FA F a) ⟨[], S'⟩ []) H' a o ∧ NewAt st σ H a
structure Up (K : PySem.W.Frag) (F : Addr → Prop) (Wx : WX) (st : Stt) (σ : St) (H : Hp) (EI : XI) (DI : IEnds) (D : Ends) : Prop where
  xs : UpXs K F Wx st σ H EI
  nx : ∀ st' σ' H', DI.nx st' → Lk K F st' σ' H' → Step st σ H st' σ' H' → D.nx σ' H'
  bk : ∀ st' σ' H', DI.bk st' → Lk K F st' σ' H' → Step st σ H st' σ' H' → D.bk σ' H'
  ct : ∀ st' σ' H', DI.ct st' → Lk K F st' σ' H' → Step st σ H st' σ' H' → D.ct σ' H'
  rt : ∀ r S' v H', DI.rt r S' → RetOk K F st σ H r S' v H' → D.rt v H'
def LS (K : PySem.W.Frag) (F : Addr → Prop) (Wx : WX) (i : IS) : TS := fun D σ H => ∃ st DI EI, Lk K F st σ H ∧ i EI DI st ∧ Up K F Wx st σ H EI DI D

section
variable {K : PySem.W.Frag} {F : Addr → Prop} {Wx : WX} {st st1 : Stt} {σ σ1 : St} {H H1 : Hp} {EI : XI} {DI : IEnds} {D : Ends}
theorem UpX.step (u : UpX K F Wx st σ H EI) (s : Step st σ H st1 σ H1) : UpX K F Wx st1 σ H1 EI := fun x st' cls d H' e l s' r => u x st' cls d H' e l (s.trans s') r
theorem UpXs.step (u : UpXs K F Wx st σ H EI) (s : Step st σ H st1 σ1 H1) : UpXs K F Wx st1 σ1 H1 EI := fun x st' σ' cls d H' e l s' r => u x st' σ' cls d H' e l (s.trans s') r
theorem Up.x (u : Up K F Wx st σ H EI DI D) : UpX K F Wx st σ H EI := fun x st' cls d H' e l s r => u.xs x st' σ cls d H' e l s r
theorem NewAt.step {a : Addr} (s : Step st σ H st1 σ1 H1) (h : NewAt st1 σ1 H1 a) : NewAt st σ H a := by
  rcases h with h | h
  · exact s.new a h
  · by_cases w : Wr st σ a
    · exact .inl w
    · cases q : H a with
      | none => exact .inr q
      | some u =>
        rw [s.keep a u q w] at h
        cases h
theorem NewAt.nf {a : Addr} (l : Lk K F st σ H) (h : NewAt st σ H a) : ¬ F a := fun z => by
  rcases h with (h | ⟨i, o, e1, e2⟩) | h
  · exact h (l.fdis a z)
  · obtain ⟨b, e3, _, _, n⟩ := l.own i o e1
    rw [e2] at e3
    cases e3
    exact n z
  · obtain ⟨u, q⟩ := l.ftr a z
    rw [h] at q
    cases q
theorem RetOk.step {r : R} {S' : Sto} {v : V} {H' : Hp} (s : Step st σ H st1 σ1 H1) (h : RetOk K F st1 σ1 H1 r S' v H') : RetOk K F st σ H r S' v H' := by
  obtain ⟨s', h⟩ := h
  refine ⟨s.trans s', ?_⟩
  cases r with
  | val w => exact h
  | new o =>
    obtain ⟨a, e, l, r, n⟩ := h
    exact ⟨a, e, l, r, n.step s⟩
theorem Up.step (u : Up K F Wx st σ H EI DI D) (s : Step st σ H st1 σ1 H1) : Up K F Wx st1 σ1 H1 EI DI D :=
  ⟨u.xs.step s, fun st' σ' H' q l s' => u.nx st' σ' H' q l (s.trans s'), fun st' σ' H' q l s' => u.bk st' σ' H' q l (s.trans s'), fun st' σ' H' q l s' => u.ct st' σ' H' q l (s.trans s'), fun r S' v H' q h => u.rt r S' v H' q (h.step s)⟩

def Stt.put (st : Stt) (i : Nat) (x : Slot) : Stt := { st with ρ := st.ρ.set i x }
theorem get_set {α : Type} {l : List α} {i j : Nat} {x y : α} (h : (l.set i x)[j]? = some y) : (j = i ∧ y = x ∧ i < l.length) ∨ (j ≠ i ∧ l[j]? = some y) := by
  by_cases e : j = i
  · subst e
    rw [List.getElem?_set_self'] at h
    cases q : l[j]? with
    | none =>
      rw [q] at h
      cases h
    | some z =>
      rw [q] at h
      exact .inl ⟨rfl, (Option.some.inj h).symm, (List.getElem?_eq_some_iff.mp q).1⟩
  · rw [List.getElem?_set_ne (Ne.symm e)] at h
    exact .inr ⟨e, h⟩
theorem set_get {α : Type} {l : List α} {i : Nat} {x : α} (h : i < l.length) : (l.set i x)[i]? = some x := by simp [h]
/-- a slot takes a value -/
theorem Ow.put {ρ : List Slot} {i : Nat} {w : W} {v : V} {a : Addr} (h : Ow (ρ.set i (.val w)) (σ.set i (some v)) a) : Ow ρ σ a := by
  obtain ⟨j, o, e1, e2⟩ := h
  rcases get_set e1 with ⟨_, z, _⟩ | ⟨n, e1⟩
  · cases z
  · rw [List.getElem?_set_ne (Ne.symm n)] at e2
    exact ⟨j, o, e1, e2⟩
theorem Step.put {i : Nat} {w : W} {v : V} : Step st σ H (st.put i (.val w)) (σ.set i (some v)) H :=
  ⟨fun _ _ e _ => e, fun a h => .inl (h.imp id Ow.put)⟩
theorem Lk.put (l : Lk K F st σ H) {i : Nat} {w : W} {v : V} (r : RelW K (Live F st σ) H w v) : Lk K F (st.put i (.val w)) (σ.set i (some v)) H := by
  have s : Step st σ H (st.put i (.val w)) (σ.set i (some v)) H := Step.put
  refine ⟨by simp [Stt.put, l.len], fun j y e => ?_, fun j o e => ?_, fun j k o o' a e1 e2 e3 e4 => ?_, fun a o e => (l.sto a o e).move (fun _ q => q) s.mv, l.ftr, l.fdis⟩
  · rcases get_set e with ⟨rfl, z, b⟩ | ⟨n, e⟩
    · cases z
      exact ⟨v, set_get (by rw [← l.len]; exact b), r.mono s.mv⟩
    · obtain ⟨u, e1, r1⟩ := l.val j y e
      exact ⟨u, by rw [List.getElem?_set_ne (Ne.symm n)]; exact e1, r1.mono s.mv⟩
  · rcases get_set e with ⟨_, z, _⟩ | ⟨n, e⟩
    · cases z
    · obtain ⟨a, e1, r1, n1, n2⟩ := l.own j o e
      exact ⟨a, by rw [List.getElem?_set_ne (Ne.symm n)]; exact e1, r1.move (fun _ q => q) s.mv, n1, n2⟩
  · rcases get_set e1 with ⟨_, z, _⟩ | ⟨n, e1⟩
    · cases z
    · rcases get_set e2 with ⟨_, z, _⟩ | ⟨m, e2⟩
      · cases z
      · rw [List.getElem?_set_ne (Ne.symm n)] at e3
        rw [List.getElem?_set_ne (Ne.symm m)] at e4
        exact l.inj j k o o' a e1 e2 e3 e4
/-- a slot is forgotten -/
theorem Lk.wipe (l : Lk K F st σ H) {i : Nat} {x : Option V} : Lk K F (st.put i .none) (σ.set i x) H ∧ Step st σ H (st.put i .none) (σ.set i x) H := by
  have ow : ∀ a, Ow (st.put i .none).ρ (σ.set i x) a → Ow st.ρ σ a := fun a h => by
    obtain ⟨j, o, e1, e2⟩ := h
    rcases get_set e1 with ⟨_, z, _⟩ | ⟨n, e1⟩
    · cases z
    · rw [List.getElem?_set_ne (Ne.symm n)] at e2
      exact ⟨j, o, e1, e2⟩
  have s : Step st σ H (st.put i .none) (σ.set i x) H := ⟨fun _ _ e _ => e, fun a h => .inl (h.imp id (ow a))⟩
  refine ⟨⟨by simp [Stt.put, l.len], fun j y e => ?_, fun j o e => ?_, fun j k o o' a e1 e2 e3 e4 => ?_, fun a o e => (l.sto a o e).move (fun _ q => q) s.mv, l.ftr, l.fdis⟩, s⟩
  · rcases get_set e with ⟨rfl, z, b⟩ | ⟨n, e⟩
    · cases z
    · obtain ⟨u, e1, r1⟩ := l.val j y e
      exact ⟨u, by rw [List.getElem?_set_ne (Ne.symm n)]; exact e1, r1.mono s.mv⟩
  · rcases get_set e with ⟨_, z, _⟩ | ⟨n, e⟩
    · cases z
    · obtain ⟨a, e1, r1, n1, n2⟩ := l.own j o e
      exact ⟨a, by rw [List.getElem?_set_ne (Ne.symm n)]; exact e1, r1.move (fun _ q => q) s.mv, n1, n2⟩
  · rcases get_set e1 with ⟨_, z, _⟩ | ⟨n, e1⟩
    · cases z
    · rcases get_set e2 with ⟨_, z, _⟩ | ⟨m, e2⟩
      · cases z
      · rw [List.getElem?_set_ne (Ne.symm n)] at e3
        rw [List.getElem?_set_ne (Ne.symm m)] at e4
        exact l.inj j k o o' a e1 e2 e3 e4
/-- an owned object is given free for reading, never to be written again -/
theorem Lk.freeze (l : Lk K F st σ H) {i : Nat} {o : SO} (e : st.ρ[i]? = some (.own o)) : Lk K F (st.put i (.val o.fz)) σ H ∧ Step st σ H (st.put i (.val o.fz)) σ H := by
  obtain ⟨a, ea, ra, na, nf⟩ := l.own i o e
  have hσ : σ.set i (some (.ref a)) = σ := by
    apply List.ext_getElem?
    intro j
    by_cases q : j = i
    · subst q
      rw [List.getElem?_set_self', ea]
      rfl
    · rw [List.getElem?_set_ne (Ne.symm q)]
  have s : Step st σ H (st.put i (.val o.fz)) σ H := by
    have z := Step.put (st := st) (σ := σ) (H := H) (i := i) (w := o.fz) (v := .ref a)
    rw [hσ] at z
    exact z
  have nl : ¬ Live F (st.put i (.val o.fz)) σ a := fun z => by
    rcases z with (z | ⟨j, o', e1, e2⟩) | z
    · exact z na
    · rcases get_set e1 with ⟨_, z, _⟩ | ⟨n, e1⟩
      · cases z
      · exact n (l.inj j i o' o a e1 e e2 ea)
    · exact nf z
  refine ⟨⟨by simp [Stt.put, l.len], fun j y q => ?_, fun j o' q => ?_, fun j k o1 o2 b e1 e2 e3 e4 => ?_, fun b o' q => (l.sto b o' q).move (fun _ q => q) s.mv, l.ftr, l.fdis⟩, s⟩
  · rcases get_set q with ⟨rfl, z, b⟩ | ⟨n, q⟩
    · cases z
      exact ⟨.ref a, ea, (ra.move (fun _ z => z) s.mv).fz nl⟩
    · obtain ⟨u, e1, r1⟩ := l.val j y q
      exact ⟨u, e1, r1.mono s.mv⟩
  · rcases get_set q with ⟨_, z, _⟩ | ⟨n, q⟩
    · cases z
    · obtain ⟨b, e1, r1, n1, n2⟩ := l.own j o' q
      exact ⟨b, e1, r1.move (fun _ q => q) s.mv, n1, n2⟩
  · rcases get_set e1 with ⟨_, z, _⟩ | ⟨n, e1⟩
    · cases z
    · rcases get_set e2 with ⟨_, z, _⟩ | ⟨m, e2⟩
      · cases z
      · exact l.inj j k o1 o2 b e1 e2 e3 e4
/-- a new object goes into a slot -/
theorem Lk.keepNew {a : Addr} {o : SO} {i : Nat} (l : Lk K (FA F a) st σ H) (r : RelO K (Live (FA F a) st σ) H a o) (nF : ¬ F a) : Lk K F (st.put i (.own o)) (σ.set i (some (.ref a))) H := by
  have ow : ∀ b, Ow (st.put i (.own o)).ρ (σ.set i (some (.ref a))) b → Ow st.ρ σ b ∨ b = a := fun b h => by
    obtain ⟨j, o', e1, e2⟩ := h
    rcases get_set e1 with ⟨rfl, _, b⟩ | ⟨n, e1⟩
    · rw [set_get (by rw [← l.len]; exact b)] at e2
      cases e2
      exact .inr rfl
    · rw [List.getElem?_set_ne (Ne.symm n)] at e2
      exact .inl ⟨j, o', e1, e2⟩
  have m : Mv (Live (FA F a) st σ) H (Live F (st.put i (.own o)) (σ.set i (some (.ref a)))) H := fun b u e n => ⟨e, fun z => n (by
    rcases z with (z | z) | z
    · exact .inl (.inl z)
    · rcases ow b z with z | z
      · exact .inl (.inr z)
      · exact .inr (.inr z)
    · exact .inr (.inl z))⟩
  have nS : st.S a = none := l.fdis a (.inr rfl)
  have nO : ∀ (j : Nat) (o' : SO), st.ρ[j]? = some (.own o') → σ[j]? = some (some (.ref a)) → False := fun j o' e1 e2 => by
    obtain ⟨b, e3, _, _, n⟩ := l.own j o' e1
    rw [e2] at e3
    cases e3
    exact n (.inr rfl)
  refine ⟨by simp [Stt.put, l.len], fun j y q => ?_, fun j o' q => ?_, fun j k o1 o2 b e1 e2 e3 e4 => ?_, fun b o' q => (l.sto b o' q).move (fun _ q => q) m, fun b q => l.ftr b (.inl q), fun b q => l.fdis b (.inl q)⟩
  · rcases get_set q with ⟨_, z, _⟩ | ⟨n, q⟩
    · cases z
    · obtain ⟨u, e1, r1⟩ := l.val j y q
      exact ⟨u, by rw [List.getElem?_set_ne (Ne.symm n)]; exact e1, r1.mono m⟩
  · rcases get_set q with ⟨rfl, z, b⟩ | ⟨n, q⟩
    · cases z
      refine ⟨a, set_get (by rw [← l.len]; exact b), r.move (fun _ q => q) m, nS, nF⟩
    · obtain ⟨b, e1, r1, n1, n2⟩ := l.own j o' q
      exact ⟨b, by rw [List.getElem?_set_ne (Ne.symm n)]; exact e1, r1.move (fun _ q => q) m, n1, fun z => n2 (.inl z)⟩
  · rcases get_set e1 with ⟨q1, z1, b1⟩ | ⟨n, e1⟩
    · rw [q1, set_get (by rw [← l.len]; exact b1)] at e3
      cases e3
      rcases get_set e2 with ⟨q2, z, _⟩ | ⟨m', e2⟩
      · rw [q1, q2]
      · rw [List.getElem?_set_ne (Ne.symm m')] at e4
        exact (nO _ _ e2 e4).elim
    · rw [List.getElem?_set_ne (Ne.symm n)] at e3
      rcases get_set e2 with ⟨q2, z, b2⟩ | ⟨m', e2⟩
      · rw [q2, set_get (by rw [← l.len]; exact b2)] at e4
        cases e4
        exact (nO _ _ e1 e3).elim
      · rw [List.getElem?_set_ne (Ne.symm m')] at e4
        exact l.inj j k o1 o2 b e1 e2 e3 e4
end
end Sh
namespace Sh
open PySem L2
open PyProof.Rows hiding St
section
variable {K : PySem.W.Frag} {F : Addr → Prop} {Wx : WX} {st st1 : Stt} {σ σ1 : L2.St} {H H1 : Hp} {EI : XI} {DI : IEnds} {D : Ends}
def Sto.put (S : Sto) (a : Addr) (o : SO) : Sto := fun b => if b = a then some o else S b
theorem Sto.put_same {S : Sto} {a : Addr} {o : SO} : S.put a o a = some o := if_pos rfl
theorem Sto.put_ne {S : Sto} {a b : Addr} {o : SO} (h : b ≠ a) : S.put a o b = S b := if_neg h
def Stt.puts (st : Stt) (a : Addr) (o : SO) : Stt := { st with S := st.S.put a o }
/-- what is written at a live address touches nothing that is frozen -/
theorem Mv.write {a : Addr} {u : HO} {Lv Lv' : Addr → Prop} (la : Lv a) (h : ∀ b, Lv' b → Lv b) : Mv Lv H Lv' (upd H a u) := fun b z e n =>
  ⟨(upd_ne (show b ≠ a from fun q => n (by rw [q]; exact la))).trans e, fun q => n (h b q)⟩
/-- an owned object is written -/
theorem Lk.write (l : Lk K F st σ H) {i : Nat} {o o' : SO} {a : Addr} {u : HO} (e : st.ρ[i]? = some (.own o)) (ea : σ[i]? = some (some (.ref a)))
    (r : RelO K (Live F st σ) (upd H a u) a o') : Lk K F (st.put i (.own o')) σ (upd H a u) ∧ Step st σ H (st.put i (.own o')) σ (upd H a u) := by
  have ow : ∀ b, Ow (st.put i (.own o')).ρ σ b → Ow st.ρ σ b := fun b h => by
    obtain ⟨j, q, e1, e2⟩ := h
    rcases get_set e1 with ⟨rfl, _, _⟩ | ⟨n, e1⟩
    · exact ⟨j, o, e, e2⟩
    · exact ⟨j, q, e1, e2⟩
  have lv : ∀ b, Live F (st.put i (.own o')) σ b → Live F st σ b := fun b z => z.imp (fun w => w.imp id (ow b)) id
  have la : Live F st σ a := .inl (.inr ⟨i, o, e, ea⟩)
  have m : Mv (Live F st σ) H (Live F (st.put i (.own o')) σ) (upd H a u) := Mv.write la lv
  have m2 : Mv (Live F st σ) (upd H a u) (Live F (st.put i (.own o')) σ) (upd H a u) := fun b z q n => ⟨q, fun w => n (lv b w)⟩
  obtain ⟨a', ea', _, na, nf⟩ := l.own i o e
  rw [ea] at ea'
  cases ea'
  refine ⟨⟨by simp [Stt.put, l.len], fun j y q => ?_, fun j q z => ?_, fun j k o1 o2 b e1 e2 e3 e4 => ?_, fun b q z => ?_, fun b z => ?_, l.fdis⟩, ⟨fun b z q n => ?_, fun b z => .inl (z.imp id (ow b))⟩⟩
  · rcases get_set q with ⟨_, z, _⟩ | ⟨n, q⟩
    · cases z
    · obtain ⟨v, e1, r1⟩ := l.val j y q
      exact ⟨v, e1, r1.mono m⟩
  · rcases get_set z with ⟨rfl, z, _⟩ | ⟨n, z⟩
    · cases z
      exact ⟨a, ea, r.move (fun _ q => q) m2, na, nf⟩
    · obtain ⟨b, e1, r1, n1, n2⟩ := l.own j q z
      have nb : b ≠ a := fun q' => n (l.inj j i q o a z e (by rw [e1, q']) ea)
      exact ⟨b, e1, r1.move (fun _ q => by rw [upd_ne nb]; exact q) m, n1, n2⟩
  · have e1' : ∃ o1', st.ρ[j]? = some (.own o1') := by
      rcases get_set e1 with ⟨rfl, _, _⟩ | ⟨_, z⟩
      · exact ⟨o, e⟩
      · exact ⟨o1, z⟩
    have e2' : ∃ o2', st.ρ[k]? = some (.own o2') := by
      rcases get_set e2 with ⟨rfl, _, _⟩ | ⟨_, z⟩
      · exact ⟨o, e⟩
      · exact ⟨o2, z⟩
    obtain ⟨o1', e1'⟩ := e1'
    obtain ⟨o2', e2'⟩ := e2'
    exact l.inj j k o1' o2' b e1' e2' e3 e4
  · have nb : b ≠ a := fun q' => by
      rw [q'] at z
      have z2 : st.S a = some q := z
      rw [na] at z2
      cases z2
    exact (l.sto b q z).move (fun _ q => by rw [upd_ne nb]; exact q) m
  · obtain ⟨x, q⟩ := l.ftr b z
    have nb : b ≠ a := fun q' => nf (q' ▸ z)
    exact ⟨x, by rw [upd_ne nb]; exact q⟩
  · have nb : b ≠ a := fun q' => n (.inr ⟨i, o, e, q' ▸ ea⟩)
    rw [upd_ne nb]
    exact q
/-- an object of the store is written -/
theorem Lk.writeS (l : Lk K F st σ H) {o o' : SO} {a : Addr} {u : HO} (e : st.S a = some o)
    (r : RelO K (Live F st σ) (upd H a u) a o') : Lk K F (st.puts a o') σ (upd H a u) ∧ Step st σ H (st.puts a o') σ (upd H a u) := by
  have sw : ∀ b, (st.puts a o').S b ≠ none → st.S b ≠ none := fun b h => by
    by_cases q : b = a
    · rw [q, e]
      exact fun z => nomatch z
    · have z : (st.puts a o').S b = st.S b := Sto.put_ne q
      rw [← z]
      exact h
  have lv : ∀ b, Live F (st.puts a o') σ b → Live F st σ b := fun b z => z.imp (fun w => w.imp (sw b) id) id
  have la : Live F st σ a := .inl (.inl (by rw [e]; exact fun z => nomatch z))
  have m : Mv (Live F st σ) H (Live F (st.puts a o') σ) (upd H a u) := Mv.write la lv
  have m2 : Mv (Live F st σ) (upd H a u) (Live F (st.puts a o') σ) (upd H a u) := fun b z q n => ⟨q, fun w => n (lv b w)⟩
  refine ⟨⟨l.len, fun j y q => ?_, fun j q z => ?_, l.inj, fun b q z => ?_, fun b z => ?_, fun b z => ?_⟩, ⟨fun b z q n => ?_, fun b z => .inl (z.imp (sw b) id)⟩⟩
  · obtain ⟨v, e1, r1⟩ := l.val j y q
    exact ⟨v, e1, r1.mono m⟩
  · obtain ⟨b, e1, r1, n1, n2⟩ := l.own j q z
    have nb : b ≠ a := fun q' => by
      rw [q', e] at n1
      cases n1
    exact ⟨b, e1, r1.move (fun _ q => by rw [upd_ne nb]; exact q) m, (Sto.put_ne nb).trans n1, n2⟩
  · by_cases nb : b = a
    · subst nb
      have z2 : st.S.put b o' b = some q := z
      rw [Sto.put_same] at z2
      cases z2
      exact r.move (fun _ q => q) m2
    · have z2 : st.S.put a o' b = some q := z
      rw [Sto.put_ne nb] at z2
      exact (l.sto b q z2).move (fun _ q => by rw [upd_ne nb]; exact q) m
  · obtain ⟨x, q⟩ := l.ftr b z
    have nb : b ≠ a := fun q' => by
      have q2 := l.fdis b z
      rw [q', e] at q2
      cases q2
    exact ⟨x, by rw [upd_ne nb]; exact q⟩
  · have nb : b ≠ a := fun q' => by
      have q2 := l.fdis b z
      rw [q', e] at q2
      cases q2
    exact (Sto.put_ne nb).trans (l.fdis b z)
  · have nb : b ≠ a := fun q' => n (.inl (by rw [q', e]; exact fun z => nomatch z))
    rw [upd_ne nb]
    exact q

/-- what a callee sees as foreign -/
def Fo (F : Addr → Prop) (st : Stt) (σ : L2.St) : Addr → Prop := fun a => F a ∨ Ow st.ρ σ a
theorem ow_nil {a : Addr} : ¬ Ow [] [] a := fun ⟨_, _, e, _⟩ => by simp at e
theorem live_enter {a : Addr} : Live (Fo F st σ) ⟨[], st.S⟩ [] a ↔ Live F st σ a := by
  constructor
  · rintro ((z | z) | (z | z))
    · exact .inl (.inl z)
    · exact (ow_nil z).elim
    · exact .inr z
    · exact .inl (.inr z)
  · rintro ((z | z) | z)
    · exact .inl (.inl z)
    · exact .inr (.inr z)
    · exact .inr (.inl z)
theorem mv_same {Lv Lv' : Addr → Prop} (h : ∀ a, Lv' a → Lv a) : Mv Lv H Lv' H := fun a _ e n => ⟨e, fun z => n (h a z)⟩
theorem Lk.enter (l : Lk K F st σ H) : Lk K (Fo F st σ) ⟨[], st.S⟩ [] H := by
  refine ⟨rfl, fun i w e => by simp at e, fun i o e => by simp at e, fun i j o o' a e => by simp at e, fun a o e => (l.sto a o e).move (fun _ q => q) (mv_same fun b z => live_enter.mp z), fun a z => ?_, fun a z => ?_⟩
  · rcases z with z | z
    · exact l.ftr a z
    · exact l.wtr (.inr z)
  · rcases z with z | ⟨i, o, e1, e2⟩
    · exact l.fdis a z
    · obtain ⟨b, e3, _, n, _⟩ := l.own i o e1
      rw [e2] at e3
      cases e3
      exact n
theorem Lk.back {F2 : Addr → Prop} {S' : Sto} (l : Lk K F st σ H) (s : Step ⟨[], st.S⟩ [] H ⟨[], S'⟩ [] H1) (l2 : Lk K (Fo F2 st σ) ⟨[], S'⟩ [] H1) (hF : ∀ a, F a → F2 a)
    (h2 : ∀ a, F2 a → F a ∨ st.S a ≠ none ∨ H a = none) : Lk K F2 { st with S := S' } σ H1 ∧ Step st σ H { st with S := S' } σ H1 := by
  have wr0 : ∀ a, ¬ Wr st σ a → ¬ Wr ⟨[], st.S⟩ [] a := fun a n z => z.elim (fun z => n (.inl z)) ow_nil
  have st' : Step st σ H { st with S := S' } σ H1 := by
    refine ⟨fun a u e n => s.keep a u e (wr0 a n), fun a z => ?_⟩
    rcases z with z | z
    · rcases s.new a (.inl z) with (z | z) | z
      · exact .inl (.inl z)
      · exact (ow_nil z).elim
      · exact .inr z
    · exact .inl (.inr z)
  have m : Mv (Live F st σ) H (Live F2 { st with S := S' } σ) H1 := fun a u e n => by
    refine ⟨st'.keep a u e fun z => n (.inl z), fun z => ?_⟩
    rcases z with z | z
    · rcases st'.new a z with z | z
      · exact n (.inl z)
      · rw [e] at z; cases z
    · rcases h2 a z with z | z | z
      · exact n (.inr z)
      · exact n (.inl (.inl z))
      · rw [e] at z; cases z
  have lv : ∀ a, Live F2 { st with S := S' } σ a → Live (Fo F2 st σ) ⟨[], S'⟩ [] a := fun a z => (live_enter (F := F2) (st := { st with S := S' }) (σ := σ)).mpr z
  refine ⟨⟨l.len, fun i w e => ?_, fun i o e => ?_, l.inj, fun a o e => (l2.sto a o e).move (fun _ q => q) (mv_same lv), fun a z => l2.ftr a (.inl z), fun a z => l2.fdis a (.inl z)⟩, st'⟩
  · obtain ⟨v, e1, r⟩ := l.val i w e
    exact ⟨v, e1, r.mono m⟩
  · obtain ⟨a, e1, r, n1, n2⟩ := l.own i o e
    have oa : Ow st.ρ σ a := ⟨i, o, e, e1⟩
    refine ⟨a, e1, r.move (fun u q => s.keep a u q fun z => z.elim (fun z => z n1) ow_nil) m, l2.fdis a (.inr oa), fun z => ?_⟩
    rcases h2 a z with z | z | z
    · exact n2 z
    · exact z n1
    · obtain ⟨u, q⟩ := r.at
      rw [z] at q
      cases q
end

/-- spec over values: from the arguments and the store -/
def spI (K : PySem.W.Frag) (n : Nat) (spec : ISp) : Sp := fun vs H Q E => ∃ F S ws QI EI, Lk K F ⟨[], S⟩ [] H ∧ RelWs K (Live F ⟨[], S⟩ []) H ws vs ∧ ws.length = n ∧ spec ws S QI EI ∧
  (∀ r S' v H', QI r S' → RetOk K F ⟨[], S⟩ [] H r S' v H' → Q v H') ∧
  ∀ x S' cls d H', EI x S' → Lk K F ⟨[], S'⟩ [] H' → Step ⟨[], S⟩ [] H ⟨[], S'⟩ [] H' → RelX K (Live F ⟨[], S'⟩ []) H' x cls d → E cls d H'
theorem spI.len {K : PySem.W.Frag} {n : Nat} {spec : ISp} {vs : List V} {H : Hp} {Q : VK} {E : XK} (h : spI K n spec vs H Q E) : vs.length = n := by
  obtain ⟨F, S, ws, QI, EI, _, r, e, _⟩ := h
  rw [← r.length, e]
theorem spI.imp {K : PySem.W.Frag} {n : Nat} {spec spec' : ISp} (h : ∀ ws S Q E, spec' ws S Q E → spec ws S Q E) {vs : List V} {H : Hp} {Q : VK} {E : XK} (q : spI K n spec' vs H Q E) : spI K n spec vs H Q E := by
  obtain ⟨F, S, ws, QI, EI, l, r, e, s, k1, k2⟩ := q
  exact ⟨F, S, ws, QI, EI, l, r, e, h _ _ _ _ s, k1, k2⟩
/-- the slots at the entry -/
def start0 (m : Nat) (ws : List W) : List Slot := ws.map .val ++ List.replicate (m - ws.length) .none
/-- a body as a spec -/
def bodyI (m : Nat) (ib : IS) : ISp := fun ws S Q E => ib (fun x st => E x st.S) { nx := fun st => Q (.val .non) st.S, rt := Q } ⟨start0 m ws, S⟩
theorem start_rel {K : PySem.W.Frag} {Lv : Addr → Prop} {H : Hp} : ∀ {ws : List W} {vs : List V} {m : Nat} {i : Nat} {w : W}, RelWs K Lv H ws vs → (ws.map Slot.val ++ List.replicate m .none)[i]? = some (.val w) →
    ∃ v, (vs.map some ++ List.replicate m none)[i]? = some (some v) ∧ RelW K Lv H w v
  | _, _, m, i, w, .nil, e => by
    have e2 : (List.replicate m Slot.none)[i]? = some (.val w) := by simpa using e
    rw [List.getElem?_replicate] at e2
    split at e2 <;> cases e2
  | _, _, m, 0, w, .cons h r, e => by
    have e2 := Option.some.inj e
    cases e2
    exact ⟨_, rfl, h⟩
  | _, _, m, i + 1, w, .cons _ r, e => start_rel (i := i) r (by simpa using e)
theorem start_own {ws : List W} {m i : Nat} {o : SO} (e : (ws.map Slot.val ++ List.replicate m .none)[i]? = some (.own o)) : False := by
  have h := List.mem_of_getElem? e
  rcases List.mem_append.mp h with h | h
  · obtain ⟨w, _, q⟩ := List.mem_map.mp h
    cases q
  · have q := List.eq_of_mem_replicate h
    cases q
structure FnG (P : Program) (w : World) (K : PySem.W.Frag) (mg : Str → Option Value) (base : Heap) (k : Nat) (f : Addr) (fd : FuncData) (ps : List Str) (sp : Sp) : Prop where
  len : ∀ {vs H Q E}, sp vs H Q E → vs.length = ps.length
  go : ∀ {A : Around} {outer : List Env} {s : Shared} {H : Hp} {args : Args} {us : List Value} {vs : List V} {Q : VK} {E : XK}, Room k A → A.guards = some [] → Env0 P w K mg base A outer s H →
    BindsTo s fd args (ps.zip us) → Vals vs us → sp vs H Q E → codeAny (model P w) A (.call (.ref f) args) (CR (L2.CX P w) outer P w H s Q E) s
theorem FnG.imp {P : Program} {w : World} {K : PySem.W.Frag} {mg : Str → Option Value} {base : Heap} {k : Nat} {f : Addr} {fd : FuncData} {ps : List Str} {sp sp' : Sp} (G : FnG P w K mg base k f fd ps sp) (h : ∀ {vs H Q E}, sp' vs H Q E → sp vs H Q E) : FnG P w K mg base k f fd ps sp' :=
  ⟨fun q => G.len (h q), fun r g e b v q => G.go r g e b v (h q)⟩
theorem FnG.up {P : Program} {w : World} {K : PySem.W.Frag} {mg : Str → Option Value} {base : Heap} {j k : Nat} {f : Addr} {fd : FuncData} {ps : List Str} {sp : Sp} (G : FnG P w K mg base j f fd ps sp) (h : j ≤ k) : FnG P w K mg base k f fd ps sp :=
  ⟨G.len, fun r g e b v q => G.go (r.mono h) g e b v q⟩
/-- a nicer spec -/
theorem FnG.spec {P : Program} {w : World} {K : PySem.W.Frag} {mg : Str → Option Value} {base : Heap} {k n : Nat} {f : Addr} {fd : FuncData} {ps : List Str} {spec spec' : ISp} (G : FnG P w K mg base k f fd ps (spI K n spec)) (h : ∀ ws S Q E, spec' ws S Q E → spec ws S Q E) : FnG P w K mg base k f fd ps (spI K n spec') :=
  G.imp fun q => spI.imp h q
section
variable {P : Program} {w : World} {K : PySem.W.Frag} {mg : Str → Option Value} {base : Heap} {x qual : Str} {params : Arguments} {body : List Stmt} {scope : Scope} {f : Addr} {fd : FuncData}
theorem fn_run {N ps : List Str} {k : Nat} {sp : Sp} (Fd : FunD K x qual params body scope [] [] f fd) (Sc : FnScope N ps scope) (len : ∀ {vs H Q E}, sp vs H Q E → vs.length = ps.length)
    (hbody : ∀ (cdv : Value) (A : Around) (outer : List Env) (s : Shared) (H : Hp) (vs : List V) (Q : VK) (E : XK), Room k (A.deeper (envOfC qual scope s.heap.objs.size f cdv)) → A.guards = some [] → sp vs H Q E →
      ∃ t, PSs (cxOf (L2.CX P w) P w K mg base N qual scope f cdv A outer s H E) body t ∧ t { nx := fun _ H' => Q .non H', rt := Q } (L2.start N vs) H) : FnG P w K mg base (k + 1) f fd ps sp := by
  obtain ⟨oc, od, dV, kV, doc, pm, an, cdv, ct, osl, rfl, lk, hcd, _, _⟩ := Fd.ex
  refine ⟨len, fun {A outer s H args us vs Q E} room gu e0 bd rel hq => ?_⟩
  have hv := len hq
  have kin : K.In s.heap := e0.mod.kin.keeps fun b o e => (e0.bs b o e).1
  have noLim : s.heap.NoLimit := e0.mod.nolimit.keeps fun b o e => (e0.bs b o e).1
  have kinds : ∀ y ∈ ps.zip us, scope.names.lookup y.1 = some .local ∨
      (scope.names.lookup y.1 = some .cell ∧ ((cellsFrom (s.heap.objs.size + 1) scope.names []).lookup y.1).isSome = true) := fun y hy => by
    rcases Sc.par y.1 (List.of_mem_zip hy).1 with q | q
    · exact .inl q
    · exact .inr ⟨q, PySem.W.cellsFrom_some _ _ _ (.inl q)⟩
  refine codeAny_call_function room.depth (kin _ _ lk) rfl Sc.co Sc.gen rfl (PySem.W.codeRec_of kin hcd) (bd _ _ _ _ ?_)
  refine wpAny_newFunctionEnv_cells Sc.kind kinds fun env he s1 z => ?_
  subst he
  refine ⟨noLim.keeps z.toInCall.keep, codeAny_func ?_⟩
  obtain ⟨t, ht, hq2⟩ := hbody cdv A outer s H vs Q E (room.deeper _) gu hq
  have I := inv_start (CX := L2.CX P w) (E := E) Sc room.hd e0 hv rel z
  refine wpAny_mono (ht.run [] s1 _ H _ I hq2) (fun fl s' hs => ?_) fun _ _ h => h
  have fin : ∀ {σ' : L2.St} {H' : Hp} {v : V} {u : Value}, Inv (cxOf (L2.CX P w) P w K mg base N qual scope f cdv A outer s H E) [] σ' H' s' →
      RelV v u → Q v H' → CE outer P w H s Q u s' := fun {σ' H' v u} J rv q => ⟨v, H', J.os, J.bare, J.base, J.hok, rv, q⟩
  cases fl with
  | ret u => obtain ⟨v, σ', H', J, rv, q⟩ := hs; exact fin J rv q
  | next => obtain ⟨σ', H', J, q⟩ := hs; exact fin (v := V.non) (u := Value.none) J rfl q
  | brk => obtain ⟨_, _, _, q⟩ := hs; exact q.elim
  | cont => obtain ⟨_, _, _, q⟩ := hs; exact q.elim
/-- THE RULE for a def -/
theorem fnI {N ps : List Str} {k : Nat} {ib : IS} (Fd : FunD K x qual params body scope [] [] f fd) (Sc : FnScope N ps scope)
    (hb : ∀ (cdv : Value) (A : Around) (outer : List Env) (s : Shared) (H : Hp) (E : XK), Room k (A.deeper (envOfC qual scope s.heap.objs.size f cdv)) → A.guards = some [] → ∀ (F : Addr → Prop) (Wx : WX), Takes (cxOf (L2.CX P w) P w K mg base N qual scope f cdv A outer s H E) Wx →
      PSs (cxOf (L2.CX P w) P w K mg base N qual scope f cdv A outer s H E) body (LS K F Wx ib)) : FnG P w K mg base (k + 1) f fd ps (spI K ps.length (bodyI N.length ib)) := by
  refine fn_run Fd Sc (fun h => h.len) fun cdv A outer s H vs Q E hr gu h => ?_
  obtain ⟨F, S, ws, QI, EI, l, r, e, hs, kr, kx⟩ := h
  refine ⟨_, hb cdv A outer s H E hr gu F (fun cls d _ H => E cls d H) (takes_of rfl rfl rfl rfl), ?_⟩
  have hlen : ws.length = vs.length := r.length
  have nOw : ∀ a, ¬ Ow (start0 N.length ws) (L2.start N vs) a := fun a ⟨i, o, e1, _⟩ => start_own e1
  have lv : ∀ a, Live F ⟨start0 N.length ws, S⟩ (L2.start N vs) a → Live F ⟨[], S⟩ [] a := fun a z => z.imp (fun z => z.elim .inl fun z => (nOw a z).elim) id
  have lk : Lk K F ⟨start0 N.length ws, S⟩ (L2.start N vs) H := by
    refine ⟨?_, fun i y q => ?_, fun i o q => (start_own q).elim, fun i j o o' a q => (start_own q).elim, fun a o q => (l.sto a o q).move (fun _ z => z) (mv_same lv), l.ftr, l.fdis⟩
    · simp [start0, L2.start, hlen]
    · have q2 : (ws.map Slot.val ++ List.replicate (N.length - ws.length) .none)[i]? = some (.val y) := q
      rw [hlen] at q2
      obtain ⟨v, e1, r1⟩ := start_rel r q2
      exact ⟨v, e1, r1.mono (mv_same lv)⟩
  have s0 : Step ⟨[], S⟩ [] H ⟨start0 N.length ws, S⟩ (L2.start N vs) H := ⟨fun _ _ e _ => e, fun a z => .inl (z.elim .inl fun z => (nOw a z).elim)⟩
  refine ⟨⟨start0 N.length ws, S⟩, _, _, lk, hs, ⟨fun x st' σ' cls d H' q l' s' r' => ?_, fun st' σ' H' q l' s' => ?_, fun _ _ _ q => q.elim, fun _ _ _ q => q.elim, fun r' S' v H' q h' => kr r' S' v H' q (h'.step s0)⟩⟩
  all_goals
    have nx : ∀ a, Live F ⟨[], st'.S⟩ [] a → Live F st' σ' a := fun a z => z.imp (fun z => z.elim .inl fun z => (ow_nil z).elim) id
    have l3 : Lk K F ⟨[], st'.S⟩ [] H' := ⟨rfl, fun i w e => by simp at e, fun i o e => by simp at e, fun i j o o' a e => by simp at e, fun a o e => (l'.sto a o e).move (fun _ q => q) (mv_same nx), l'.ftr, l'.fdis⟩
    have s3 : Step ⟨[], S⟩ [] H ⟨[], st'.S⟩ [] H' := (s0.trans s').trans ⟨fun _ _ e _ => e, fun a z => .inl (z.elim .inl fun z => (ow_nil z).elim)⟩
  · refine kx x st'.S cls d H' q l3 s3 ?_
    obtain ⟨e1, z⟩ := r'
    refine ⟨e1, z.imp id ?_⟩
    rintro ⟨a, vs', e2, e3, e4, e5⟩
    exact ⟨a, vs', e2, e3, fun z => e4 (nx a z), e5.mono (mv_same nx)⟩
  · exact kr (.val .non) st'.S .non H' q ⟨s3, l3, .non⟩
end
end Sh
namespace Sh
open PySem L2
open PyProof.Rows hiding St
theorem pe_imp {X : Cx} {e : Expr} {t t' : TE} (h : PE X e t) (m : ∀ σ H Q, t' σ H Q → t σ H Q) : PE X e t' := ⟨fun pins s σ H Q I q => h.run pins s σ H Q I (m _ _ _ q)⟩
theorem pt_imp {X : Cx} {e : Expr} {t t' : TT} (h : PT X e t) (m : ∀ σ H Q, t' σ H Q → t σ H Q) : PT X e t' := ⟨fun pins s σ H Q I q => h.run pins s σ H Q I (m _ _ _ q)⟩
theorem pw_imp {X : Cx} {e : Expr} {t t' : TT} (h : PW X e t) (m : ∀ σ H Q, t' σ H Q → t σ H Q) : PW X e t' := ⟨fun wh pins s σ H Q I q => h.run wh pins s σ H Q I (m _ _ _ q)⟩
theorem pa_imp {X : Cx} {es : List Expr} {t t' : TA} (h : PA X es t) (m : ∀ σ H Q, t' σ H Q → t σ H Q) : PA X es t' := ⟨fun pos pins s σ H Q I q => h.run pos pins s σ H Q I (m _ _ _ q)⟩

section
variable {X : Cx} {F : Addr → Prop} {Wx : WX} {a b c e : Expr} {es : List Expr} {pos : Pos} {ia ib ic : IE}
def iVar (i : Nat) : IE := fun _ st Q => match st.ρ[i]? with
  | some (.val w) => Q w st
  | some (.own o) => Q o.fz (st.put i (.val o.fz))
  | _ => False
theorem i_var (i : Nat) {x : Str} (hN : X.N[i]? = some x := by rfl) (hv : Vis X.env.scope x := by first | exact Or.inl rfl | exact Or.inr (Or.inl rfl) | exact Or.inr (Or.inr rfl)) (hd : (x == ("__debug__" : Str)) = false := by decide)
    (hcd : (x == ("__classdict__" : Str)) = false := by decide) : PE X (.Name x pos) (LE X.K F Wx (iVar i)) := by
  refine pe_imp (pe_var hN hv hd hcd) fun σ H Q h => ?_
  obtain ⟨st, QI, EI, l, q, ux, k⟩ := h
  unfold iVar at q
  split at q
  · rename_i w e
    obtain ⟨v, ev, r⟩ := l.val i w e
    exact ⟨v, ev, k w st v H q l .refl r⟩
  · rename_i o e
    obtain ⟨v, ev, r, _⟩ := l.own i o e
    obtain ⟨l2, s2⟩ := l.freeze e
    refine ⟨.ref v, ev, k _ _ _ H q l2 s2 ?_⟩
    obtain ⟨u, eu, r2⟩ := l2.val i o.fz (by
      have hi : i < st.ρ.length := (List.getElem?_eq_some_iff.mp e).1
      exact set_get hi)
    rw [ev] at eu
    cases eu
    exact r2
  · exact q.elim
def iC (w : W) : IE := fun _ st Q => Q w st
theorem i_c {w : W} {v : V} (h : PE X e (tC v)) (r : ∀ Lv H, RelW X.K Lv H w v) : PE X e (LE X.K F Wx (iC w)) := by
  refine pe_imp h fun σ H Q q => ?_
  obtain ⟨st, QI, EI, l, q, ux, k⟩ := q
  exact k w st v H q l .refl (r _ _)
theorem i_int {i : Int} {j : Nat} : PE X (.Constant (.int i) j pos) (LE X.K F Wx (iC (.int i))) := i_c pe_int fun _ _ => .int i
theorem i_bl {b : Bool} {j : Nat} : PE X (.Constant (.bool b) j pos) (LE X.K F Wx (iC (.bl b))) := i_c pe_bl fun _ _ => .bl b
theorem i_non {j : Nat} : PE X (.Constant .none j pos) (LE X.K F Wx (iC .non)) := i_c pe_non fun _ _ => .non
theorem i_str {x : Str} {j : Nat} : PE X (.Constant (.str x) j pos) (LE X.K F Wx (iC (.str x))) := i_c pe_str fun _ _ => .str x

def iNil : IA := fun _ st Q => Q [] st
def iCons (i : IE) (r : IA) : IA := fun EI st Q => i EI st fun w st1 => r EI st1 fun ws st2 => Q (w :: ws) st2
theorem ia_nil : PA X [] (LA X.K F Wx 0 iNil) := by
  refine pa_imp pa_nil fun σ H Q h => ?_
  obtain ⟨st, QI, EI, l, q, ux, k⟩ := h
  exact k [] st [] H rfl q l .refl .nil
theorem ia_cons {n : Nat} {ir : IA} (ha : PE X e (LE X.K F Wx ia)) (hr : PA X es (LA X.K F Wx n ir)) (hs : starEach (e :: es) X.env = (false, eval e X.env) :: starEach es X.env := by rfl) : PA X (e :: es) (LA X.K F Wx (n + 1) (iCons ia ir)) := by
  refine pa_imp (pa_cons ha hr hs) fun σ H Q h => ?_
  obtain ⟨st, QI, EI, l, q, ux, k⟩ := h
  refine ⟨st, _, EI, l, q, ux, fun w st1 v H1 q1 l1 s1 r1 => ⟨st1, _, EI, l1, q1, ux.step s1, fun ws st2 vs H2 hn q2 l2 s2 r2 => ?_⟩⟩
  exact k (w :: ws) st2 (v :: vs) H2 (by simp [hn]) q2 l2 (s1.trans s2) (.cons (r1.mono s2.mv) r2)
def iTup (i : IA) : IE := fun EI st Q => i EI st fun ws st1 => Q (.tup ws) st1
theorem i_tup {n : Nat} {i : IA} {x1} (h : PA X es (LA X.K F Wx n i)) (hn : n ≤ sizeLine := by decide) : PE X (.Tuple es x1 pos) (LE X.K F Wx (iTup i)) := by
  refine pe_imp (pe_tup h) fun σ H Q h => ?_
  obtain ⟨st, QI, EI, l, q, ux, k⟩ := h
  refine ⟨st, _, EI, l, q, ux, fun ws st1 vs H1 e1 q1 l1 s1 r1 => ⟨by rw [← r1.length, e1]; exact hn, fun p hp => ?_⟩⟩
  have s2 : Step st1 σ H1 st1 σ (upd H1 p (.tup vs)) := Step.laid l1 hp
  exact k (.tup ws) st1 (.ref p) _ q1 (l1.laid hp) (s1.trans s2) (.tup (FzT.new l1 hp) (r1.mono s2.mv))
def iLst (i : IA) : IE := fun EI st Q => i EI st fun ws st1 => Q (.lst ws) st1
theorem i_lst {n : Nat} {i : IA} (h : PA X es (LA X.K F Wx n i)) (hn : n ≤ sizeLine := by decide) : PE X (.List es pos) (LE X.K F Wx (iLst i)) := by
  refine pe_imp (pe_lst h) fun σ H Q h => ?_
  obtain ⟨st, QI, EI, l, q, ux, k⟩ := h
  refine ⟨st, _, EI, l, q, ux, fun ws st1 vs H1 e1 q1 l1 s1 r1 => ⟨by rw [← r1.length, e1]; exact hn, fun p hp => ?_⟩⟩
  have s2 : Step st1 σ H1 st1 σ (upd H1 p (.lst vs)) := Step.laid l1 hp
  exact k (.lst ws) st1 (.ref p) _ q1 (l1.laid hp) (s1.trans s2) (.lst (FzL.new l1 hp) (r1.mono s2.mv))
/-- a new object is foreign to all that stands -/
theorem Lk.foreign {K : PySem.W.Frag} {st : Stt} {σ : L2.St} {H : Hp} (l : Lk K F st σ H) {p : Addr} {u : HO} (e : H p = none) : Lk K (FA F p) st σ (upd H p u) := by
  have m : Mv (Live F st σ) H (Live (FA F p) st σ) (upd H p u) := fun b z q n => ⟨(upd_ne (ne_of_none q e)).trans q, fun w => by
    rcases w with w | w | w
    · exact n (.inl w)
    · exact n (.inr w)
    · rw [w, e] at q; cases q⟩
  have k : ∀ b z, H b = some z → upd H p u b = some z := fun b z q => (upd_ne (ne_of_none q e)).trans q
  refine ⟨l.len, fun i w q => ?_, fun i o q => ?_, l.inj, fun b o q => (l.sto b o q).move (k b) m, fun b q => ?_, fun b q => ?_⟩
  · obtain ⟨v, e1, r⟩ := l.val i w q
    exact ⟨v, e1, r.mono m⟩
  · obtain ⟨b, e1, r, n1, n2⟩ := l.own i o q
    refine ⟨b, e1, r.move (k b) m, n1, fun z => ?_⟩
    rcases z with z | z
    · exact n2 z
    · obtain ⟨u', q'⟩ := r.at
      rw [z, e] at q'
      cases q'
  · rcases q with q | q
    · obtain ⟨z, q'⟩ := l.ftr b q
      exact ⟨z, k b z q'⟩
    · exact ⟨u, by rw [q]; exact upd_same⟩
  · rcases q with q | q
    · exact l.fdis b q
    · rw [q]
      cases z : st.S p with
      | none => rfl
      | some o =>
        obtain ⟨u', q'⟩ := (l.sto p o z).at
        rw [e] at q'
        cases q'
theorem mv_foreign {K : PySem.W.Frag} {st : Stt} {σ : L2.St} {H : Hp} (l : Lk K F st σ H) {p : Addr} {u : HO} (e : H p = none) : Mv (Live F st σ) H (Live (FA F p) st σ) (upd H p u) := fun b z q n => ⟨(upd_ne (ne_of_none q e)).trans q, fun w => by
    rcases w with w | w | w
    · exact n (.inl w)
    · exact n (.inr w)
    · rw [w, e] at q; cases q⟩
def nLst (i : IA) : IN := fun EI st Q => i EI st fun ws st1 => Q (.lst ws) st1
theorem n_lst {n : Nat} {i : IA} (h : PA X es (LA X.K F Wx n i)) (hn : n ≤ sizeLine := by decide) : PE X (.List es pos) (LN X.K F Wx (nLst i)) := by
  refine pe_imp (pe_lst h) fun σ H Q h => ?_
  obtain ⟨st, QI, EI, l, q, ux, k⟩ := h
  refine ⟨st, _, EI, l, q, ux, fun ws st1 vs H1 e1 q1 l1 s1 r1 => ⟨by rw [← r1.length, e1]; exact hn, fun p hp => ?_⟩⟩
  have s2 : Step st1 σ H1 st1 σ (upd H1 p (.lst vs)) := Step.laid l1 hp
  exact k (.lst ws) st1 p _ q1 (l1.foreign hp) (s1.trans s2) ⟨vs, upd_same, r1.mono (mv_foreign l1 hp)⟩ (NewAt.step s1 (.inr hp))
/-- a new object as a value -/
def iFz (n : IN) : IE := fun EI st Q => n EI st fun o st1 => Q o.fz st1
theorem i_fz {n : IN} (h : PE X e (LN X.K F Wx n)) : PE X e (LE X.K F Wx (iFz n)) := by
  refine pe_imp h fun σ H Q h => ?_
  obtain ⟨st, QI, EI, l, q, ux, k⟩ := h
  refine ⟨st, _, EI, l, q, ux, fun o st1 a H1 q1 l1 s1 r1 n1 => ?_⟩
  have l2 : Lk X.K F st1 σ H1 := l1.less fun _ z => .inl z
  have m : Mv (Live (FA F a) st1 σ) H1 (Live F st1 σ) H1 := mv_same fun b z => z.imp id .inl
  have na : ¬ Live F st1 σ a := fun z => by
    rcases z with (z | ⟨i, o', e1, e2⟩) | z
    · exact z (l1.fdis a (.inr rfl))
    · obtain ⟨b, e3, _, _, n3⟩ := l1.own i o' e1
      rw [e2] at e3
      cases e3
      exact n3 (.inr rfl)
    · exact NewAt.nf l n1 z
  exact k o.fz st1 (.ref a) H1 q1 l2 s1 ((r1.move (fun _ z => z) m).fz na)

/-- what an operator of two values gives: the state stays -/
def OpG (K : PySem.W.Frag) (r : R2) (g : W → W → (W → Prop) → Prop) : Prop :=
  ∀ {F : Addr → Prop} {st : Stt} {σ : L2.St} {H : Hp} {x y : W} {v u : V} {P : W → Prop} {Q : VK}, g x y P → Lk K F st σ H → RelW K (Live F st σ) H x v → RelW K (Live F st σ) H y u →
    (∀ w z H', P w → Lk K F st σ H' → Step st σ H st σ H' → RelW K (Live F st σ) H' w z → Q z H') → r v u H Q
def iB (g : W → W → (W → Prop) → Prop) (ia ib : IE) : IE := fun EI st Q => ia EI st fun x st1 => ib EI st1 fun y st2 => g x y fun w => Q w st2
theorem LE_op {K : PySem.W.Frag} {r : R2} {g : W → W → (W → Prop) → Prop} (hg : OpG K r g) {σ : L2.St} {H : Hp} {Q : VK} (h : LE K F Wx (iB g ia ib) σ H Q) : tOp r (LE K F Wx ia) (LE K F Wx ib) σ H Q := by
  obtain ⟨st, QI, EI, l, q, ux, k⟩ := h
  refine ⟨st, _, EI, l, q, ux, fun x st1 v H1 q1 l1 s1 r1 => ⟨st1, _, EI, l1, q1, ux.step s1, fun y st2 u H2 q2 l2 s2 r2 => ?_⟩⟩
  exact hg q2 l2 (r1.mono s2.mv) r2 fun w z H3 p l3 s3 r3 => k w st2 z H3 p l3 ((s1.trans s2).trans s3) r3
theorem i_op {op : Operator} {r : R2} {g : W → W → (W → Prop) → Prop} (ho : OpR X (binaryOp op) r) (hg : OpG X.K r g) (ha : PE X a (LE X.K F Wx ia)) (hb : PE X b (LE X.K F Wx ib)) : PE X (.BinOp a op b pos) (LE X.K F Wx (iB g ia ib)) :=
  pe_imp (pe_op ho ha hb) fun _ _ _ h => LE_op hg h
theorem i_cmp {op : CmpOp} {r : R2} {g : W → W → (W → Prop) → Prop} (ho : OpR X (compareOp op) r) (hg : OpG X.K r g) (ha : PE X a (LE X.K F Wx ia)) (hb : PE X b (LE X.K F Wx ib)) (hm : behindInMarks op b = false) : PE X (.Compare a [op] [b] pos) (LE X.K F Wx (iB g ia ib)) :=
  pe_imp (pe_cmpR ho ha hb hm) fun _ _ _ h => LE_op hg h
theorem OpG.or {K : PySem.W.Frag} {r r' : R2} {g : W → W → (W → Prop) → Prop} (h : OpG K (fun x y H Q => r x y H Q ∨ r' x y H Q) g) : OpG K (fun x y H Q => r x y H Q ∨ r' x y H Q) g := h

def gI (f : Int → Int → W) : W → W → (W → Prop) → Prop := fun x y P => match x, y with
  | .int i, .int j => P (f i j)
  | _, _ => False
def gIC (C : Int → Int → Prop) (f : Int → Int → W) : W → W → (W → Prop) → Prop := fun x y P => match x, y with
  | .int i, .int j => C i j ∧ P (f i j)
  | _, _ => False
theorem gI_inv {f : Int → Int → W} {x y : W} {P : W → Prop} (h : gI f x y P) : ∃ i j, x = .int i ∧ y = .int j ∧ P (f i j) := by
  unfold gI at h
  split at h
  · exact ⟨_, _, rfl, rfl, h⟩
  · exact h.elim
theorem gIC_inv {C : Int → Int → Prop} {f : Int → Int → W} {x y : W} {P : W → Prop} (h : gIC C f x y P) : ∃ i j, x = .int i ∧ y = .int j ∧ C i j ∧ P (f i j) := by
  unfold gIC at h
  split at h
  · exact ⟨_, _, rfl, rfl, h⟩
  · exact h.elim
theorem opG_I {K : PySem.W.Frag} {f : Int → Int → W} {fv : Int → Int → V} (hf : ∀ i j Lv H, RelW K Lv H (f i j) (fv i j)) : OpG K (rI0 fv) (gI f) := by
  intro F st σ H x y v u P Q h l rx ry k
  obtain ⟨i, j, rfl, rfl, p⟩ := gI_inv h
  cases rx
  cases ry
  exact ⟨i, j, rfl, rfl, k _ _ H p l .refl (hf _ _ _ _)⟩
theorem opG_IC {K : PySem.W.Frag} {C : Int → Int → Prop} {f : Int → Int → W} {fv : Int → Int → V} (hf : ∀ i j Lv H, RelW K Lv H (f i j) (fv i j)) : OpG K (rI C fv) (gIC C f) := by
  intro F st σ H x y v u P Q h l rx ry k
  obtain ⟨i, j, rfl, rfl, c, p⟩ := gIC_inv h
  cases rx
  cases ry
  exact ⟨i, j, rfl, rfl, c, k _ _ H p l .refl (hf _ _ _ _)⟩
end
end Sh
namespace Sh
open PySem L2
open PyProof.Rows hiding St

def okD : Nat → W → Bool
  | _, .non => true
  | _, .bl _ => true
  | _, .int _ => true
  | _, .str x => PyData.strOk x
  | n + 1, .tup ws => ws.all (okD n)
  | n + 1, .lst ws => ws.all (okD n)
  | _, _ => false
mutual
def eqW : W → W → Bool
  | .non, .non => true
  | .bl a, .bl b => a == b
  | .bl a, .int j => (if a then 1 else 0) == j
  | .int i, .bl b => i == (if b then 1 else 0)
  | .int i, .int j => i == j
  | .str x, .str y => x == y
  | .lst xs, .lst ys => eqWs xs ys
  | .tup xs, .tup ys => eqWs xs ys
  | _, _ => false
def eqWs : List W → List W → Bool
  | [], [] => true
  | x :: xs, y :: ys => eqW x y && eqWs xs ys
  | _, _ => false
end
mutual
def toD : W → PyData
  | .bl b => .bool b
  | .int i => .int i
  | .str x => .str x
  | .tup ws => .tuple (toDs ws)
  | .lst ws => .list (toDs ws)
  | _ => .none
def toDs : List W → List PyData
  | [] => []
  | w :: ws => toD w :: toDs ws
end
section
variable {K : PySem.W.Frag} {Lv : Addr → Prop} {H : Hp}
mutual
theorem dp_of : ∀ {n : Nat} (w : W) {v : V}, okD n w = true → RelW K Lv H w v → Dp K H v (toD w)
  | _, .non, _, _, .non => .non
  | _, .bl b, _, _, .bl _ => .bl b
  | _, .int i, _, _, .int _ => .int i
  | _, .str x, _, _, .str _ => .str x
  | n + 1, .tup ws, _, h, .tup f r => .tup f.sq (dps_of ws (show ws.all (okD n) = true from h) r)
  | n + 1, .lst ws, _, h, .lst f r => .lst f.sq (dps_of ws (show ws.all (okD n) = true from h) r)
  | 0, .tup ws, _, h, _ => by simp [okD] at h
  | 0, .lst ws, _, h, _ => by simp [okD] at h
  | n, .dct _, _, h, _ => by cases n <;> simp [okD] at h
  | n, .obj _ _, _, h, _ => by cases n <;> simp [okD] at h
  | n, .dcT _, _, h, _ => by cases n <;> simp [okD] at h
  | n, .exn _ _ _ _, _, h, _ => by cases n <;> simp [okD] at h
  | n, .ref _, _, h, _ => by cases n <;> simp [okD] at h
  | n, .ty _, _, h, _ => by cases n <;> simp [okD] at h
  | n, .scr _, _, h, _ => by cases n <;> simp [okD] at h
  | n, .glo _, _, h, _ => by cases n <;> simp [okD] at h
theorem dps_of : ∀ {n : Nat} (ws : List W) {vs : List V}, ws.all (okD n) = true → RelWs K Lv H ws vs → DpAll K H vs (toDs ws)
  | _, [], _, _, .nil => .nil
  | n, w :: ws, _, h, .cons a r => by
    rw [List.all_cons, Bool.and_eq_true] at h
    exact .cons (dp_of w h.1 a) (dps_of ws h.2 r)
end
mutual
theorem lay_of : ∀ {n : Nat} (w : W), okD n w = true → (toD w).canLay0 = true ∧ (toD w).depth ≤ n
  | _, .non, _ => ⟨rfl, Nat.zero_le _⟩
  | _, .bl b, _ => ⟨rfl, Nat.zero_le _⟩
  | _, .int i, _ => ⟨rfl, Nat.zero_le _⟩
  | n, .str x, h => ⟨by cases n <;> exact h, Nat.zero_le _⟩
  | n + 1, .tup ws, h => by
    obtain ⟨h1, h2⟩ := lays_of ws (show ws.all (okD n) = true from h)
    exact ⟨h1, by show PyData.depthAll (toDs ws) + 1 ≤ n + 1; omega⟩
  | n + 1, .lst ws, h => by
    obtain ⟨h1, h2⟩ := lays_of ws (show ws.all (okD n) = true from h)
    exact ⟨h1, by show PyData.depthAll (toDs ws) + 1 ≤ n + 1; omega⟩
  | 0, .tup ws, h => by simp [okD] at h
  | 0, .lst ws, h => by simp [okD] at h
  | n, .dct _, h => by cases n <;> simp [okD] at h
  | n, .obj _ _, h => by cases n <;> simp [okD] at h
  | n, .dcT _, h => by cases n <;> simp [okD] at h
  | n, .exn _ _ _ _, h => by cases n <;> simp [okD] at h
  | n, .ref _, h => by cases n <;> simp [okD] at h
  | n, .ty _, h => by cases n <;> simp [okD] at h
  | n, .scr _, h => by cases n <;> simp [okD] at h
  | n, .glo _, h => by cases n <;> simp [okD] at h
theorem lays_of : ∀ {n : Nat} (ws : List W), ws.all (okD n) = true → PyData.canLayAll0 (toDs ws) = true ∧ PyData.depthAll (toDs ws) ≤ n
  | _, [], _ => ⟨rfl, Nat.zero_le _⟩
  | n, w :: ws, h => by
    rw [List.all_cons, Bool.and_eq_true] at h
    obtain ⟨h1, h2⟩ := lay_of w h.1
    obtain ⟨h3, h4⟩ := lays_of ws h.2
    exact ⟨by show ((toD w).canLay0 && PyData.canLayAll0 (toDs ws)) = true; rw [h1, h3]; rfl, by show max _ _ ≤ n; omega⟩
end
theorem eqvs_of {n m : Nat} (ih : ∀ (x y : W), okD n x = true → okD m y = true → PyData.eqv (toD x) (toD y) = eqW x y) : ∀ (xs ys : List W), xs.all (okD n) = true → ys.all (okD m) = true → PyData.eqvAll (toDs xs) (toDs ys) = eqWs xs ys
  | [], [], _, _ => rfl
  | [], _ :: _, _, _ => rfl
  | _ :: _, [], _, _ => rfl
  | x :: xs, y :: ys, hx, hy => by
    rw [List.all_cons, Bool.and_eq_true] at hx hy
    show (PyData.eqv (toD x) (toD y) && PyData.eqvAll (toDs xs) (toDs ys)) = (eqW x y && eqWs xs ys)
    rw [ih x y hx.1 hy.1, eqvs_of ih xs ys hx.2 hy.2]
theorem eqv_of {n : Nat} : ∀ {m : Nat} (x y : W), okD n x = true → okD m y = true → PyData.eqv (toD x) (toD y) = eqW x y := by
  induction n with
  | zero =>
    intro m x y hx hy
    cases x <;> cases y <;> first
      | rfl
      | (exfalso; clear hy; simp [okD] at hx; done)
      | (exfalso; clear hx; cases m <;> simp [okD] at hy <;> done)
  | succ n ih =>
    intro m x y hx hy
    cases x <;> cases y <;> first
      | rfl
      | (exfalso; clear hy; simp [okD] at hx; done)
      | (exfalso; clear hx; cases m <;> simp [okD] at hy <;> done)
      | (cases m with
         | zero => simp [okD] at hy
         | succ m => exact eqvs_of (fun x y => ih x y) _ _ hx hy)
theorem shaped_of {w : W} (h : okD 64 w = true) : SeqAt.shaped (toD w) = true := by
  obtain ⟨h1, h2⟩ := lay_of w h
  unfold SeqAt.shaped
  rw [h1, decide_eq_true h2]
  rfl
end
end Sh
namespace Sh
open PySem L2
open PyProof.Rows hiding St
def lim : Int := 10 ^ 200
def Bd (i : Int) : Prop := -lim < i ∧ i < lim
theorem lim_lt : lim.natAbs < 2 ^ 700 := by decide +kernel
theorem Bd.abs {i : Int} (h : Bd i) : i.natAbs < 2 ^ 700 := by
  have h1 := lim_lt
  obtain ⟨h2, h3⟩ := h
  omega
theorem Bd.mul {i j : Int} (h : Bd i) (k : Bd j) : CMulW i j := wide_mul h.abs k.abs (by decide) (by decide) (by decide)
section
variable {K : PySem.W.Frag} {Lv : Addr → Prop} {H : Hp}
theorem RelWs.drop : ∀ {ws : List W} {vs : List V} (n : Nat), RelWs K Lv H ws vs → RelWs K Lv H (ws.drop n) (vs.drop n)
  | _, _, 0, r => r
  | _, _, _ + 1, .nil => .nil
  | _, _, n + 1, .cons _ r => RelWs.drop n r
theorem RelWs.take : ∀ {ws : List W} {vs : List V} (n : Nat), RelWs K Lv H ws vs → RelWs K Lv H (ws.take n) (vs.take n)
  | _, _, 0, _ => .nil
  | _, _, _ + 1, .nil => .nil
  | _, _, n + 1, .cons h r => .cons h (RelWs.take n r)
theorem RelWs.ints : ∀ (ns : List Int), RelWs K Lv H (ns.map W.int) (ns.map V.int)
  | [] => .nil
  | n :: ns => .cons (.int n) (RelWs.ints ns)
theorem RelWs.reverse {ws : List W} {vs : List V} (r : RelWs K Lv H ws vs) : RelWs K Lv H ws.reverse vs.reverse := by
  induction ws generalizing vs with
  | nil => cases r; exact .nil
  | cons w ws ih =>
    cases r with
    | cons h r =>
      rw [List.reverse_cons, List.reverse_cons]
      exact (ih r).append (.cons h .nil)
end
section
variable {X : Cx} {F : Addr → Prop} {Wx : WX} {a b c e : Expr} {es : List Expr} {pos : Pos} {ia ib ic : IE}
abbrev rAddStr : R2 := fun x y H Q => ∃ i j, x = .str i ∧ y = .str j ∧ i.length + j.length ≤ sizeLine ∧ Q (.str (i ++ j)) H
def rAdds (K : PySem.W.Frag) : R2 := fun x y H Q => rI0 (fun i j => .int (i + j)) x y H Q ∨ rAddStr x y H Q ∨ rCatA K x y H Q ∨ rCat x y H Q
theorem op_adds : OpR X (binaryOp .Add) (rAdds X.K) := op_add.or (op_add_str.or (op_catA.or op_cat))
def gAdd : W → W → (W → Prop) → Prop := fun x y P => match x, y with
  | .int i, .int j => P (.int (i + j))
  | .str i, .str j => i.length + j.length ≤ sizeLine ∧ P (.str (i ++ j))
  | .tup xs, .tup ys => xs.length + ys.length ≤ sizeLine ∧ P (.tup (xs ++ ys))
  | .lst xs, .lst ys => xs.length + ys.length ≤ sizeLine ∧ P (.lst (xs ++ ys))
  | _, _ => False
theorem opG_add {K : PySem.W.Frag} : OpG K (rAdds K) gAdd := by
  intro F st σ H x y v u P Q h l rx ry k
  unfold gAdd at h
  split at h
  · cases rx; cases ry
    exact .inl ⟨_, _, rfl, rfl, k _ _ H h l .refl (.int _)⟩
  · cases rx; cases ry
    exact .inr (.inl ⟨_, _, rfl, rfl, h.1, k _ _ H h.2 l .refl (.str _)⟩)
  · cases rx with
    | tup fx rsx =>
      cases ry with
      | tup fy rsy =>
        rename_i a vs b us
        refine .inr (.inr (.inl ⟨a, b, vs, us, rfl, rfl, fx.sq, fy.sq, by rw [← rsx.length, ← rsy.length]; exact h.1, fun e => ?_, fun e1 e2 => ?_, fun _ _ p hp => ?_⟩))
        · subst e
          cases rsx
          exact k _ _ H h.2 l .refl (.tup fy rsy)
        · subst e2
          cases rsy
          exact k _ _ H h.2 l .refl (.tup fx (by rw [List.append_nil]; exact rsx))
        · have s := Step.laid (o := .tup (vs ++ us)) l hp
          exact k _ _ _ h.2 (l.laid hp) s (.tup (FzT.new l hp) ((rsx.append rsy).mono s.mv))
  · cases rx with
    | lst fx rsx =>
      cases ry with
      | lst fy rsy =>
        rename_i a vs b us
        refine .inr (.inr (.inr ⟨a, b, vs, us, rfl, rfl, fx.1, fy.1, by rw [← rsx.length, ← rsy.length]; exact h.1, fun p hp => ?_⟩))
        have s := Step.laid (o := .lst (vs ++ us)) l hp
        exact k _ _ _ h.2 (l.laid hp) s (.lst (FzL.new l hp) ((rsx.append rsy).mono s.mv))
  · exact h.elim
theorem i_add (ha : PE X a (LE X.K F Wx ia)) (hb : PE X b (LE X.K F Wx ib)) : PE X (.BinOp a .Add b pos) (LE X.K F Wx (iB gAdd ia ib)) := i_op op_adds opG_add ha hb
abbrev gSub := gI fun i j => .int (i - j)
theorem i_sub (ha : PE X a (LE X.K F Wx ia)) (hb : PE X b (LE X.K F Wx ib)) : PE X (.BinOp a .Sub b pos) (LE X.K F Wx (iB gSub ia ib)) := i_op op_sub (opG_I fun _ _ _ _ => .int _) ha hb
def MulOk (i j : Int) : Prop := (Bd i ∧ Bd j) ∨ (-(2 ^ 64) < i ∧ i < 2 ^ 64) ∨ (-(2 ^ 64) < j ∧ j < 2 ^ 64)
theorem MulOk.ok {i j : Int} (h : MulOk i j) : IntMulOk i j := by
  rcases h with h | h
  · exact (h.1.mul h.2).ok
  · exact CMul.ok h
def timesS (x : Str) (n : Nat) : Str := ⟨(List.replicate n x.cps).foldl (· ++ ·) #[]⟩
theorem times_size (xs : Array Nat) : ∀ (n : Nat) (acc : Array Nat), ((List.replicate n xs).foldl (· ++ ·) acc).size = acc.size + xs.size * n
  | 0, acc => by simp
  | n + 1, acc => by
    rw [List.replicate_succ, List.foldl_cons, times_size xs n, Array.size_append, Nat.mul_succ]
    omega
theorem timesS_len (x : Str) (n : Nat) : (timesS x n).length = x.length * n := by
  show (Array.size _) = x.cps.size * n
  unfold timesS
  rw [times_size]
  simp
abbrev rMulS : R2 := fun x y H Q => ∃ (i : Str) (n : Int), x = .str i ∧ y = .int n ∧ 2 ≤ n ∧ n ≤ 1000000 ∧ i.length ≠ 0 ∧ i.length * n.toNat ≤ sizeLine ∧ Q (.str (timesS i n.toNat)) H
theorem op_mul_str : OpR X (binaryOp .Mult) rMulS := by
  intro pins s σ H x y v u Q I rx ry h
  obtain ⟨i, n, rfl, rfl, h1, h2, h3, hz, q⟩ := h
  obtain ⟨t, rfl⟩ := rx
  obtain ⟨t', rfl⟩ := ry
  have e1 : ¬ n < 1 := by omega
  have e2 : (n == 1 || i.length == 0) = false := by
    have a : (n == 1) = false := by simp; omega
    have b : (i.length == 0) = false := by simp [h3]
    rw [a, b]; rfl
  refine PySem.P.mul_str ?_ (fun _ _ => ?_) (fun _ _ => ?_) ?_
  · have a : ¬ n < -(2 ^ 63 : Int) := by omega
    have b : ¬ n ≥ 2 ^ 63 := by omega
    rw [decide_eq_false a, decide_eq_false b]; rfl
  · have hs : (i.length : Int) * n ≤ sizeLine := by
      have e : ((i.length * n.toNat : Nat) : Int) = (i.length : Int) * n := by
        rw [Int.natCast_mul, Int.toNat_of_nonneg (by omega)]
      rw [← e]; exact_mod_cast hz
    have z : (sizeLine : Int) ≤ 2 ^ 63 - 1 := by decide
    intro w
    have w2 : (2 ^ 63 - 1) < (i.length : Int) * n := (Int.ediv_lt_iff_lt_mul (by omega)).mp w
    omega
  · exact (by unfold PySem.Builtin.Str.tooLong; exact decide_eq_false (Nat.not_lt.mpr hz))
  · rw [if_neg e1, e2, if_neg Bool.false_ne_true]
    refine ⟨?_, ⟨.str _, H, I.tok _, ⟨_, rfl⟩, q⟩⟩
    have e : (timesS i n.toNat).length = i.length * n.toNat := timesS_len i n.toNat
    exact Nat.le_trans (Nat.le_of_eq e) hz
def rMuls : R2 := fun x y H Q => rI MulOk (fun i j => .int (i * j)) x y H Q ∨ rMulS x y H Q ∨ rRep x y H Q
theorem op_mulI : OpR X (binaryOp .Mult) (rI MulOk fun i j => .int (i * j)) := opI fun _ _ _ _ _ _ _ hc q => mul_int q hc.ok
theorem op_muls : OpR X (binaryOp .Mult) rMuls := op_mulI.or (op_mul_str.or op_rep)
def gMul : W → W → (W → Prop) → Prop := fun x y P => match x, y with
  | .int i, .int j => MulOk i j ∧ P (.int (i * j))
  | .str i, .int n => 2 ≤ n ∧ n ≤ 1000000 ∧ i.length ≠ 0 ∧ i.length * n.toNat ≤ sizeLine ∧ P (.str (timesS i n.toNat))
  | .lst ws, .int k => -(2 ^ 63) ≤ k ∧ k < 2 ^ 63 ∧ ws.length * k.toNat ≤ sizeLine ∧ P (.lst (List.replicate k.toNat ws).flatten)
  | _, _ => False
theorem RelWs.times {K : PySem.W.Frag} {Lv : Addr → Prop} {H : Hp} {ws : List W} {vs : List V} (r : RelWs K Lv H ws vs) : ∀ n : Nat, RelWs K Lv H (List.replicate n ws).flatten (List.replicate n vs).flatten
  | 0 => .nil
  | n + 1 => by
    rw [List.replicate_succ, List.replicate_succ, List.flatten_cons, List.flatten_cons]
    exact r.append (RelWs.times r n)
theorem opG_mul {K : PySem.W.Frag} : OpG K rMuls gMul := by
  intro F st σ H x y v u P Q h l rx ry k
  unfold gMul at h
  split at h
  · cases rx; cases ry
    exact .inl ⟨_, _, rfl, rfl, h.1, k _ _ H h.2 l .refl (.int _)⟩
  · cases rx; cases ry
    obtain ⟨h1, h2, h3, h4, p⟩ := h
    exact .inr (.inl ⟨_, _, rfl, rfl, h1, h2, h3, h4, k _ _ H p l .refl (.str _)⟩)
  · cases rx with
    | lst f rs =>
      cases ry
      obtain ⟨h1, h2, h3, p⟩ := h
      refine .inr (.inr ⟨_, _, _, rfl, rfl, f.1, h1, h2, by rw [← rs.length]; exact h3, fun q hq => ?_⟩)
      exact k _ _ _ p (l.laid hq) (Step.laid l hq) (.lst (FzL.new l hq) ((rs.times _).mono (Step.laid l hq).mv))
  · exact h.elim
theorem OpR.cond {f : Value → Value → Sem Value} {C C' : Int → Int → Prop} {g : Int → Int → V} (h : OpR X f (rI C g)) (hc : ∀ i j, C' i j → C i j) : OpR X f (rI C' g) := by
  intro pins s σ H x y v u Q I rx ry q
  obtain ⟨i, j, e1, e2, c, q⟩ := q
  exact h pins s σ H x y v u Q I rx ry ⟨i, j, e1, e2, hc _ _ c, q⟩
theorem i_mul (ha : PE X a (LE X.K F Wx ia)) (hb : PE X b (LE X.K F Wx ib)) : PE X (.BinOp a .Mult b pos) (LE X.K F Wx (iB gMul ia ib)) := i_op op_muls opG_mul ha hb
abbrev gDiv := gIC (fun _ j => 0 < j ∧ Bd j) fun i j => .int (i / j)
theorem i_div (ha : PE X a (LE X.K F Wx ia)) (hb : PE X b (LE X.K F Wx ib)) : PE X (.BinOp a .FloorDiv b pos) (LE X.K F Wx (iB gDiv ia ib)) :=
  i_op (OpR.cond op_fdivW fun _ _ h => wide_div h.1 h.2.abs (by decide) (by decide)) (opG_IC fun _ _ _ _ => .int _) ha hb
abbrev gMod := gIC (fun _ j => 0 < j) fun i j => .int (i % j)
theorem i_mod (ha : PE X a (LE X.K F Wx ia)) (hb : PE X b (LE X.K F Wx ib)) : PE X (.BinOp a .Mod b pos) (LE X.K F Wx (iB gMod ia ib)) := i_op op_mod (opG_IC fun _ _ _ _ => .int _) ha hb
abbrev gPow := gIC CPow fun i j => .int (i ^ j.toNat)
theorem i_pow (ha : PE X a (LE X.K F Wx ia)) (hb : PE X b (LE X.K F Wx ib)) : PE X (.BinOp a .Pow b pos) (LE X.K F Wx (iB gPow ia ib)) := i_op op_pow (opG_IC fun _ _ _ _ => .int _) ha hb
def iNeg (ia : IE) : IE := fun EI st Q => ia EI st fun x st1 => match x with
  | .int i => Q (.int (-i)) st1
  | _ => False
theorem i_neg (ha : PE X a (LE X.K F Wx ia)) : PE X (.UnaryOp .USub a pos) (LE X.K F Wx (iNeg ia)) := by
  refine pe_imp (pe_un un_neg ha) fun σ H Q h => ?_
  obtain ⟨st, QI, EI, l, q, ux, k⟩ := h
  refine ⟨st, _, EI, l, q, ux, fun x st1 v H1 q1 l1 s1 r1 => ?_⟩
  split at q1
  · cases r1
    exact ⟨_, rfl, k _ _ _ H1 q1 l1 s1 (.int _)⟩
  · exact q1.elim

abbrev gLt := gI fun i j => .bl (decide (i < j))
abbrev gLe := gI fun i j => .bl (decide (i ≤ j))
abbrev gGt := gI fun i j => .bl (decide (j < i))
abbrev gGe := gI fun i j => .bl (decide (j ≤ i))
theorem og_lt {K : PySem.W.Frag} : OpG K (rI0 fun i j => .bl (decide (i < j))) gLt := opG_I fun _ _ _ _ => .bl _
theorem og_gt {K : PySem.W.Frag} : OpG K (rI0 fun i j => .bl (decide (j < i))) gGt := opG_I fun _ _ _ _ => .bl _
theorem og_ge {K : PySem.W.Frag} : OpG K (rI0 fun i j => .bl (decide (j ≤ i))) gGe := opG_I fun _ _ _ _ => .bl _
/-- what == takes -/
def eqOk : W → W → Bool
  | .str _, .str _ => true
  | x, y => okD 64 x && okD 64 y
def gEq : W → W → (W → Prop) → Prop := fun x y P => eqOk x y = true ∧ P (.bl (eqW x y))
def gNe : W → W → (W → Prop) → Prop := fun x y P => eqOk x y = true ∧ P (.bl (!eqW x y))
def rEqS (K : PySem.W.Frag) : R2 := fun x y H Q => rEq x y H Q ∨ rEqD K x y H Q
def rNeS (K : PySem.W.Frag) : R2 := fun x y H Q => rNe x y H Q ∨ rNeD K x y H Q
theorem op_eqS (hu : X.A.units + 64 < cLine) : OpR X (compareOp .Eq) (rEqS X.K) := op_eq.or (op_eqD hu)
theorem op_neS (hu : X.A.units + 64 < cLine) : OpR X (compareOp .NotEq) (rNeS X.K) := op_ne.or (op_neD hu)
theorem eqOk_cases {x y : W} (h : eqOk x y = true) : (∃ a b, x = .str a ∧ y = .str b) ∨ okD 64 x = true ∧ okD 64 y = true := by
  unfold eqOk at h
  split at h
  · exact .inl ⟨_, _, rfl, rfl⟩
  · exact .inr (Bool.and_eq_true .. ▸ h)
theorem og_eq {K : PySem.W.Frag} : OpG K (rEqS K) gEq := by
  intro F st σ H x y v u P Q h l rx ry k
  obtain ⟨hx, p⟩ := h
  rcases eqOk_cases hx with ⟨a, b, rfl, rfl⟩ | ⟨hx, hy⟩
  · cases rx; cases ry
    refine .inl ⟨rfl, ?_⟩
    rw [dec_str]
    exact k _ _ H p l .refl (.bl _)
  · refine .inr ⟨_, _, dp_of x hx rx, dp_of y hy ry, shaped_of hx, shaped_of hy, ?_⟩
    rw [eqv_of x y hx hy]
    exact k _ _ H p l .refl (.bl _)
theorem og_ne {K : PySem.W.Frag} : OpG K (rNeS K) gNe := by
  intro F st σ H x y v u P Q h l rx ry k
  obtain ⟨hx, p⟩ := h
  rcases eqOk_cases hx with ⟨a, b, rfl, rfl⟩ | ⟨hx, hy⟩
  · cases rx; cases ry
    refine .inl ⟨rfl, ?_⟩
    rw [dec_str]
    exact k _ _ H p l .refl (.bl _)
  · refine .inr ⟨_, _, dp_of x hx rx, dp_of y hy ry, shaped_of hx, shaped_of hy, ?_⟩
    rw [eqv_of x y hx hy]
    exact k _ _ H p l .refl (.bl _)
/-- flat values -/
def flatW : W → Bool
  | .non => true
  | .bl _ => true
  | .int _ => true
  | .str _ => true
  | _ => false
def inW (x : W) (ws : List W) : Bool := ws.any fun y => eqW y x
def gIn (neg : Bool) : W → W → (W → Prop) → Prop := fun x y P => match y with
  | .lst ws => flatW x = true ∧ ws.all flatW = true ∧ P (.bl (if neg then !inW x ws else inW x ws))
  | .tup ws => flatW x = true ∧ ws.all flatW = true ∧ P (.bl (if neg then !inW x ws else inW x ws))
  | _ => False
def isN : W → Bool
  | .non => true
  | _ => false
def gIsN (neg : Bool) : W → W → (W → Prop) → Prop := fun x y P => match y with
  | .non => P (.bl (if neg then !isN x else isN x))
  | _ => False
theorem i_gt (ha : PE X a (LE X.K F Wx ia)) (hb : PE X b (LE X.K F Wx ib)) : PE X (.Compare a [.Gt] [b] pos) (LE X.K F Wx (iB gGt ia ib)) := i_cmp op_gt og_gt ha hb (nomark _)
theorem i_eq (hu : X.A.units + 64 < cLine) (ha : PE X a (LE X.K F Wx ia)) (hb : PE X b (LE X.K F Wx ib)) : PE X (.Compare a [.Eq] [b] pos) (LE X.K F Wx (iB gEq ia ib)) := i_cmp (op_eqS hu) og_eq ha hb (nomark _)
def iChain (g g' : W → W → (W → Prop) → Prop) (ia ib ic : IE) : IE := fun EI st Q => ia EI st fun x st1 => ib EI st1 fun y st2 => g x y fun z => match z with
  | .bl k => if k = true then ic EI st2 fun w st3 => g' y w fun r => Q r st3 else Q (.bl false) st2
  | _ => False
def gTru (x : W) (P : Bool → Prop) : Prop := match x with
  | .non => P false
  | .bl b => P b
  | .int i => P (i != 0)
  | .str y => y.length ≤ sizeLine ∧ P ((y.length : Int) != 0)
  | .tup ws => P (!ws.isEmpty)
  | .lst ws => P (!ws.isEmpty)
  | .dct ws => P (!ws.isEmpty)
  | _ => False
theorem RelWs.empty {K : PySem.W.Frag} {Lv : Addr → Prop} {H : Hp} {ws : List W} {vs : List V} (r : RelWs K Lv H ws vs) : vs.isEmpty = ws.isEmpty := by
  cases r <;> rfl
theorem RelKs.empty {K : PySem.W.Frag} {Lv : Addr → Prop} {H : Hp} {ws : List (Key × W)} {vs : List (Key × V)} (r : RelKs K Lv H ws vs) : vs.isEmpty = ws.isEmpty := by
  cases r <;> rfl
theorem tru_rel {K : PySem.W.Frag} {Lv : Addr → Prop} {H : Hp} {w : W} {v : V} {P : Bool → Prop} (h : gTru w P) (r : RelW K Lv H w v) : ∃ k, TruV K v H k ∧ P k := by
  cases r with
  | non => exact ⟨_, rfl, h⟩
  | bl b => exact ⟨_, rfl, h⟩
  | int i => exact ⟨_, rfl, h⟩
  | str x => exact ⟨_, ⟨h.1, rfl⟩, h.2⟩
  | tup f rs => exact ⟨_, .inr (.inl ⟨_, f.sq, rfl⟩), by rw [rs.empty]; exact h⟩
  | lst f rs => exact ⟨_, .inl ⟨_, f.sq, rfl⟩, by rw [rs.empty]; exact h⟩
  | dct e n rs => exact ⟨_, .inr (.inr ⟨_, e, rfl⟩), by rw [rs.empty]; exact h⟩
  | ty n => exact h.elim
  | ref a => exact h.elim
  | obj e n rs => exact h.elim
  | dcT e n rs => exact h.elim
  | exn0 => exact h.elim
  | exn1 e n rs => exact h.elim
  | scr f => exact h.elim
  | glo n => exact h.elim
/-- a value as a test -/
def tTru' (ia : IE) : IT := fun EI st Q => ia EI st fun x st1 => gTru x fun b => Q b st1
theorem t_tru (ha : PE X a (LE X.K F Wx ia)) (he : ∀ whole, isTrue a X.env whole = (do let v ← whole; standAt a.pos; holding [v] (truthy v)) := by intro _; rfl) : PT X a (LT X.K F Wx (tTru' ia)) := by
  refine pt_imp (pt_truth ha he) fun σ H Q h => ?_
  obtain ⟨st, QI, EI, l, q, ux, k⟩ := h
  refine ⟨st, _, EI, l, q, ux, fun x st1 v H1 q1 l1 s1 r1 => ?_⟩
  obtain ⟨b, t, p⟩ := tru_rel q1 r1
  exact ⟨b, t, k b st1 H1 p l1 s1⟩
/-- a comparison as a test -/
def tBl (ia : IE) : IT := fun EI st Q => ia EI st fun x st1 => match x with
  | .bl b => Q b st1
  | _ => False
theorem t_of_bl {K : PySem.W.Frag} {σ : L2.St} {H : Hp} {Q : Bool → Hp → Prop} (h : LT K F Wx (tBl ia) σ H Q) : LE K F Wx ia σ H fun x H' => ∃ k, x = .bl k ∧ Q k H' := by
  obtain ⟨st, QI, EI, l, q, ux, k⟩ := h
  refine ⟨st, _, EI, l, q, ux, fun x st1 v H1 q1 l1 s1 r1 => ?_⟩
  split at q1
  · cases r1
    exact ⟨_, rfl, k _ st1 H1 q1 l1 s1⟩
  · exact q1.elim
theorem t_cmp {op : CmpOp} {r : R2} {g : W → W → (W → Prop) → Prop} (ho : OpR X (compareOp op) r) (hg : OpG X.K r g) (ha : PE X a (LE X.K F Wx ia)) (hb : PE X b (LE X.K F Wx ib)) (hm : behindInMarks op b = false) : PT X (.Compare a [op] [b] pos) (LT X.K F Wx (tBl (iB g ia ib))) :=
  pt_imp (pt_cmpR ho ha hb hm) fun _ _ _ h => LE_op hg (t_of_bl h)
theorem t_lt (ha : PE X a (LE X.K F Wx ia)) (hb : PE X b (LE X.K F Wx ib)) : PT X (.Compare a [.Lt] [b] pos) (LT X.K F Wx (tBl (iB gLt ia ib))) := t_cmp op_lt og_lt ha hb (nomark _)
theorem t_gt (ha : PE X a (LE X.K F Wx ia)) (hb : PE X b (LE X.K F Wx ib)) : PT X (.Compare a [.Gt] [b] pos) (LT X.K F Wx (tBl (iB gGt ia ib))) := t_cmp op_gt og_gt ha hb (nomark _)
theorem t_ge (ha : PE X a (LE X.K F Wx ia)) (hb : PE X b (LE X.K F Wx ib)) : PT X (.Compare a [.GtE] [b] pos) (LT X.K F Wx (tBl (iB gGe ia ib))) := t_cmp op_ge og_ge ha hb (nomark _)
theorem t_eq (hu : X.A.units + 64 < cLine) (ha : PE X a (LE X.K F Wx ia)) (hb : PE X b (LE X.K F Wx ib)) : PT X (.Compare a [.Eq] [b] pos) (LT X.K F Wx (tBl (iB gEq ia ib))) := t_cmp (op_eqS hu) og_eq ha hb (nomark _)
theorem t_ne (hu : X.A.units + 64 < cLine) (ha : PE X a (LE X.K F Wx ia)) (hb : PE X b (LE X.K F Wx ib)) : PT X (.Compare a [.NotEq] [b] pos) (LT X.K F Wx (tBl (iB gNe ia ib))) := t_cmp (op_neS hu) og_ne ha hb (nomark _)
def tAnd' (s t : IT) : IT := fun EI st Q => s EI st fun c st1 => if c = true then t EI st1 Q else Q false st1
def tOr' (s t : IT) : IT := fun EI st Q => s EI st fun c st1 => if c = true then Q true st1 else t EI st1 Q
def tNot' (s : IT) : IT := fun EI st Q => s EI st fun c st1 => Q (!c) st1
variable {ta tb : IT} {rest : List Expr}
theorem w_and1 (ha : PT X a (LT X.K F Wx ta)) : PW X (.BoolOp .And [a] pos) (LT X.K F Wx ta) := pw_and1 ha
theorem w_or1 (ha : PT X a (LT X.K F Wx ta)) : PW X (.BoolOp .Or [a] pos) (LT X.K F Wx ta) := pw_or1 ha
theorem w_and (ha : PT X a (LT X.K F Wx ta)) (hb : PW X (.BoolOp .And (b :: rest) pos) (LT X.K F Wx tb)) : PW X (.BoolOp .And (a :: b :: rest) pos) (LT X.K F Wx (tAnd' ta tb)) := by
  refine pw_imp (pw_and ha hb) fun σ H Q h => ?_
  obtain ⟨st, QI, EI, l, q, ux, k⟩ := h
  refine ⟨st, _, EI, l, q, ux, fun c st1 H1 q1 l1 s1 => ?_⟩
  cases c with
  | true =>
    rw [if_pos rfl] at q1 ⊢
    exact ⟨st1, _, EI, l1, q1, ux.step s1, fun b st2 H2 q2 l2 s2 => k b st2 H2 q2 l2 (s1.trans s2)⟩
  | false =>
    rw [if_neg Bool.false_ne_true] at q1 ⊢
    exact k _ _ H1 q1 l1 s1
theorem w_or (ha : PT X a (LT X.K F Wx ta)) (hb : PW X (.BoolOp .Or (b :: rest) pos) (LT X.K F Wx tb)) : PW X (.BoolOp .Or (a :: b :: rest) pos) (LT X.K F Wx (tOr' ta tb)) := by
  refine pw_imp (pw_or ha hb) fun σ H Q h => ?_
  obtain ⟨st, QI, EI, l, q, ux, k⟩ := h
  refine ⟨st, _, EI, l, q, ux, fun c st1 H1 q1 l1 s1 => ?_⟩
  cases c with
  | true =>
    rw [if_pos rfl] at q1 ⊢
    exact k _ _ H1 q1 l1 s1
  | false =>
    rw [if_neg Bool.false_ne_true] at q1 ⊢
    exact ⟨st1, _, EI, l1, q1, ux.step s1, fun b st2 H2 q2 l2 s2 => k b st2 H2 q2 l2 (s1.trans s2)⟩
theorem t_not (ha : PT X a (LT X.K F Wx ta)) : PT X (.UnaryOp .Not a pos) (LT X.K F Wx (tNot' ta)) := by
  refine pt_imp (pt_not ha) fun σ H Q h => ?_
  obtain ⟨st, QI, EI, l, q, ux, k⟩ := h
  exact ⟨st, _, EI, l, q, ux, fun c st1 H1 q1 l1 s1 => k _ _ H1 q1 l1 s1⟩
def iIf (t : IT) (ia ib : IE) : IE := fun EI st Q => t EI st fun c st1 => if c = true then ia EI st1 Q else ib EI st1 Q
theorem i_if (hc : PT X c (LT X.K F Wx ta)) (ha : PE X a (LE X.K F Wx ia)) (hb : PE X b (LE X.K F Wx ib)) : PE X (.IfExp c a b pos) (LE X.K F Wx (iIf ta ia ib)) := by
  refine pe_imp (pe_ifExp hc ha hb) fun σ H Q h => ?_
  obtain ⟨st, QI, EI, l, q, ux, k⟩ := h
  refine ⟨st, _, EI, l, q, ux, fun c st1 H1 q1 l1 s1 => ?_⟩
  cases c with
  | true =>
    rw [if_pos rfl] at q1 ⊢
    exact ⟨st1, _, EI, l1, q1, ux.step s1, fun w st2 v H2 q2 l2 s2 r2 => k w st2 v H2 q2 l2 (s1.trans s2) r2⟩
  | false =>
    rw [if_neg Bool.false_ne_true] at q1 ⊢
    exact ⟨st1, _, EI, l1, q1, ux.step s1, fun w st2 v H2 q2 l2 s2 r2 => k w st2 v H2 q2 l2 (s1.trans s2) r2⟩
/-- and, or, not as values -/
def iAnd (ia ib : IE) : IE := fun EI st Q => ia EI st fun x st1 => gTru x fun b => if b = true then ib EI st1 Q else Q x st1
def iOr (ia ib : IE) : IE := fun EI st Q => ia EI st fun x st1 => gTru x fun b => if b = true then Q x st1 else ib EI st1 Q
def iNot (ia : IE) : IE := fun EI st Q => ia EI st fun x st1 => gTru x fun b => Q (.bl (!b)) st1
theorem i_one {op : BoolOp} (h : PE X a (LE X.K F Wx ia)) : PE X (.BoolOp op [a] pos) (LE X.K F Wx ia) := pe_one h
theorem i_and (ha : PE X a (LE X.K F Wx ia)) (hb : PE X (.BoolOp .And (b :: rest) pos) (LE X.K F Wx ib)) : PE X (.BoolOp .And (a :: b :: rest) pos) (LE X.K F Wx (iAnd ia ib)) := by
  refine pe_imp (pe_andT ha hb) fun σ H Q h => ?_
  obtain ⟨st, QI, EI, l, q, ux, k⟩ := h
  refine ⟨st, _, EI, l, q, ux, fun x st1 v H1 q1 l1 s1 r1 => ?_⟩
  obtain ⟨c, t, p⟩ := tru_rel q1 r1
  refine ⟨c, t, ?_⟩
  cases c with
  | true =>
    rw [if_pos rfl] at p ⊢
    exact ⟨st1, _, EI, l1, p, ux.step s1, fun w st2 v H2 q2 l2 s2 r2 => k w st2 v H2 q2 l2 (s1.trans s2) r2⟩
  | false =>
    rw [if_neg Bool.false_ne_true] at p ⊢
    exact k _ _ _ H1 p l1 s1 r1
theorem i_or (ha : PE X a (LE X.K F Wx ia)) (hb : PE X (.BoolOp .Or (b :: rest) pos) (LE X.K F Wx ib)) : PE X (.BoolOp .Or (a :: b :: rest) pos) (LE X.K F Wx (iOr ia ib)) := by
  refine pe_imp (pe_orT ha hb) fun σ H Q h => ?_
  obtain ⟨st, QI, EI, l, q, ux, k⟩ := h
  refine ⟨st, _, EI, l, q, ux, fun x st1 v H1 q1 l1 s1 r1 => ?_⟩
  obtain ⟨c, t, p⟩ := tru_rel q1 r1
  refine ⟨c, t, ?_⟩
  cases c with
  | true =>
    rw [if_pos rfl] at p ⊢
    exact k _ _ _ H1 p l1 s1 r1
  | false =>
    rw [if_neg Bool.false_ne_true] at p ⊢
    exact ⟨st1, _, EI, l1, p, ux.step s1, fun w st2 v H2 q2 l2 s2 r2 => k w st2 v H2 q2 l2 (s1.trans s2) r2⟩
theorem i_not (ha : PE X a (LE X.K F Wx ia)) : PE X (.UnaryOp .Not a pos) (LE X.K F Wx (iNot ia)) := by
  refine pe_imp (pe_notT ha) fun σ H Q h => ?_
  obtain ⟨st, QI, EI, l, q, ux, k⟩ := h
  refine ⟨st, _, EI, l, q, ux, fun x st1 v H1 q1 l1 s1 r1 => ?_⟩
  obtain ⟨c, t, p⟩ := tru_rel q1 r1
  exact ⟨c, t, k _ _ _ H1 p l1 s1 (.bl _)⟩
end
end Sh
namespace Sh
open PySem L2
open PyProof.Rows hiding St
section
variable {X : Cx} {F : Addr → Prop} {Wx : WX} {a b c e : Expr} {es : List Expr} {pos : Pos} {ia ib ic : IE}
def atW (ws : List W) (i : Int) (P : W → Prop) : Prop := match atI ws i with
  | some w => P w
  | none => False
theorem atW_inv {ws : List W} {i : Int} {P : W → Prop} (h : atW ws i P) : ∃ w, atI ws i = some w ∧ P w := by
  unfold atW at h
  split at h
  · exact ⟨_, by assumption, h⟩
  · exact h.elim
theorem atI_rel {K : PySem.W.Frag} {Lv : Addr → Prop} {H : Hp} {ws : List W} {vs : List V} {i : Int} {w : W} (r : RelWs K Lv H ws vs) (e : atI ws i = some w) : ∃ v, atI vs i = some v ∧ RelW K Lv H w v := by
  unfold atI at e ⊢
  rw [← r.length]
  cases q : ixN ws.length i with
  | none => rw [q] at e; cases e
  | some j =>
    rw [q, Option.bind_some] at e
    rw [Option.bind_some]
    exact r.get e
/-- an item; of the store's lists too -/
def gIx (st : Stt) (x y : W) (P : W → Prop) : Prop := match x, y with
  | .tup ws, .int i => atW ws i P
  | .lst ws, .int i => atW ws i P
  | .ref a, .int i => (match st.S a with
    | some (.lst ws) => atW ws i P
    | _ => False)
  | .str z, .int i => z.length ≤ sizeLine ∧ (match atI z.cps.toList i with
    | some c => P (.str ⟨#[c]⟩)
    | none => False)
  | _, _ => False
def iIx (ia ib : IE) : IE := fun EI st Q => ia EI st fun x st1 => ib EI st1 fun y st2 => gIx st2 x y fun w => Q w st2
theorem ix_rel {K : PySem.W.Frag} {st : Stt} {σ : L2.St} {H : Hp} {x y : W} {v u : V} {P : W → Prop} {Q : VK} (h : gIx st x y P) (l : Lk K F st σ H) (rx : RelW K (Live F st σ) H x v) (ry : RelW K (Live F st σ) H y u)
    (k : ∀ w z, P w → RelW K (Live F st σ) H w z → Q z H) : rIx K v u H Q := by
  unfold gIx at h
  split at h
  · obtain ⟨w, e, p⟩ := atW_inv h
    cases rx with
    | tup f r =>
      cases ry
      obtain ⟨z, ez, rz⟩ := atI_rel r e
      exact .inr (.inl ⟨_, _, _, z, rfl, rfl, f.sq, ez, k w z p rz⟩)
  · obtain ⟨w, e, p⟩ := atW_inv h
    cases rx with
    | lst f r =>
      cases ry
      obtain ⟨z, ez, rz⟩ := atI_rel r e
      exact .inl ⟨_, _, _, z, rfl, rfl, f.sq, ez, k w z p rz⟩
  · split at h
    · rename_i ws es
      obtain ⟨w, e, p⟩ := atW_inv h
      cases rx
      cases ry
      obtain ⟨vs, ev, r⟩ := l.sto _ _ es
      obtain ⟨z, ez, rz⟩ := atI_rel r e
      exact .inl ⟨_, _, _, z, rfl, rfl, SqL.of ev, ez, k w z p rz⟩
    · exact h.elim
  · obtain ⟨hl, h⟩ := h
    cases rx
    cases ry
    split at h
    · rename_i c ec
      exact .inr (.inr ⟨_, _, c, rfl, rfl, hl, ec, k _ _ h (.str _)⟩)
    · exact h.elim
  · exact h.elim
theorem i_ix (ha : PE X a (LE X.K F Wx ia)) (hb : PE X b (LE X.K F Wx ib)) (hs : PlainIx b := by intro _ _; rfl) : PE X (.Subscript a b pos) (LE X.K F Wx (iIx ia ib)) := by
  refine pe_imp (pe_ix ix_seq ha hb hs) fun σ H Q h => ?_
  obtain ⟨st, QI, EI, l, q, ux, k⟩ := h
  refine ⟨st, _, EI, l, q, ux, fun x st1 v H1 q1 l1 s1 r1 => ⟨st1, _, EI, l1, q1, ux.step s1, fun y st2 u H2 q2 l2 s2 r2 => ?_⟩⟩
  exact ix_rel q2 l2 (r1.mono s2.mv) r2 fun w z p r => k w st2 z H2 p l2 (s1.trans s2) r
/-- an item of an owned list, which stays owned -/
def ownL (st : Stt) (i : Nat) (P : List W → Prop) : Prop := match st.ρ[i]? with
  | some (.own (.lst ws)) => P ws
  | _ => False
theorem ownL_inv {st : Stt} {i : Nat} {P : List W → Prop} (h : ownL st i P) : ∃ ws, st.ρ[i]? = some (.own (.lst ws)) ∧ P ws := by
  unfold ownL at h
  split at h
  · exact ⟨_, by assumption, h⟩
  · exact h.elim
def iIxO (i : Nat) (ib : IE) : IE := fun EI st Q => ownL st i fun _ => ib EI st fun y st1 => ownL st1 i fun ws => match y with
  | .int j => atW ws j fun w => Q w st1
  | _ => False
abbrev IO' := XI → Stt → (Option Int → Stt → Prop) → Prop
def LO (K : PySem.W.Frag) (F : Addr → Prop) (Wx : WX) (i : IO') : TO := fun σ H Q => ∃ st QI EI, Lk K F st σ H ∧ i EI st QI ∧ UpX K F Wx st σ H EI ∧
  ∀ o st' H', QI o st' → Lk K F st' σ H' → Step st σ H st' σ H' → Q o H'
theorem po_imp {X : Cx} {e : Option Expr} {t t' : TO} (h : PO X e t) (m : ∀ σ H Q, t' σ H Q → t σ H Q) : PO X e t' := ⟨fun pins s σ H Q I q => h.run pins s σ H Q I (m _ _ _ q)⟩
def oNone : IO' := fun _ st Q => Q none st
def oSome (ia : IE) : IO' := fun EI st Q => ia EI st fun x st1 => match x with
  | .int i => Q (some i) st1
  | _ => False
theorem o_none : PO X none (LO X.K F Wx oNone) := by
  refine po_imp po_none fun σ H Q h => ?_
  obtain ⟨st, QI, EI, l, q, ux, k⟩ := h
  exact k none st H q l .refl
theorem o_some (ha : PE X a (LE X.K F Wx ia)) : PO X (some a) (LO X.K F Wx (oSome ia)) := by
  refine po_imp (po_some ha) fun σ H Q h => ?_
  obtain ⟨st, QI, EI, l, q, ux, k⟩ := h
  refine ⟨st, _, EI, l, q, ux, fun x st1 v H1 q1 l1 s1 r1 => ?_⟩
  split at q1
  · cases r1
    exact ⟨_, rfl, k _ _ H1 q1 l1 s1⟩
  · exact q1.elim
def cutW {α : Type} (xs : List α) (lo hi : Option Int) : List α := (xs.drop (HT.sIx xs.length 0 lo)).take (HT.sIx xs.length xs.length hi - HT.sIx xs.length 0 lo)
theorem cut_rel {K : PySem.W.Frag} {Lv : Addr → Prop} {H : Hp} {ws : List W} {vs : List V} (r : RelWs K Lv H ws vs) (lo hi : Option Int) : RelWs K Lv H (cutW ws lo hi) (cutV vs lo hi) := by
  unfold cutW cutV
  rw [r.length]
  exact (r.drop _).take _
def rSls (K : PySem.W.Frag) : V → Option Int → Option Int → Hp → VK → Prop := fun x lo hi H Q => rSlA K x lo hi H Q ∨ rSlL K x lo hi H Q
theorem sl_any : SlR X (rSls X.K) := sl_tupA.or sl_list
def gSl (x : W) (lo hi : Option Int) (P : W → Prop) : Prop := match x with
  | .tup ws => P (.tup (cutW ws lo hi))
  | .lst ws => P (.lst (cutW ws lo hi))
  | .scr ns => P (.lst ((cutW ns lo hi).map .int))
  | _ => False
theorem cutV_map (ns : List Int) (lo hi : Option Int) : cutV (ns.map V.int) lo hi = (cutW ns lo hi).map V.int := by
  unfold cutW cutV
  rw [List.length_map, List.map_take, List.map_drop]
theorem cut_whole {α : Type} {xs : List α} {lo hi : Option Int} (h : HT.sIx xs.length 0 lo = 0 ∧ HT.sIx xs.length xs.length hi = xs.length) : cutW xs lo hi = xs := by
  unfold cutW
  rw [h.1, h.2]
  simp
theorem sl_rel {K : PySem.W.Frag} {st : Stt} {σ : L2.St} {H : Hp} {x : W} {v : V} {lo hi : Option Int} {P : W → Prop} {Q : VK} (h : gSl x lo hi P) (l : Lk K F st σ H) (rx : RelW K (Live F st σ) H x v)
    (k : ∀ w z H', P w → Lk K F st σ H' → Step st σ H st σ H' → RelW K (Live F st σ) H' w z → Q z H') : rSls K v lo hi H Q := by
  unfold gSl at h
  split at h
  · cases rx with
    | tup f r =>
      rename_i a vs
      refine .inl ⟨a, vs, rfl, f.sq, fun e => ?_, fun _ p hp => ?_⟩
      · rw [cut_whole (by rw [r.length]; exact e)] at h
        exact k _ _ H h l .refl (.tup f r)
      · have s := Step.laid (o := .tup (cutV vs lo hi)) l hp
        exact k _ _ _ h (l.laid hp) s (.tup (FzT.new l hp) ((cut_rel r lo hi).mono s.mv))
  · cases rx with
    | lst f r =>
      rename_i a vs
      refine .inr ⟨a, vs, rfl, f.sq, fun p hp => ?_⟩
      have s := Step.laid (o := .lst (cutV vs lo hi)) l hp
      exact k _ _ _ h (l.laid hp) s (.lst (FzL.new l hp) ((cut_rel r lo hi).mono s.mv))
  · cases rx with
    | scr f =>
      rename_i ns a
      refine .inr ⟨a, _, rfl, f.sq, fun p hp => ?_⟩
      have s := Step.laid (o := .lst (cutV (ns.map V.int) lo hi)) l hp
      refine k _ _ _ h (l.laid hp) s (.lst (FzL.new l hp) ?_)
      rw [cutV_map]
      exact RelWs.ints _
  · exact h.elim
def iSl (ia : IE) (lo hi : IO') : IE := fun EI st Q => ia EI st fun x st1 => lo EI st1 fun i st2 => hi EI st2 fun j st3 => gSl x i j fun w => Q w st3
theorem i_sl {lo hi : Option Expr} {il ih : IO'} {p2 : Pos} (ha : PE X a (LE X.K F Wx ia)) (hl : PO X lo (LO X.K F Wx il)) (hh : PO X hi (LO X.K F Wx ih)) : PE X (.Subscript a (.Slice lo hi none p2) pos) (LE X.K F Wx (iSl ia il ih)) := by
  refine pe_imp (pe_slice sl_any ha hl hh) fun σ H Q h => ?_
  obtain ⟨st, QI, EI, l, q, ux, k⟩ := h
  refine ⟨st, _, EI, l, q, ux, fun x st1 v H1 q1 l1 s1 r1 => ⟨st1, _, EI, l1, q1, ux.step s1, fun i st2 H2 q2 l2 s2 => ⟨st2, _, EI, l2, q2, ux.step (s1.trans s2), fun j st3 H3 q3 l3 s3 => ?_⟩⟩⟩
  exact sl_rel q3 l3 ((r1.mono s2.mv).mono s3.mv) fun w z H4 p l4 s4 r4 => k w st3 z H4 p l4 (((s1.trans s2).trans s3).trans s4) r4
/-- xs[::-1], a list -/
def iRevL (ia : IE) : IE := fun EI st Q => ia EI st fun x st1 => match x with
  | .lst ws => Q (.lst ws.reverse) st1
  | _ => False
theorem i_revL {k' : Nat} {p1 p2 p3 : Pos} (ha : PE X a (LE X.K F Wx ia)) : PE X (.Subscript a (.Slice none none (some (.UnaryOp .USub (.Constant (.int 1) k' p1) p2)) p3) pos) (LE X.K F Wx (iRevL ia)) := by
  refine pe_imp (pe_revL ha) fun σ H Q h => ?_
  obtain ⟨st, QI, EI, l, q, ux, k⟩ := h
  refine ⟨st, _, EI, l, q, ux, fun x st1 v H1 q1 l1 s1 r1 => ?_⟩
  split at q1
  · cases r1 with
    | lst f r =>
      rename_i a' vs
      refine ⟨a', vs, rfl, f.sq, fun p hp => ?_⟩
      have s := Step.laid (o := .lst vs.reverse) l1 hp
      exact k _ _ _ _ q1 (l1.laid hp) (s1.trans s) (.lst (FzL.new l1 hp) (r.reverse.mono s.mv))
  · exact q1.elim

def iCall (spec : ISp) (i : IA) : IE := fun EI st Q => i EI st fun ws st1 => spec ws st1.S (fun r S' => Q r.fz { st1 with S := S' }) fun x S' => EI x { st1 with S := S' }
def nCall (spec : ISp) (i : IA) : IN := fun EI st Q => i EI st fun ws st1 => spec ws st1.S (fun r S' => match r with
  | .new o => Q o { st1 with S := S' }
  | .val _ => False) fun x S' => EI x { st1 with S := S' }
theorem RetOk.fz {K : PySem.W.Frag} {st : Stt} {σ : L2.St} {H : Hp} {r : R} {S' : Sto} {v : V} {H' : Hp} (l : Lk K F st σ H) (h : RetOk K F st σ H r S' v H') : Lk K F ⟨[], S'⟩ [] H' ∧ RelW K (Live F ⟨[], S'⟩ []) H' r.fz v := by
  obtain ⟨s, h⟩ := h
  cases r with
  | val w => exact h
  | new o =>
    obtain ⟨a, rfl, l2, r, n⟩ := h
    have m : Mv (Live (FA F a) ⟨[], S'⟩ []) H' (Live F ⟨[], S'⟩ []) H' := mv_same fun b z => z.imp id .inl
    refine ⟨l2.less fun _ z => .inl z, (r.move (fun _ z => z) m).fz fun z => ?_⟩
    rcases z with (z | z) | z
    · exact z (l2.fdis a (.inr rfl))
    · exact ow_nil z
    · exact NewAt.nf l n z
/-- a promise is kept at a call -/
theorem call_ok {K : PySem.W.Frag} {n : Nat} {spec : ISp} {st : Stt} {σ : L2.St} {H : Hp} {ws : List W} {vs : List V} {QI : R → Sto → Prop} {EI : XI} {Q : VK} (l : Lk K F st σ H) (r : RelWs K (Live F st σ) H ws vs) (hn : ws.length = n)
    (hs : spec ws st.S QI fun x S' => EI x { st with S := S' }) (ux : UpX K F Wx st σ H EI)
    (k : ∀ r S' v H', QI r S' → RetOk K (Fo F st σ) ⟨[], st.S⟩ [] H r S' v H' → Q v H') : spI K n spec vs H Q (WE Wx σ) := by
  refine ⟨Fo F st σ, st.S, ws, _, _, l.enter, r.mono (mv_same fun a z => live_enter.mp z), hn, hs, k, fun x S' cls d H' e l2 s2 rx => ?_⟩
  obtain ⟨l3, s3⟩ := l.back s2 l2 (fun _ z => z) fun a z => .inl z
  refine ux x { st with S := S' } cls d H' e l3 s3 ?_
  obtain ⟨e1, z⟩ := rx
  refine ⟨e1, z.imp id ?_⟩
  rintro ⟨a, vs', e2, e3, e4, e5⟩
  have lv : ∀ b, Live F { st with S := S' } σ b → Live (Fo F st σ) ⟨[], S'⟩ [] b := fun b z => (live_enter (F := F) (st := { st with S := S' }) (σ := σ)).mpr z
  exact ⟨a, vs', e2, e3, fun z => e4 (lv a z), e5.mono (mv_same lv)⟩
theorem call_val {K : PySem.W.Frag} {n : Nat} {spec : ISp} {ia : IA} {σ : L2.St} {H : Hp} {Q : VK} (h : LE K F Wx (iCall spec ia) σ H Q) : tCallS (spI K n spec) (WE Wx) (LA K F Wx n ia) σ H Q := by
  obtain ⟨st, QI, EI, l, q, ux, k⟩ := h
  refine ⟨st, _, EI, l, q, ux, fun ws st1 vs H1 hn q1 l1 s1 r1 => ?_⟩
  refine call_ok l1 r1 hn q1 (ux.step s1) fun r S' v H2 q2 h2 => ?_
  have ⟨l2, rv⟩ := h2.fz l1.enter
  obtain ⟨l3, s3⟩ := l1.back h2.1 l2 (fun _ z => z) fun a z => .inl z
  exact k r.fz _ v H2 q2 l3 (s1.trans s3) (rv.mono (mv_same fun b z => (live_enter (F := F) (st := { st1 with S := S' }) (σ := σ)).mpr z))
theorem call_new {K : PySem.W.Frag} {n : Nat} {spec : ISp} {ia : IA} {σ : L2.St} {H : Hp} {Q : VK} (h : LN K F Wx (nCall spec ia) σ H Q) : tCallS (spI K n spec) (WE Wx) (LA K F Wx n ia) σ H Q := by
  obtain ⟨st, QI, EI, l, q, ux, k⟩ := h
  refine ⟨st, _, EI, l, q, ux, fun ws st1 vs H1 hn q1 l1 s1 r1 => ?_⟩
  refine call_ok l1 r1 hn q1 (ux.step s1) fun r S' v H2 q2 h2 => ?_
  cases r with
  | val w => exact q2.elim
  | new o =>
    obtain ⟨s2, a, rfl, l2, ro, na⟩ := h2
    have na1 : NewAt st1 σ H1 a := na.imp (fun z => z.elim .inl fun z => (ow_nil z).elim) id
    have l2' : Lk K (Fo (FA F a) st1 σ) ⟨[], S'⟩ [] H2 := l2.less fun b z => by
      rcases z with (z | z) | z
      · exact .inl (.inl z)
      · exact .inr z
      · exact .inl (.inr z)
    obtain ⟨l3, s3⟩ := l1.back (F2 := FA F a) s2 l2' (fun _ z => .inl z) fun b z => by
      rcases z with z | z
      · exact .inl z
      · rw [z]
        rcases na with (z | z) | z
        · exact .inr (.inl z)
        · exact (ow_nil z).elim
        · exact .inr (.inr z)
    refine k o _ a H2 q2 l3 (s1.trans s3) (ro.move (fun _ z => z) (mv_same fun b z => ?_)) (na1.step s1)
    have z2 := (live_enter (F := FA F a) (st := { st1 with S := S' }) (σ := σ)).mpr z
    rcases z2 with z2 | z2
    · exact .inl z2
    · rcases z2 with (z2 | z2) | z2
      · exact .inr (.inl (.inl z2))
      · exact .inr (.inr z2)
      · exact .inr (.inl (.inr z2))
variable {k' : Nat} {f : Addr} {fd : FuncData} {ps : List Str} {spec : ISp} {x : Str} {p : Pos} {n : Nat} {i : IA}
theorem run_fnG {pins : List (Addr × Obj)} {σ : L2.St} {H : Hp} {s : Shared} {Q : VK} {us : List Value} {vs : List V} {sp : Sp} (G : FnG X.prog X.w X.K X.mg X.base k' f fd ps sp) (hr : Room k' X.A) (hgd : X.A.guards = some []) (tk : Takes X Wx) (hb : Binds X.K fd ps [])
    (I : Inv X pins σ H s) (r : Vals vs us) (h : sp vs H Q (WE Wx σ)) : wpAny (model X.prog X.w) X.A (call (.ref f) us) (EP X pins σ Q) X.xe s := by
  have hl : us.length = ps.length := r.length.symm.trans (G.len h)
  have bd := hb s us I.kIn (by simpa using hl)
  rw [List.append_nil] at bd
  refine wpAny_call (codeAny_mono (G.go hr hgd I.env0 bd r h) fun res s' q => ?_)
  cases res with
  | error e => exact passAt tk σ pins H s e s' I q
  | ok fl => cases fl <;> first | exact I.after q | exact q.elim
theorem pe_callG {sp : Sp} {t : TA} (G : FnG X.prog X.w X.K X.mg X.base k' f fd ps sp) (hr : Room k' X.A) (hgd : X.A.guards = some []) (tk : Takes X Wx) (hm : X.mg x = some (.ref f)) (hk : PySem.W.keepIn X.K (.ref f) = true) (hb : Binds X.K fd ps [])
    (ha : PA X (e :: es) t) (hg : Gl X x) (hdb : (x == ("__debug__" : Str)) = false) (he : starEach (e :: es) X.env = (false, eval e X.env) :: starEach es X.env) (hpl : (backTo pos (starEach es X.env)).any (·.1) = false) :
    PE X (.Call (.Name x p) (e :: es) [] pos) (tCallS sp (WE Wx) t) := by
  refine ⟨fun pins s σ H Q I h => wpAny_Call_Name_kw (ld_glob I hg hm ?_ hdb)⟩
  exact PySem.W.callWith_K (h₀ := X.base) I.ok.mod.kin hk (thn (ha.run pos pins s σ H _ I h) fun us s1 ⟨vs, H1, I1, r, q⟩ => ⟨I1.kIn, run_fnG G hr hgd tk hb I1 r q⟩) he hpl
theorem i_call (G : FnG X.prog X.w X.K X.mg X.base k' f fd ps (spI X.K n spec)) (hr : Room k' X.A) (hgd : X.A.guards = some []) (tk : Takes X Wx) (hm : X.mg x = some (.ref f)) (hk : PySem.W.keepIn X.K (.ref f) = true) (hb : Binds X.K fd ps [])
    (ha : PA X (e :: es) (LA X.K F Wx n i)) (hg : Gl X x := by rfl) (hdb : (x == ("__debug__" : Str)) = false := by decide) (he : starEach (e :: es) X.env = (false, eval e X.env) :: starEach es X.env := by rfl) (hpl : (backTo pos (starEach es X.env)).any (·.1) = false := by rfl) :
    PE X (.Call (.Name x p) (e :: es) [] pos) (LE X.K F Wx (iCall spec i)) :=
  pe_imp (pe_callG G hr hgd tk hm hk hb ha hg hdb he hpl) fun _ _ _ h => call_val h
theorem n_call (G : FnG X.prog X.w X.K X.mg X.base k' f fd ps (spI X.K n spec)) (hr : Room k' X.A) (hgd : X.A.guards = some []) (tk : Takes X Wx) (hm : X.mg x = some (.ref f)) (hk : PySem.W.keepIn X.K (.ref f) = true) (hb : Binds X.K fd ps [])
    (ha : PA X (e :: es) (LA X.K F Wx n i)) (hg : Gl X x := by rfl) (hdb : (x == ("__debug__" : Str)) = false := by decide) (he : starEach (e :: es) X.env = (false, eval e X.env) :: starEach es X.env := by rfl) (hpl : (backTo pos (starEach es X.env)).any (·.1) = false := by rfl) :
    PE X (.Call (.Name x p) (e :: es) [] pos) (LN X.K F Wx (nCall spec i)) :=
  pe_imp (pe_callG G hr hgd tk hm hk hb ha hg hdb he hpl) fun _ _ _ h => call_new h
def BtG (K : PySem.W.Frag) (r : List V → Hp → VK → Prop) (g : List W → (W → Prop) → Prop) : Prop :=
  ∀ {F : Addr → Prop} {st : Stt} {σ : L2.St} {H : Hp} {ws : List W} {vs : List V} {P : W → Prop} {Q : VK}, g ws P → Lk K F st σ H → RelWs K (Live F st σ) H ws vs →
    (∀ w z H', P w → Lk K F st σ H' → Step st σ H st σ H' → RelW K (Live F st σ) H' w z → Q z H') → r vs H Q
def iFn (g : List W → (W → Prop) → Prop) (i : IA) : IE := fun EI st Q => i EI st fun ws st1 => g ws fun w => Q w st1
theorem fn_val {K : PySem.W.Frag} {r : List V → Hp → VK → Prop} {g : List W → (W → Prop) → Prop} (hg : BtG K r g) {σ : L2.St} {H : Hp} {Q : VK} (h : LE K F Wx (iFn g i) σ H Q) : tCB r (LA K F Wx n i) σ H Q := by
  obtain ⟨st, QI, EI, l, q, ux, k⟩ := h
  refine ⟨st, _, EI, l, q, ux, fun ws st1 vs H1 hn q1 l1 s1 r1 => ?_⟩
  exact hg q1 l1 r1 fun w z H2 p l2 s2 r2 => k w st1 z H2 p l2 (s1.trans s2) r2
theorem i_fn {id : String} {r : List V → Hp → VK → Prop} {g : List W → (W → Prop) → Prop} (hc : CallR X (.builtin id) r) (hgf : BtG X.K r g) (hm : X.mg x = none) (hv : bootBuiltins x = some (.builtin id)) (ha : PA X (e :: es) (LA X.K F Wx n i)) (hg : Gl X x := by rfl) (hn : x ≠ "__name__" := by decide)
    (hdb : (x == ("__debug__" : Str)) = false := by decide) (he : starEach (e :: es) X.env = (false, eval e X.env) :: starEach es X.env := by rfl) (hpl : (backTo pos (starEach es X.env)).any (·.1) = false := by rfl) : PE X (.Call (.Name x p) (e :: es) [] pos) (LE X.K F Wx (iFn g i)) :=
  pe_imp (pe_callB hc hg hm hv ha hn hdb he hpl) fun _ _ _ h => fn_val hgf h
theorem i_ty {T : String} {r : List V → Hp → VK → Prop} {g : List W → (W → Prop) → Prop} (hc : CallR X (.type T) r) (hgf : BtG X.K r g) (hm : X.mg x = none) (hv : bootBuiltins x = some (.type T)) (ha : PA X (e :: es) (LA X.K F Wx n i)) (hg : Gl X x := by rfl) (hn : x ≠ "__name__" := by decide)
    (hdb : (x == ("__debug__" : Str)) = false := by decide) (he : starEach (e :: es) X.env = (false, eval e X.env) :: starEach es X.env := by rfl) (hpl : (backTo pos (starEach es X.env)).any (·.1) = false := by rfl) : PE X (.Call (.Name x p) (e :: es) [] pos) (LE X.K F Wx (iFn g i)) :=
  pe_imp (pe_callTy hc hg hm hv ha hn hdb he hpl) fun _ _ _ h => fn_val hgf h
end
end Sh
namespace Sh
open PySem L2
open PyProof.Rows hiding St
theorem ps_imp {X : Cx} {s : Stmt} {t t' : TS} (h : PS X s t) (m : ∀ D σ H, t' D σ H → t D σ H) : PS X s t' := ⟨fun pins s σ H D I q => h.run pins s σ H D I (m _ _ _ q)⟩
theorem pss_imp {X : Cx} {s : List Stmt} {t t' : TS} (h : PSs X s t) (m : ∀ D σ H, t' D σ H → t D σ H) : PSs X s t' := ⟨fun pins s σ H D I q => h.run pins s σ H D I (m _ _ _ q)⟩
theorem pg_imp {X : Cx} {e : Expr} {t t' : TG} (h : PG X e t) (m : ∀ v σ H Q, t' v σ H Q → t v σ H Q) : PG X e t' := ⟨fun pins s σ H v u Q I r q => h.run pins s σ H v u Q I r (m _ _ _ _ q)⟩
theorem pgs_imp {X : Cx} {e : List Expr} {t t' : TGs} (h : PGs X e t) (m : ∀ v σ H Q, t' v σ H Q → t v σ H Q) : PGs X e t' := ⟨fun pins s σ H v u Q I r q => h.run pins s σ H v u Q I r (m _ _ _ _ q)⟩
/-- a state without its slots -/
theorem Lk.drop {K : PySem.W.Frag} {F : Addr → Prop} {st : Stt} {σ : L2.St} {H : Hp} (l : Lk K F st σ H) : Lk K F ⟨[], st.S⟩ [] H ∧ Step st σ H ⟨[], st.S⟩ [] H ∧ ∀ a, Live F ⟨[], st.S⟩ [] a → Live F st σ a := by
  have nx : ∀ a, Live F ⟨[], st.S⟩ [] a → Live F st σ a := fun a z => z.imp (fun z => z.elim .inl fun z => (ow_nil z).elim) id
  exact ⟨⟨rfl, fun i w e => by simp at e, fun i o e => by simp at e, fun i j o o' a e => by simp at e, fun a o e => (l.sto a o e).move (fun _ q => q) (mv_same nx), l.ftr, l.fdis⟩,
    ⟨fun _ _ e _ => e, fun a z => .inl (z.elim .inl fun z => (ow_nil z).elim)⟩, nx⟩
section
variable {X : Cx} {F : Addr → Prop} {Wx : WX} {a b c e : Expr} {es : List Expr} {pos : Pos} {ia ib ic : IE} {s : Stmt} {ss : List Stmt} {ip iq : IS} {nn : IN}
def sNext : IS := fun _ D st => D.nx st
def sSeq (p q : IS) : IS := fun EI D st => p EI { D with nx := q EI D } st
theorem s_nil : PSs X [] (LS X.K F Wx sNext) := pss_imp pss_nil fun D σ H h => by
  obtain ⟨st, DI, EI, l, q, u⟩ := h
  exact u.nx st σ H q l .refl
theorem s_cons (h1 : PS X s (LS X.K F Wx ip)) (h2 : PSs X ss (LS X.K F Wx iq)) : PSs X (s :: ss) (LS X.K F Wx (sSeq ip iq)) := pss_imp (pss_cons h1 h2) fun D σ H h => by
  obtain ⟨st, DI, EI, l, q, u⟩ := h
  exact ⟨st, _, EI, l, q, ⟨u.xs, fun st' σ' H' q' l' s' => ⟨st', DI, EI, l', q', u.step s'⟩, u.bk, u.ct, u.rt⟩⟩
theorem s_one (h1 : PS X s (LS X.K F Wx ip)) : PSs X [s] (LS X.K F Wx ip) := pss_one h1
def sNever : IS := fun _ _ _ => False
def sCont : IS := fun _ D st => D.ct st
theorem s_continue : PS X (.Continue pos) (LS X.K F Wx sCont) := ps_imp ps_continue fun D σ H h => by
  obtain ⟨st, DI, EI, l, q, u⟩ := h
  exact u.ct st σ H q l .refl
def sBreak : IS := fun _ D st => D.bk st
def sDrop (ia : IE) : IS := fun EI D st => ia EI st fun _ st1 => D.nx st1
theorem s_expr (ha : PE X a (LE X.K F Wx ia)) (hs : swapsWith a none pos.line X.env = pure false := by rfl) : PS X (.Expr a pos) (LS X.K F Wx (sDrop ia)) := ps_imp (ps_expr ha hs) fun D σ H h => by
  obtain ⟨st, DI, EI, l, q, u⟩ := h
  exact ⟨st, _, EI, l, q, u.x, fun w st1 v H1 q1 l1 s1 r1 => u.nx st1 σ H1 q1 l1 s1⟩
def sRet (ia : IE) : IS := fun EI D st => ia EI st fun w st1 => D.rt (.val w) st1.S
theorem s_ret (ha : PE X a (LE X.K F Wx ia)) : PS X (.Return (some a) pos) (LS X.K F Wx (sRet ia)) := ps_imp (ps_ret ha) fun D σ H h => by
  obtain ⟨st, DI, EI, l, q, u⟩ := h
  refine ⟨st, _, EI, l, q, u.x, fun w st1 v H1 q1 l1 s1 r1 => ?_⟩
  obtain ⟨l2, s2, nx⟩ := l1.drop
  exact u.rt _ _ v H1 q1 ⟨s1.trans s2, l2, r1.mono (mv_same nx)⟩
def sRetN (nn : IN) : IS := fun EI D st => nn EI st fun o st1 => D.rt (.new o) st1.S
theorem s_retN (ha : PE X a (LN X.K F Wx nn)) : PS X (.Return (some a) pos) (LS X.K F Wx (sRetN nn)) := ps_imp (ps_ret ha) fun D σ H h => by
  obtain ⟨st, DI, EI, l, q, u⟩ := h
  refine ⟨st, _, EI, l, q, u.x, fun o st1 a H1 q1 l1 s1 r1 n1 => ?_⟩
  obtain ⟨l2, s2, nx⟩ := l1.drop
  exact u.rt _ _ _ H1 q1 ⟨s1.trans s2, a, rfl, l2, r1.move (fun _ z => z) (mv_same nx), n1⟩
/-- return of an owned object -/
def sRetO (i : Nat) : IS := fun _ D st => match st.ρ[i]? with
  | some (.own o) => D.rt (.new o) st.S
  | _ => False
theorem s_retO {i : Nat} {x : Str} {px : Pos} (hN : X.N[i]? = some x := by rfl) (hv : Vis X.env.scope x := by first | exact Or.inl rfl | exact Or.inr (Or.inl rfl) | exact Or.inr (Or.inr rfl)) (hd : (x == ("__debug__" : Str)) = false := by decide)
    (hcd : (x == ("__classdict__" : Str)) = false := by decide) : PS X (.Return (some (.Name x px)) pos) (LS X.K F Wx (sRetO i)) := ps_imp (ps_ret (pe_var hN hv hd hcd)) fun D σ H h => by
  obtain ⟨st, DI, EI, l, q, u⟩ := h
  unfold sRetO at q
  split at q
  · rename_i o e
    obtain ⟨a, ea, r, na, nf⟩ := l.own i o e
    refine ⟨.ref a, ea, u.rt _ _ _ H q ?_⟩
    have lv : ∀ b, Live (FA F a) ⟨[], st.S⟩ [] b → Live F st σ b := fun b z => by
      rcases z with (z | z) | z | z
      · exact .inl (.inl z)
      · exact (ow_nil z).elim
      · exact .inr z
      · exact .inl (.inr ⟨i, o, e, z ▸ ea⟩)
    refine ⟨⟨fun _ _ e _ => e, fun b z => .inl (z.elim .inl fun z => (ow_nil z).elim)⟩, a, rfl, ⟨rfl, fun i w e => by simp at e, fun i o e => by simp at e, fun i j o o' a e => by simp at e, fun b o e => (l.sto b o e).move (fun _ q => q) (mv_same lv), fun b z => ?_, fun b z => ?_⟩, r.move (fun _ z => z) (mv_same lv), .inl (.inr ⟨i, o, e, ea⟩)⟩
    · rcases z with z | z
      · exact l.ftr b z
      · rw [z]; exact r.at
    · rcases z with z | z
      · exact l.fdis b z
      · rw [z]; exact na
  · exact q.elim
def sRet0 : IS := fun _ D st => D.rt (.val .non) st.S
def sIf (t : IT) (p q : IS) : IS := fun EI D st => t EI st fun b st1 => if b = true then p EI D st1 else q EI D st1
theorem s_if {ta : IT} {sa sb : List Stmt} (hc : PT X c (LT X.K F Wx ta)) (ha : PSs X sa (LS X.K F Wx ip)) (hb : PSs X sb (LS X.K F Wx iq)) : PS X (.If c sa sb pos) (LS X.K F Wx (sIf ta ip iq)) := ps_imp (ps_if hc ha hb) fun D σ H h => by
  obtain ⟨st, DI, EI, l, q, u⟩ := h
  refine ⟨st, _, EI, l, q, u.x, fun b st1 H1 q1 l1 s1 => ?_⟩
  cases b with
  | true =>
    rw [if_pos rfl] at q1 ⊢
    exact ⟨st1, DI, EI, l1, q1, u.step s1⟩
  | false =>
    rw [if_neg Bool.false_ne_true] at q1 ⊢
    exact ⟨st1, DI, EI, l1, q1, u.step s1⟩
def sSet (i : Nat) (ia : IE) : IS := fun EI D st => ia EI st fun w st1 => D.nx (st1.put i (.val w))
def sSetN (i : Nat) (nn : IN) : IS := fun EI D st => nn EI st fun o st1 => D.nx (st1.put i (.own o))
theorem set_of {K : PySem.W.Frag} {i : Nat} {D : Ends} {σ : L2.St} {H : Hp} (h : LS K F Wx (sSet i ia) D σ H) : tAsg (LE K F Wx ia) (gName i) D σ H := by
  obtain ⟨st, DI, EI, l, q, u⟩ := h
  exact ⟨st, _, EI, l, q, u.x, fun w st1 v H1 q1 l1 s1 r1 => u.nx _ _ H1 q1 (l1.put r1) (s1.trans Step.put)⟩
theorem Step.keepNew {st : Stt} {σ : L2.St} {H : Hp} {i : Nat} {o : SO} {a : Addr} {st1 : Stt} {σ1 : L2.St} {H1 : Hp} (hl : st1.ρ.length = σ1.length) (s : Step st σ H st1 σ1 H1) (n : NewAt st σ H a) : Step st σ H (st1.put i (.own o)) (σ1.set i (some (.ref a))) H1 :=
  ⟨s.keep, fun b z => by
    rcases z with z | ⟨j, o', e1, e2⟩
    · exact s.new b (.inl z)
    · rcases get_set e1 with ⟨rfl, _, hj⟩ | ⟨nj, e1⟩
      · rw [set_get (by rw [← hl]; exact hj)] at e2
        cases e2
        exact n
      · rw [List.getElem?_set_ne (Ne.symm nj)] at e2
        exact s.new b (.inr ⟨j, o', e1, e2⟩)⟩
theorem setN_of {K : PySem.W.Frag} {i : Nat} {D : Ends} {σ : L2.St} {H : Hp} (h : LS K F Wx (sSetN i nn) D σ H) : tAsg (LN K F Wx nn) (gName i) D σ H := by
  obtain ⟨st, DI, EI, l, q, u⟩ := h
  exact ⟨st, _, EI, l, q, u.x, fun o st1 a H1 q1 l1 s1 r1 n1 => u.nx _ _ H1 q1 (l1.keepNew r1 (NewAt.nf l n1)) (Step.keepNew l1.len s1 n1)⟩
theorem s_set (i : Nat) {x : Str} {pos' : Pos} (hN : X.N.Nodup) (ha : PE X a (LE X.K F Wx ia)) (hi : X.N[i]? = some x := by rfl) (hx : Loc X.env.scope x := by first | exact Or.inl rfl | exact Or.inr rfl) (hs : swapsWith a (some (.Name x pos')) pos.line X.env = pure false := by rfl)
    (hf : X.fn x = true ∨ X.env.scope.names.lookup x = some .local := by first | exact .inl rfl | exact .inr rfl | assumption) : PS X (.Assign [.Name x pos'] a pos) (LS X.K F Wx (sSet i ia)) := ps_imp (ps_set hN hi hx ha hs hf) fun _ _ _ h => set_of h
theorem s_setN (i : Nat) {x : Str} {pos' : Pos} (hN : X.N.Nodup) (ha : PE X a (LN X.K F Wx nn)) (hi : X.N[i]? = some x := by rfl) (hx : Loc X.env.scope x := by first | exact Or.inl rfl | exact Or.inr rfl) (hs : swapsWith a (some (.Name x pos')) pos.line X.env = pure false := by rfl)
    (hf : X.fn x = true ∨ X.env.scope.names.lookup x = some .local := by first | exact .inl rfl | exact .inr rfl | assumption) : PS X (.Assign [.Name x pos'] a pos) (LS X.K F Wx (sSetN i nn)) := ps_imp (ps_set hN hi hx ha hs hf) fun _ _ _ h => setN_of h
/-- a, b = e1, e2 -/
def sPar (i j : Nat) (ia ib : IE) : IS := fun EI D st => ia EI st fun w st1 => ib EI st1 fun y st2 => D.nx ((st2.put i (.val w)).put j (.val y))
theorem s_par (i j : Nat) {x y : Str} {px py pt : Pos} {kt k2 pt2} (hN : X.N.Nodup) (ha : PE X a (LE X.K F Wx ia)) (hb : PE X b (LE X.K F Wx ib)) (hi : X.N[i]? = some x := by rfl) (hj : X.N[j]? = some y := by rfl) (hij : i ≠ j := by decide)
    (hx : X.env.scope.names.lookup x = some .local := by rfl) (hy : X.env.scope.names.lookup y = some .local := by rfl) (hc : X.calm = true := by rfl)
    (hw : swappedStores [.Tuple [.Name x px, .Name y py] kt pt] (.Tuple [a, b] k2 pt2) X.env = pure (some [x, y]) := by rfl)
    (hs : swapsWithSole [.Tuple [.Name x px, .Name y py] kt pt] (.Tuple [a, b] k2 pt2) pos.line X.env = pure false := by rfl)
    (h1 : starEach [a, b] X.env = (false, eval a X.env) :: starEach [b] X.env := by rfl) (h2 : starEach [b] X.env = (false, eval b X.env) :: starEach [] X.env := by rfl) :
    PS X (.Assign [.Tuple [.Name x px, .Name y py] kt pt] (.Tuple [a, b] k2 pt2) pos) (LS X.K F Wx (sPar i j ia ib)) := ps_imp (ps_par hc hN hi hj hij hx hy (pa_cons ha (pa_cons hb pa_nil h2) h1) hw hs) fun D σ H h => by
  obtain ⟨st, DI, EI, l, q, u⟩ := h
  refine ⟨st, _, EI, l, q, u.x, fun w st1 v H1 q1 l1 s1 r1 => ⟨st1, _, EI, l1, q1, u.x.step s1, fun w2 st2 v2 H2 q2 l2 s2 r2 => ⟨v, v2, rfl, ?_⟩⟩⟩
  have l3 := l2.put (i := i) (r1.mono s2.mv)
  have s3 : Step st2 σ H2 (st2.put i (.val w)) (σ.set i (some v)) H2 := Step.put
  exact u.nx _ _ H2 q2 (l3.put (r2.mono s3.mv)) (((s1.trans s2).trans s3).trans Step.put)
/-- the second one is new -/
def sParEN (i j : Nat) (ia : IE) (nn : IN) : IS := fun EI D st => ia EI st fun w st1 => nn EI st1 fun o st2 => D.nx ((st2.put i (.val w)).put j (.own o))
theorem Lk.putF {K : PySem.W.Frag} {st : Stt} {σ : L2.St} {H : Hp} {p : Addr} {o : SO} {i : Nat} {w : W} {v : V} (l : Lk K (FA F p) st σ H) (ro : RelO K (Live (FA F p) st σ) H p o) (r : RelW K (Live (FA F p) st σ) H w v) :
    Lk K (FA F p) (st.put i (.val w)) (σ.set i (some v)) H ∧ RelO K (Live (FA F p) (st.put i (.val w)) (σ.set i (some v))) H p o := by
  have s : Step st σ H (st.put i (.val w)) (σ.set i (some v)) H := Step.put
  exact ⟨l.put r, ro.move (fun _ z => z) s.mv⟩
/-- a value that stands is not the new object -/
theorem RelW.foreign {K : PySem.W.Frag} {st st1 : Stt} {σ : L2.St} {H H1 : Hp} {p : Addr} {w : W} {v : V} (l : Lk K F st σ H) (r : RelW K (Live F st σ) H w v) (s : Step st σ H st1 σ H1) (n : NewAt st σ H p) : RelW K (Live (FA F p) st1 σ) H1 w v :=
  r.mono fun b u e nl => ⟨s.keep b u e fun z => nl (.inl z), fun z => by
    rcases z with z | z | z
    · rcases s.new b z with z | z
      · exact nl (.inl z)
      · rw [e] at z; cases z
    · exact nl (.inr z)
    · subst z
      rcases n with n | n
      · exact nl (.inl n)
      · rw [e] at n; cases n⟩
theorem pe_ex {i : IE} (h : ∀ F, PE X e (LE X.K F Wx i)) : PE X e (fun σ H Q => ∃ F, LE X.K F Wx i σ H Q) := ⟨fun pins s σ H Q I ⟨F, q⟩ => (h F).run pins s σ H Q I q⟩
theorem UpX.more {K : PySem.W.Frag} {st : Stt} {σ : L2.St} {H : Hp} {EI : XI} {F' : Addr → Prop} (u : UpX K F Wx st σ H EI) (h : ∀ a, F a → F' a) : UpX K F' Wx st σ H EI := fun x st' cls d H' e l s r => by
  refine u x st' cls d H' e (l.less h) s ?_
  obtain ⟨e1, z⟩ := r
  refine ⟨e1, z.imp id ?_⟩
  rintro ⟨a, vs', e2, e3, e4, e5⟩
  have lv : ∀ b, Live F st' σ b → Live F' st' σ b := fun b z => z.imp id (h b)
  exact ⟨a, vs', e2, e3, fun z => e4 (lv a z), e5.mono (mv_same lv)⟩
/-- the first one is new -/
def sParNE (i j : Nat) (nn : IN) (ib : IE) : IS := fun EI D st => nn EI st fun o st1 => ib EI st1 fun w st2 => D.nx ((st2.put i (.own o)).put j (.val w))
theorem s_parNE (i j : Nat) {x y : Str} {px py pt : Pos} {kt k2 pt2} (hN : X.N.Nodup) (ha : PE X a (LN X.K F Wx nn)) (hb : ∀ F, PE X b (LE X.K F Wx ib)) (hi : X.N[i]? = some x := by rfl) (hj : X.N[j]? = some y := by rfl) (hij : i ≠ j := by decide)
    (hx : X.env.scope.names.lookup x = some .local := by rfl) (hy : X.env.scope.names.lookup y = some .local := by rfl) (hc : X.calm = true := by rfl)
    (hw : swappedStores [.Tuple [.Name x px, .Name y py] kt pt] (.Tuple [a, b] k2 pt2) X.env = pure (some [x, y]) := by rfl)
    (hs : swapsWithSole [.Tuple [.Name x px, .Name y py] kt pt] (.Tuple [a, b] k2 pt2) pos.line X.env = pure false := by rfl)
    (h1 : starEach [a, b] X.env = (false, eval a X.env) :: starEach [b] X.env := by rfl) (h2 : starEach [b] X.env = (false, eval b X.env) :: starEach [] X.env := by rfl) :
    PS X (.Assign [.Tuple [.Name x px, .Name y py] kt pt] (.Tuple [a, b] k2 pt2) pos) (LS X.K F Wx (sParNE i j nn ib)) := ps_imp (ps_par hc hN hi hj hij hx hy (pa_cons ha (pa_cons (pe_ex hb) pa_nil h2) h1) hw hs) fun D σ H h => by
  obtain ⟨st, DI, EI, l, q, u⟩ := h
  refine ⟨st, _, EI, l, q, u.x, fun o st1 p H1 q1 l1 s1 r1 n1 => ⟨FA F p, st1, _, EI, l1, q1, (u.x.step s1).more fun _ z => .inl z, fun w st2 v H2 q2 l2 s2 r2 => ⟨.ref p, v, rfl, ?_⟩⟩⟩
  have nw : ¬ Wr st1 σ p := fun z => by
    rcases z with z | ⟨k, o', e1, e2⟩
    · exact z (l1.fdis p (.inr rfl))
    · obtain ⟨b, e3, _, _, n3⟩ := l1.own k o' e1
      rw [e2] at e3
      cases e3
      exact n3 (.inr rfl)
  have ro : RelO X.K (Live (FA F p) st2 σ) H2 p o := r1.move (fun u e => s2.keep p u e nw) s2.mv
  -- store the value first, then the new one: the two orders are one
  obtain ⟨l3, ro3⟩ := l2.putF (i := j) ro r2
  have l4 : Lk X.K F ((st2.put j (.val w)).put i (.own o)) ((σ.set j (some v)).set i (some (.ref p))) H2 := l3.keepNew ro3 (NewAt.nf l n1)
  have s4 : Step st σ H ((st2.put j (.val w)).put i (.own o)) ((σ.set j (some v)).set i (some (.ref p))) H2 := Step.keepNew l3.len ((s1.trans s2).trans Step.put) n1
  have e1 : (st2.put j (.val w)).put i (.own o) = (st2.put i (.own o)).put j (.val w) := by
    unfold Stt.put
    simp only
    rw [List.set_comm _ _ (Ne.symm hij)]
  have e2 : (σ.set j (some v)).set i (some (V.ref p)) = (σ.set i (some (.ref p))).set j (some v) := List.set_comm _ _ (Ne.symm hij)
  rw [e1, e2] at l4 s4
  exact u.nx _ _ H2 q2 l4 s4
/-- three at once -/
def sPar3 (i j k : Nat) (ia ib ic : IE) : IS := fun EI D st => ia EI st fun w st1 => ib EI st1 fun y st2 => ic EI st2 fun z st3 => D.nx (((st3.put i (.val w)).put j (.val y)).put k (.val z))
abbrev IG := W → Stt → (Stt → Prop) → Prop
abbrev IGs := List W → Stt → (Stt → Prop) → Prop
theorem wipe_set {i : Nat} {x : Option V} : ∀ {vs : List Nat} (σ : L2.St), i ∈ vs → L2.wipe (σ.set i x) vs = L2.wipe σ vs
  | v :: vs, σ, h => by
    by_cases e : i ∈ vs
    · show (L2.wipe (σ.set i x) vs).set v none = (L2.wipe σ vs).set v none
      rw [wipe_set σ e]
    · have ev : i = v := by
        rcases List.mem_cons.mp h with h | h
        · exact h
        · exact absurd h e
      subst ev
      have key : ∀ (ws : List Nat) (τ : L2.St), (L2.wipe (τ.set i x) ws).set i none = (L2.wipe τ ws).set i none := by
        intro ws
        induction ws with
        | nil => intro τ; show (τ.set i x).set i none = τ.set i none; rw [List.set_set]
        | cons w ws ih =>
          intro τ
          show ((L2.wipe (τ.set i x) ws).set w none).set i none = ((L2.wipe τ ws).set w none).set i none
          by_cases q : w = i
          · subst q
            rw [List.set_set, List.set_set, ih]
          · rw [List.set_comm _ _ q, ih, List.set_comm _ _ (Ne.symm q)]
      exact key vs σ
def LG (K : PySem.W.Frag) (F : Addr → Prop) (vs : List Nat) (g : IG) : TG := fun v σ H Q => ∃ w st QI, Lk K F st σ H ∧ RelW K (Live F st σ) H w v ∧ g w st QI ∧ ∀ st' σ' H', QI st' → Lk K F st' σ' H' → Step st σ H st' σ' H' → L2.wipe σ' vs = L2.wipe σ vs → (∀ b u, H b = some u → H' b = some u) → Q σ' H'
def LGs (K : PySem.W.Frag) (F : Addr → Prop) (vs : List Nat) (g : IGs) : TGs := fun us σ H Q => ∃ ws st QI, Lk K F st σ H ∧ RelWs K (Live F st σ) H ws us ∧ g ws st QI ∧ ∀ st' σ' H', QI st' → Lk K F st' σ' H' → Step st σ H st' σ' H' → L2.wipe σ' vs = L2.wipe σ vs → (∀ b u, H b = some u → H' b = some u) → Q σ' H'
variable {vs : List Nat}
def gNm (i : Nat) : IG := fun w st Q => Q (st.put i (.val w))
def gsNil : IGs := fun ws st Q => match ws with
  | [] => Q st
  | _ => False
def gsCons (g : IG) (gs : IGs) : IGs := fun ws st Q => match ws with
  | w :: r => g w st fun st1 => gs r st1 Q
  | [] => False
def gTp (n : Nat) (gs : IGs) : IG := fun w st Q => match w with
  | .tup ws => ws.length = n ∧ gs ws st Q
  | .lst ws => ws.length = n ∧ gs ws st Q
  | _ => False
theorem g_name (i : Nat) {x : Str} (hN : X.N.Nodup) (hm : i ∈ vs := by decide) (hi : X.N[i]? = some x := by rfl) (hx : Loc X.env.scope x := by first | exact Or.inl rfl | exact Or.inr rfl) (hf : X.fn x = true ∨ X.env.scope.names.lookup x = some .local := by first | exact .inl rfl | exact .inr rfl | assumption) :
    PG X (.Name x pos) (LG X.K F vs (gNm i)) := pg_imp (pg_name hN hi hx hf) fun v σ H Q h => by
  obtain ⟨w, st, QI, l, r, q, k⟩ := h
  exact k _ _ H q (l.put r) Step.put (wipe_set σ hm) fun _ _ e => e
theorem gs_nil : PGs X [] (LGs X.K F vs gsNil) := pgs_imp pgs_nil fun v σ H Q h => by
  obtain ⟨ws, st, QI, l, r, q, k⟩ := h
  unfold gsNil at q
  split at q
  · cases r
    exact ⟨rfl, k st σ H q l .refl rfl fun _ _ e => e⟩
  · exact q.elim
theorem gs_cons {g : IG} {gs : IGs} (h1 : PG X e (LG X.K F vs g)) (h2 : PGs X es (LGs X.K F vs gs)) (hs : (assignEach (e :: es) X.env).map (·.2) = assign e X.env :: (assignEach es X.env).map (·.2) := by rfl) : PGs X (e :: es) (LGs X.K F vs (gsCons g gs)) := pgs_imp (pgs_cons h1 h2 hs) fun v σ H Q h => by
  obtain ⟨ws, st, QI, l, r, q, k⟩ := h
  unfold gsCons at q
  split at q
  · cases r with
    | cons ra rs => exact ⟨_, _, rfl, _, st, _, l, ra, q, fun st1 σ1 H1 q1 l1 s1 e1 k1 => ⟨_, st1, _, l1, rs.mono s1.mv, q1, fun st2 σ2 H2 q2 l2 s2 e2 k2 => k st2 σ2 H2 q2 l2 (s1.trans s2) (e2.trans e1) fun b u z => k2 b u (k1 b u z)⟩⟩
  · exact q.elim
theorem g_tup {gs : IGs} {k' n : Nat} (h : PGs X es (LGs X.K F vs gs)) (hc : X.calm = true := by rfl) (hn : (assignEach es X.env).length = n := by rfl) (hst : (assignEach es X.env).findIdx? (·.1) = none := by rfl) : PG X (.Tuple es k' pos) (LG X.K F vs (gTp n gs)) := pg_imp (t := fun v σ H Q => gTup X.K n (LGs X.K F vs gs) v σ H Q ∨ gUnl X.K n (LGs X.K F vs gs) v σ H Q) ⟨fun pins s σ H v u Q I r hw => hw.elim (fun z => (pg_tup hc h hn hst).run pins s σ H v u Q I r z) fun z => (pg_unl hc h hn hst).run pins s σ H v u Q I r z⟩ fun v σ H Q h => by
  obtain ⟨w, st, QI, l, r, q, k⟩ := h
  unfold gTp at q
  split at q
  · cases r with
    | tup f rs => exact .inl ⟨_, _, rfl, f.sq, by rw [← rs.length]; exact q.1, _, st, _, l, rs, q.2, k⟩
  · cases r with
    | lst f rs => exact .inr ⟨_, _, rfl, f.sq, by rw [← rs.length]; exact q.1, _, st, _, l, rs, q.2, k⟩
  · exact q.elim
def sAsg (ia : IE) (g : IG) : IS := fun EI D st => ia EI st fun w st1 => g w st1 D.nx
theorem s_asg {tg : Expr} {g : IG} (ha : PE X a (LE X.K F Wx ia)) (hg : PG X tg (LG X.K F vs g)) (hs : swapsWithSole [tg] a pos.line X.env = pure false := by rfl) (hw : swappedStores [tg] a X.env = pure none := by rfl)
    (h1 : (assignEach [tg] X.env).map (·.2) = [assign tg X.env] := by rfl) : PS X (.Assign [tg] a pos) (LS X.K F Wx (sAsg ia g)) := ps_imp (ps_asg ha hg hs hw h1) fun D σ H h => by
  obtain ⟨st, DI, EI, l, q, u⟩ := h
  exact ⟨st, _, EI, l, q, u.x, fun w st1 v H1 q1 l1 s1 r1 => ⟨w, st1, _, l1, r1, q1, fun st2 σ2 H2 q2 l2 s2 _ _ => u.nx st2 σ2 H2 q2 l2 (s1.trans s2)⟩⟩
def sAugI (i : Nat) (f : Int → Int → Int) (ia : IE) : IS := fun EI D st => match st.ρ[i]? with
  | some (.val (.int n)) => ia EI st fun w st1 => (match w with
    | .int m => D.nx (st1.put i (.val (.int (f n m))))
    | _ => False)
  | _ => False
theorem s_augI (i : Nat) {x : Str} {pos' : Pos} {op : Operator} {f : Int → Int → Int} (ho : PIp X op (ipI f)) (hN : X.N.Nodup) (ha : PE X a (LE X.K F Wx ia)) (hi : X.N[i]? = some x := by rfl) (hx : Loc X.env.scope x := by first | exact Or.inl rfl | exact Or.inr rfl)
    (hf : X.fn x = true ∨ X.env.scope.names.lookup x = some .local := by first | exact .inl rfl | exact .inr rfl | assumption) : PS X (.AugAssign (.Name x pos') op a pos) (LS X.K F Wx (sAugI i f ia)) := ps_imp (ps_aug hN hi hx ha ho hf) fun D σ H h => by
  obtain ⟨st, DI, EI, l, q, u⟩ := h
  unfold sAugI at q
  split at q
  · rename_i n e
    obtain ⟨v, ev, r⟩ := l.val i _ e
    cases r
    refine ⟨.int n, ev, st, _, EI, l, q, u.x, fun w st1 v H1 q1 l1 s1 r1 => ?_⟩
    split at q1
    · cases r1
      exact ⟨_, _, rfl, rfl, u.nx _ _ H1 q1 (l1.put (.int _)) (s1.trans Step.put)⟩
    · exact q1.elim
  · exact q.elim
end
end Sh
namespace Sh
open PySem L2
open PyProof.Rows hiding St
/-- from here on the iterator J yields ws -/
structure Yd (K : PySem.W.Frag) (F : Addr → Prop) (J : It) (ws : List W) (st : Stt) (σ : L2.St) (H : Hp) : Prop where
  go : ∀ (i : Nat) (F' : Addr → Prop) st' σ' H', i < ws.length → Lk K F' st' σ' H' → Mv (Live F st σ) H (Live F' st' σ') H' → J.go i H' ∧ ∀ x H2, J.yld i H' x H2 → ∃ w, ws[i]? = some w ∧ Lk K F' st' σ' H2 ∧ Step st' σ' H' st' σ' H2 ∧
    (∀ b u, H' b = some u → H2 b = some u) ∧ RelW K (Live F' st' σ') H2 w x
  stop : ∀ (i : Nat) (F' : Addr → Prop) st' σ' H', ws.length ≤ i → Mv (Live F st σ) H (Live F' st' σ') H' → J.stop i H'
abbrev IL := XI → Stt → (List W → Stt → Prop) → Prop
def LI (K : PySem.W.Frag) (F : Addr → Prop) (Wx : WX) (i : IL) : TI := fun σ H R => ∃ st QI EI, Lk K F st σ H ∧ i EI st QI ∧ UpX K F Wx st σ H EI ∧
  ∀ ws st' J H', QI ws st' → Lk K F st' σ H' → Step st σ H st' σ H' → Yd K F J ws st' σ H' → R J H'
theorem pi_imp {X : Cx} {tg it : Expr} {t t' : TI} (h : PI X tg it t) (m : ∀ σ H Q, t' σ H Q → t σ H Q) : PI X tg it t' := ⟨fun pins s σ H R I q => h.run pins s σ H R I (m _ _ _ q)⟩
/-- a list or a tuple, whichever -/
def iSeq (K : PySem.W.Frag) (tl : TE) : TI := fun σ H R => tl σ H fun x H1 => ∃ a, x = .ref a ∧ (((∃ xs, SqL K H1 a xs) ∧ R (Itl K a) H1) ∨ ((∃ xs, SqT K H1 a xs) ∧ R (Itt K a) H1))
theorem pi_seq {X : Cx} {tg l : Expr} {tl : TE} (hl : PE X l tl) : PI X tg l (iSeq X.K tl) := by
  refine ⟨fun pins s σ H R I h => ?_⟩
  refine thn (hl.run pins s σ H _ I h) fun v s1 ⟨x, H1, I1, r1, q1⟩ => ?_
  obtain ⟨a, e, q⟩ := q1
  subst e
  cases r1
  rcases q with ⟨⟨xs, hq⟩, q⟩ | ⟨⟨xs, hq⟩, q⟩
  · obtain ⟨its, rv, p, hz⟩ := I1.list hq
    refine wpAny_pyIter_list p.isList ?_
    refine ⟨s1.heap.objs.size, [s1.heap.objs.size], _, _, H1, rfl, I1.kept (t' := s1.toks) fun b o e => Heap.get?_push_of_some _ e, turn_list a _, ⟨_, Heap.get?_push_size _ rfl, rfl, rfl⟩, fun b hb => ?_, q⟩
    have e : b = s1.heap.objs.size := by simpa using hb
    subst e
    exact I1.fpOk (Nat.le_refl _) (I1.hok.fresh (Nat.le_refl _))
  · obtain ⟨its, rv, p, hz⟩ := I1.tuple hq
    refine wpAny_pyIter_tuple (show s1.heap.IsTuple a its.toArray from p) ?_
    refine ⟨s1.heap.objs.size, [s1.heap.objs.size], _, _, H1, rfl, I1.kept (t' := s1.toks) fun b o e => Heap.get?_push_of_some _ e, turn_tuple a _, ⟨_, Heap.get?_push_size _ rfl, rfl, rfl⟩, fun b hb => ?_, q⟩
    have e : b = s1.heap.objs.size := by simpa using hb
    subst e
    exact I1.fpOk (Nat.le_refl _) (I1.hok.fresh (Nat.le_refl _))
section
variable {X : Cx} {F : Addr → Prop} {Wx : WX} {vs : List Nat} {a b c e tg : Expr} {es : List Expr} {pos p : Pos} {ia ib ic : IE} {s : Stmt} {ss : List Stmt} {ip iq : IS} {nn : IN}
theorem some_of {α : Type} {l : List α} {i : Nat} (h : i < l.length) : ∃ x, l[i]? = some x := ⟨l[i], by simp [h]⟩
theorem yd_list {K : PySem.W.Frag} {st : Stt} {σ : L2.St} {H : Hp} {ws : List W} {a : Addr} {vs : List V} (f : ∀ (Lv' : Addr → Prop) H', Mv (Live F st σ) H Lv' H' → SqL K H' a vs) (r : RelWs K (Live F st σ) H ws vs) : Yd K F (Itl K a) ws st σ H where
  go := fun i F' st' σ' H' hi l m => by
    obtain ⟨w, ew⟩ := some_of hi
    obtain ⟨v, ev, rv⟩ := r.get ew
    refine ⟨⟨vs, v, f _ _ m, ev⟩, fun x H2 y => ?_⟩
    obtain ⟨rfl, y⟩ := y
    have ex := y vs (f _ _ m)
    rw [ev] at ex
    cases ex
    exact ⟨w, ew, l, .refl, fun _ _ e => e, rv.mono m⟩
  stop := fun i F' st' σ' H' hi m => ⟨vs, f _ _ m, by rw [← r.length]; exact hi⟩
theorem yd_tup {K : PySem.W.Frag} {st : Stt} {σ : L2.St} {H : Hp} {ws : List W} {a : Addr} {vs : List V} (f : ∀ (Lv' : Addr → Prop) H', Mv (Live F st σ) H Lv' H' → SqT K H' a vs) (r : RelWs K (Live F st σ) H ws vs) : Yd K F (Itt K a) ws st σ H where
  go := fun i F' st' σ' H' hi l m => by
    obtain ⟨w, ew⟩ := some_of hi
    obtain ⟨v, ev, rv⟩ := r.get ew
    refine ⟨⟨vs, v, f _ _ m, ev⟩, fun x H2 y => ?_⟩
    obtain ⟨rfl, y⟩ := y
    have ex := y vs (f _ _ m)
    rw [ev] at ex
    cases ex
    exact ⟨w, ew, l, .refl, fun _ _ e => e, rv.mono m⟩
  stop := fun i F' st' σ' H' hi m => ⟨vs, f _ _ m, by rw [← r.length]; exact hi⟩
/-- the items of a value -/
def gItems (x : W) (P : List W → Prop) : Prop := match x with
  | .lst ws => P ws
  | .tup ws => P ws
  | .scr ns => P (ns.map .int)
  | _ => False
def lSeq (ia : IE) : IL := fun EI st Q => ia EI st fun x st1 => gItems x fun ws => Q ws st1
theorem l_seq (ha : PE X a (LE X.K F Wx ia)) : PI X tg a (LI X.K F Wx (lSeq ia)) := pi_imp (pi_seq ha) fun σ H R h => by
  obtain ⟨st, QI, EI, l, q, ux, k⟩ := h
  refine ⟨st, _, EI, l, q, ux, fun x st1 v H1 q1 l1 s1 r1 => ?_⟩
  unfold gItems at q1
  split at q1
  · cases r1 with
    | lst f r => exact ⟨_, rfl, .inl ⟨⟨_, f.sq⟩, k _ _ _ H1 q1 l1 s1 (yd_list (fun _ _ m => (f.mono m).sq) r)⟩⟩
  · cases r1 with
    | tup f r => exact ⟨_, rfl, .inr ⟨⟨_, f.sq⟩, k _ _ _ H1 q1 l1 s1 (yd_tup (fun _ _ m => (f.mono m).sq) r)⟩⟩
  · cases r1 with
    | scr f => exact ⟨_, rfl, .inl ⟨⟨_, f.sq⟩, k _ _ _ H1 q1 l1 s1 (yd_list (fun _ _ m => (f.mono m).sq) (RelWs.ints _))⟩⟩
  · exact q1.elim
/-- lo, lo + 1, .. -/
def rng (lo : Int) (n : Nat) : List W := (List.range n).map fun (i : Nat) => W.int (lo + (i : Int))
theorem rng_length (lo : Int) (n : Nat) : (rng lo n).length = n := by simp [rng]
theorem rng_get {lo : Int} {n i : Nat} (h : i < n) : (rng lo n)[i]? = some (.int (lo + i)) := by simp [rng, h]
theorem yd_range {K : PySem.W.Frag} {st : Stt} {σ : L2.St} {H : Hp} (lo : Int) (n : Nat) : Yd K F (Itr lo n) (rng lo n) st σ H where
  go := fun i F' st' σ' H' hi l m => by
    rw [rng_length] at hi
    refine ⟨hi, fun x H2 y => ?_⟩
    obtain ⟨rfl, rfl⟩ := y
    exact ⟨_, rng_get hi, l, .refl, fun _ _ e => e, .int _⟩
  stop := fun i F' st' σ' H' hi m => by
    rw [rng_length] at hi
    exact hi
def i62 (i : Int) : Prop := -(2 ^ 62) ≤ i ∧ i < 2 ^ 62
def lRange1 (ia : IE) : IL := fun EI st Q => ia EI st fun x st1 => match x with
  | .int j => i62 j ∧ Q (rng 0 j.toNat) st1
  | _ => False
theorem l_range1 (hm : X.mg "range" = none) (ha : PE X a (LE X.K F Wx ia)) (hg : Gl X "range" := by rfl) (hs : starEach [a] X.env = [(false, eval a X.env)] := by rfl) (hs2 : starEach [a] X.env = (false, eval a X.env) :: starEach [] X.env := by rfl) :
    PI X tg (.Call (.Name "range" p) [a] [] pos) (LI X.K F Wx (lRange1 ia)) := pi_imp (pi_range1 hg hm (pa_cons ha pa_nil hs2) hs) fun σ H R h => by
  obtain ⟨st, QI, EI, l, q, ux, k⟩ := h
  refine ⟨st, _, EI, l, q, ux, fun x st1 v H1 q1 l1 s1 r1 => ?_⟩
  split at q1
  · cases r1
    exact ⟨_, rfl, q1.1.1, q1.1.2, k _ _ _ H1 q1.2 l1 s1 (yd_range 0 _)⟩
  · exact q1.elim
def lRange2 (ia ib : IE) : IL := fun EI st Q => ia EI st fun x st1 => ib EI st1 fun y st2 => match x, y with
  | .int i, .int j => i62 i ∧ i62 j ∧ Q (rng i (j - i).toNat) st2
  | _, _ => False
theorem l_range2 (hm : X.mg "range" = none) (ha : PE X a (LE X.K F Wx ia)) (hb : PE X b (LE X.K F Wx ib)) (hg : Gl X "range" := by rfl) (hs : starEach [a, b] X.env = [(false, eval a X.env), (false, eval b X.env)] := by rfl) (hs2 : starEach [b] X.env = [(false, eval b X.env)] := by rfl)
    (h1 : starEach [a, b] X.env = (false, eval a X.env) :: starEach [b] X.env := by rfl) (h2 : starEach [b] X.env = (false, eval b X.env) :: starEach [] X.env := by rfl) :
    PI X tg (.Call (.Name "range" p) [a, b] [] pos) (LI X.K F Wx (lRange2 ia ib)) := pi_imp (pi_range2 hg hm (pa_cons ha (pa_cons hb pa_nil h2) h1) hs hs2) fun σ H R h => by
  obtain ⟨st, QI, EI, l, q, ux, k⟩ := h
  refine ⟨st, _, EI, l, q, ux, fun x st1 v H1 q1 l1 s1 r1 => ⟨st1, _, EI, l1, q1, ux.step s1, fun y st2 u H2 q2 l2 s2 r2 => ?_⟩⟩
  split at q2
  · cases r1
    cases r2
    exact ⟨_, _, rfl, ⟨q2.1.1, q2.1.2, q2.2.1.1, q2.2.1.2⟩, k _ _ _ H2 q2.2.2 l2 (s1.trans s2) (yd_range _ _)⟩
  · exact q2.elim

def forGo (g : IG) (body : IS) (EI : XI) (D : IEnds) : List W → Stt → Prop
  | [], st => D.nx st
  | w :: ws, st => g w st fun st1 => body EI { nx := forGo g body EI D ws, ct := forGo g body EI D ws, bk := D.nx, rt := D.rt } st1
def sFor (il : IL) (g : IG) (body : IS) : IS := fun EI D st => il EI st fun ws st1 => forGo g body EI D ws st1
theorem s_for {iter : Expr} {body : List Stmt} {il : IL} {g : IG} (hp : PassesOwn (model X.prog X.w) X.A X.env X.xe) (hi : PI X tg iter (LI X.K F Wx il)) (hg : PG X tg (LG X.K F vs g)) (hb : PSs X body (LS X.K F Wx ip)) (hc : X.calm = true := by rfl)
    (hs : ∀ x, foldedSetIterable iter X.env x = pure x := by intro _; rfl) : PS X (.For tg iter body [] pos) (LS X.K F Wx (sFor il g ip)) := ps_imp (ps_for hp hc hi hg hb hs) fun D σ H h => by
  obtain ⟨st, DI, EI, l, q, u⟩ := h
  refine ⟨st, _, EI, l, q, u.x, fun ws st1 J H1 q1 l1 s1 y => ?_⟩
  refine ⟨fun i m σ' H' => m = ws.length - i ∧ i ≤ ws.length ∧ ∃ st', Lk X.K F st' σ' H' ∧ Step st1 σ H1 st' σ' H' ∧ forGo g ip EI DI (ws.drop i) st', ⟨ws.length, by simp, Nat.zero_le _, st1, l1, .refl, q1⟩, ?_⟩
  rintro i m σ' H' ⟨rfl, hi, st', l', s', q'⟩
  by_cases hlt : i < ws.length
  · obtain ⟨go, yl⟩ := y.go i F st' σ' H' hlt l' s'.mv
    refine .inr ⟨go, fun σ2 H2 => ∃ st2, Lk X.K F st2 σ2 H2 ∧ Step st1 σ H1 st2 σ2 H2 ∧ forGo g ip EI DI (ws.drop (i + 1)) st2, fun σ2 H2 ⟨st2, l2, s2, q2⟩ => ⟨ws.length - (i + 1), by omega, rfl, hlt, st2, l2, s2, q2⟩, fun x H2 yx => ?_⟩
    obtain ⟨w, ew, l2, s2, _, rw'⟩ := yl x H2 yx
    have ed : ws.drop i = w :: ws.drop (i + 1) := by
      obtain ⟨h1, h2⟩ := List.getElem?_eq_some_iff.mp ew
      rw [← h2]
      exact List.drop_eq_getElem_cons h1
    rw [ed] at q'
    refine ⟨w, st', _, l2, rw', q', fun st3 σ3 H3 q3 l3 s3 _ _ => ⟨st3, _, EI, l3, q3, ?_⟩⟩
    have sx : Step st σ H st3 σ3 H3 := ((s1.trans s').trans s2).trans s3
    exact ⟨u.xs.step sx, fun st4 σ4 H4 q4 l4 s4 => ⟨st4, l4, ((s'.trans s2).trans s3).trans s4, q4⟩, fun st4 σ4 H4 q4 l4 s4 => u.nx st4 σ4 H4 q4 l4 (sx.trans s4), fun st4 σ4 H4 q4 l4 s4 => ⟨st4, l4, ((s'.trans s2).trans s3).trans s4, q4⟩, fun r S' v H4 q4 h4 => u.rt r S' v H4 q4 (h4.step sx)⟩
  · have e : i = ws.length := by omega
    subst e
    rw [List.drop_length] at q'
    exact .inl ⟨y.stop _ F st' σ' H' (Nat.le_refl _) s'.mv, u.nx st' σ' H' q' l' (s1.trans s')⟩
def sWhile (t : IT) (body : IS) : IS := fun EI D st => ∃ I : Nat → Stt → Prop, (∃ m, I m st) ∧ ∀ m st, I m st → t EI st fun b st1 => if b = true then body EI { nx := fun st' => ∃ m', m' < m ∧ I m' st', ct := fun st' => ∃ m', m' < m ∧ I m' st', bk := D.nx, rt := D.rt } st1 else D.nx st1
theorem s_while {t : IT} {body : List Stmt} (hp : PassesOwn (model X.prog X.w) X.A X.env X.xe) (hc : PT X c (LT X.K F Wx t)) (hb : PSs X body (LS X.K F Wx ip)) : PS X (.While c body [] pos) (LS X.K F Wx (sWhile t ip)) := ps_imp (ps_while hp hc hb) fun D σ H h => by
  obtain ⟨st, DI, EI, l, ⟨I, ⟨m0, i0⟩, turn⟩, u⟩ := h
  refine ⟨fun m σ' H' => ∃ st', Lk X.K F st' σ' H' ∧ Step st σ H st' σ' H' ∧ I m st', ⟨m0, st, l, .refl, i0⟩, ?_⟩
  rintro m σ' H' ⟨st', l', s', i'⟩
  refine ⟨st', _, EI, l', turn m st' i', (u.step s').x, fun b st1 H1 q1 l1 s1 => ?_⟩
  have sx : Step st σ H st1 σ' H1 := s'.trans s1
  cases b with
  | true =>
    rw [if_pos rfl] at q1
    refine iteT ?_
    refine ⟨fun σ2 H2 => ∃ m', m' < m ∧ ∃ st2, Lk X.K F st2 σ2 H2 ∧ Step st σ H st2 σ2 H2 ∧ I m' st2, fun _ _ z => z, st1, _, EI, l1, q1, ?_⟩
    exact ⟨u.xs.step sx, fun st4 σ4 H4 ⟨m', hm, i4⟩ l4 s4 => ⟨m', hm, st4, l4, sx.trans s4, i4⟩, fun st4 σ4 H4 q4 l4 s4 => u.nx st4 σ4 H4 q4 l4 (sx.trans s4), fun st4 σ4 H4 ⟨m', hm, i4⟩ l4 s4 => ⟨m', hm, st4, l4, sx.trans s4, i4⟩, fun r S' v H4 q4 h4 => u.rt r S' v H4 q4 (h4.step sx)⟩
  | false =>
    rw [if_neg Bool.false_ne_true] at q1
    exact iteF (u.nx st1 σ' H1 q1 l1 sx)
def Stt.wipe (st : Stt) : List Nat → Stt
  | [] => st
  | v :: vs => (st.wipe vs).put v .none
theorem Lk.wipes {K : PySem.W.Frag} {st : Stt} {σ : L2.St} {H : Hp} (l : Lk K F st σ H) : ∀ vs : List Nat, Lk K F (st.wipe vs) (L2.wipe σ vs) H ∧ Step st σ H (st.wipe vs) (L2.wipe σ vs) H
  | [] => ⟨l, .refl⟩
  | v :: vs => by
    obtain ⟨l1, s1⟩ := l.wipes vs
    obtain ⟨l2, s2⟩ := l1.wipe (i := v) (x := none)
    exact ⟨l2, s1.trans s2⟩
abbrev noX : XI := fun _ _ => False
abbrev W0 : WX := fun _ _ _ _ => False
def lcGo (g : IG) (t : IT) (ie : IE) (vs : List Nat) (Q : SO → Stt → Prop) : List W → List W → Stt → Prop
  | [], acc, st => Q (.lst acc) st
  | w :: ws, acc, st => g w (st.wipe vs) fun st1 => t noX st1 fun b st2 => if b = true then ie noX st2 fun y st3 => acc.length < sizeLine ∧ lcGo g t ie vs Q ws (acc ++ [y]) st3 else lcGo g t ie vs Q ws acc st2
def nLc (il : IL) (g : IG) (t : IT) (ie : IE) (vs : List Nat) : IN := fun EI st Q => il EI st fun ws st1 => lcGo g t ie vs (fun o st2 => Q o (st2.wipe vs)) ws [] st1
theorem Lk.writeF {K : PySem.W.Frag} {st : Stt} {σ : L2.St} {H : Hp} {D : Addr} {u : HO} (l : Lk K F st σ H) (fd : F D) : Lk K F st σ (upd H D u) ∧ Mv (Live F st σ) H (Live F st σ) (upd H D u) := by
  have m : Mv (Live F st σ) H (Live F st σ) (upd H D u) := Mv.write (.inr fd) fun _ z => z
  refine ⟨⟨l.len, fun i w e => ?_, fun i o e => ?_, l.inj, fun a o e => (l.sto a o e).move (fun x q => ?_) m, fun a z => ?_, l.fdis⟩, m⟩
  · obtain ⟨v, e1, r⟩ := l.val i w e
    exact ⟨v, e1, r.mono m⟩
  · obtain ⟨a, e1, r, n1, n2⟩ := l.own i o e
    have na : a ≠ D := fun q => n2 (q ▸ fd)
    exact ⟨a, e1, r.move (fun x q => by rw [upd_ne na]; exact q) m, n1, n2⟩
  · have na : a ≠ D := fun z => by
      have q2 := l.fdis D fd
      rw [← z, e] at q2
      cases q2
    rw [upd_ne na]
    exact q
  · by_cases na : a = D
    · rw [na]
      exact ⟨u, upd_same⟩
    · obtain ⟨x, q⟩ := l.ftr a z
      exact ⟨x, by rw [upd_ne na]; exact q⟩
theorem Lk.nwr {K : PySem.W.Frag} {st : Stt} {σ : L2.St} {H : Hp} {D : Addr} (l : Lk K F st σ H) (fd : F D) : ¬ Wr st σ D := fun z => by
  rcases z with z | ⟨i, o, e1, e2⟩
  · exact z (l.fdis D fd)
  · obtain ⟨b, e3, _, _, n⟩ := l.own i o e1
    rw [e2] at e3
    cases e3
    exact n fd
/-- slots that hold nothing may hold anything -/
theorem wipe_get {i : Nat} : ∀ (vs : List Nat) (st : Stt) (σ : L2.St) {x : Slot}, (st.wipe vs).ρ[i]? = some x → x ≠ .none → (L2.wipe σ vs)[i]? = σ[i]?
  | [], _, _, _, _, _ => rfl
  | v :: vs, st, σ, x, e, n => by
    have e' : ((st.wipe vs).ρ.set v .none)[i]? = some x := e
    rcases get_set e' with ⟨_, z, _⟩ | ⟨nv, e'⟩
    · exact absurd z n
    · show ((L2.wipe σ vs).set v none)[i]? = σ[i]?
      rw [List.getElem?_set_ne (Ne.symm nv)]
      exact wipe_get vs st σ e' n
theorem ow_wipe {vs : List Nat} {st : Stt} {σ : L2.St} {a : Addr} : Ow (st.wipe vs).ρ σ a ↔ Ow (st.wipe vs).ρ (L2.wipe σ vs) a := by
  constructor
  · rintro ⟨i, o, e1, e2⟩
    exact ⟨i, o, e1, by rw [wipe_get vs st σ e1 (fun z => nomatch z)]; exact e2⟩
  · rintro ⟨i, o, e1, e2⟩
    exact ⟨i, o, e1, by rw [← wipe_get vs st σ e1 (fun z => nomatch z)]; exact e2⟩
theorem live_wipe {vs : List Nat} {st : Stt} {σ : L2.St} {a : Addr} : Live F (st.wipe vs) σ a ↔ Live F (st.wipe vs) (L2.wipe σ vs) a := by
  unfold Live Wr
  rw [ow_wipe]
theorem Lk.unwipe {K : PySem.W.Frag} {vs : List Nat} {st : Stt} {σ : L2.St} {H : Hp} (l : Lk K F (st.wipe vs) (L2.wipe σ vs) H) : Lk K F (st.wipe vs) σ H := by
  have lv : ∀ a, Live F (st.wipe vs) σ a → Live F (st.wipe vs) (L2.wipe σ vs) a := fun a z => live_wipe.mp z
  have m : Mv (Live F (st.wipe vs) (L2.wipe σ vs)) H (Live F (st.wipe vs) σ) H := mv_same lv
  refine ⟨by rw [l.len, L2.wipe_length], fun i w e => ?_, fun i o e => ?_, fun i j o o' a e1 e2 e3 e4 => ?_, fun a o e => (l.sto a o e).move (fun _ q => q) m, l.ftr, l.fdis⟩
  · obtain ⟨v, e1, r⟩ := l.val i w e
    exact ⟨v, by rw [← wipe_get vs st σ e (fun z => nomatch z)]; exact e1, r.mono m⟩
  · obtain ⟨a, e1, r, n1, n2⟩ := l.own i o e
    exact ⟨a, by rw [← wipe_get vs st σ e (fun z => nomatch z)]; exact e1, r.move (fun _ q => q) m, n1, n2⟩
  · exact l.inj i j o o' a e1 e2 (by rw [wipe_get vs st σ e1 (fun z => nomatch z)]; exact e3) (by rw [wipe_get vs st σ e2 (fun z => nomatch z)]; exact e4)
theorem Step.unwipe {vs : List Nat} {st st' : Stt} {σ σ' : L2.St} {H H' : Hp} (s : Step st σ H (st'.wipe vs) (L2.wipe σ' vs) H') : Step st σ H (st'.wipe vs) σ' H' :=
  ⟨s.keep, fun a z => s.new a (z.imp id fun z => ow_wipe.mp z)⟩
theorem mv_new {st st' : Stt} {σ σ' : L2.St} {H H' : Hp} {D : Addr} (s : Step st σ H st' σ' H') (e : H D = none) : Mv (Live F st σ) H (Live (FA F D) st' σ') H' := fun a u q n =>
  ⟨s.keep a u q fun z => n (.inl z), fun z => by
    rcases z with z | z | z
    · rcases s.new a z with z | z
      · exact n (.inl z)
      · rw [q] at z; cases z
    · exact n (.inr z)
    · rw [z, e] at q; cases q⟩
theorem wipe_sub {vs : List Nat} (σ : L2.St) : ∀ ws : List Nat, (∀ i ∈ ws, i ∈ vs) → L2.wipe (L2.wipe σ ws) vs = L2.wipe σ vs
  | [], _ => rfl
  | w :: ws, h => by
    show L2.wipe ((L2.wipe σ ws).set w none) vs = _
    rw [wipe_set _ (h w List.mem_cons_self), wipe_sub σ ws fun i hi => h i (List.mem_cons_of_mem _ hi)]
theorem lc_of {K : PySem.W.Frag} {il : IL} {g : IG} {t : IT} {ie : IE} {σ : L2.St} {H : Hp} {Q : VK} (h : LN K F Wx (nLc il g t ie vs) σ H Q) :
    tLc (LI K F Wx il) (fun v σ H Q => ∃ F', LG K F' vs g v σ H Q) (fun σ H Q => ∃ F', LT K F' W0 t σ H Q) (fun σ H Q => ∃ F', LE K F' W0 ie σ H Q) vs σ H Q := by
  obtain ⟨st, QI, EI, l, q, ux, k⟩ := h
  refine ⟨st, _, EI, l, q, ux, fun ws st1 J H1 q1 l1 s1 y D hD => ?_⟩
  refine ⟨fun i m Hc => m = ws.length - i ∧ i ≤ ws.length ∧ ∃ stc acc us, Lk K (FA F D) (stc.wipe vs) (L2.wipe σ vs) Hc ∧ Step st1 σ H1 (stc.wipe vs) (L2.wipe σ vs) Hc ∧ Hc D = some (.lst us) ∧ RelWs K (Live (FA F D) (stc.wipe vs) (L2.wipe σ vs)) Hc acc us ∧
    lcGo g t ie vs (fun o st2 => QI o (st2.wipe vs)) (ws.drop i) acc stc, ⟨ws.length, by simp, Nat.zero_le _, st1, [], [], ?_, ?_, upd_same, .nil, q1⟩, ?_⟩
  · exact ((l1.foreign hD).wipes vs).1
  · exact (Step.laid l1 hD).trans ((l1.laid hD).wipes vs).2
  rintro i m Hc ⟨rfl, hi, stc, acc, us, lc, sc, eD, ra, qc⟩
  have mv1 : Mv (Live F st1 σ) H1 (Live (FA F D) (stc.wipe vs) (L2.wipe σ vs)) Hc := mv_new sc hD
  by_cases hlt : i < ws.length
  · obtain ⟨go, yl⟩ := y.go i (FA F D) (stc.wipe vs) (L2.wipe σ vs) Hc hlt lc mv1
    refine .inr ⟨go, fun H' => ∃ stc acc us, Lk K (FA F D) (stc.wipe vs) (L2.wipe σ vs) H' ∧ Step st1 σ H1 (stc.wipe vs) (L2.wipe σ vs) H' ∧ H' D = some (.lst us) ∧ RelWs K (Live (FA F D) (stc.wipe vs) (L2.wipe σ vs)) H' acc us ∧
      lcGo g t ie vs (fun o st2 => QI o (st2.wipe vs)) (ws.drop (i + 1)) acc stc, fun H' ⟨stc, acc, us, z⟩ => ⟨ws.length - (i + 1), by omega, rfl, hlt, stc, acc, us, z⟩, fun x H2 yx => ?_⟩
    obtain ⟨w, ew, l2, s2, k2, rw'⟩ := yl x H2 yx
    have ed : ws.drop i = w :: ws.drop (i + 1) := by
      obtain ⟨h1, h2⟩ := List.getElem?_eq_some_iff.mp ew
      rw [← h2]
      exact List.drop_eq_getElem_cons h1
    rw [ed] at qc
    refine ⟨FA F D, w, stc.wipe vs, _, l2, rw', qc, fun st3 σ3 H3 q3 l3 s3 e3' k3 => ?_⟩
    have e3 : L2.wipe σ3 vs = L2.wipe σ vs := e3'.trans (wipe_sub σ vs fun _ z => z)
    refine ⟨e3, ?_⟩
    have eD3 : H3 D = some (.lst us) := k3 _ _ (k2 _ _ eD)
    have ra3 : RelWs K (Live (FA F D) st3 σ3) H3 acc us := ra.mono (s2.trans s3).mv
    refine ⟨FA F D, st3, _, noX, l3, q3, fun _ _ _ _ _ z => z.elim, fun b st4 H4 q4 l4 s4 => ?_⟩
    have eD4 : H4 D = some (.lst us) := s4.keep _ _ eD3 (l3.nwr (.inr rfl))
    have ra4 : RelWs K (Live (FA F D) st4 σ3) H4 acc us := ra3.mono s4.mv
    cases b with
    | false =>
      rw [if_neg Bool.false_ne_true] at q4
      refine iteF ⟨st4, acc, us, ?_⟩
      obtain ⟨l5, s5⟩ := l4.wipes vs
      rw [e3] at l5 s5
      exact ⟨l5, (((sc.trans s2).trans s3).trans s4).trans s5, eD4, ra4.mono s5.mv, q4⟩
    | true =>
      rw [if_pos rfl] at q4
      refine iteT ⟨FA F D, st4, _, noX, l4, q4, fun _ _ _ _ _ z => z.elim, fun w5 st5 v5 H5 q5 l5 s5 r5 => ?_⟩
      have eD5 : H5 D = some (.lst us) := s5.keep _ _ eD4 (l4.nwr (.inr rfl))
      have ra5 : RelWs K (Live (FA F D) st5 σ3) H5 acc us := ra4.mono s5.mv
      refine ⟨us, eD5, by rw [← ra5.length]; exact q5.1, st5, acc ++ [w5], us ++ [v5], ?_⟩
      obtain ⟨l6, s6⟩ := l5.wipes vs
      rw [e3] at l6 s6
      obtain ⟨l7, m7⟩ := l6.writeF (D := D) (u := .lst (us ++ [v5])) (.inr rfl)
      refine ⟨l7, ?_, upd_same, ((ra5.append (.cons r5 .nil)).mono s6.mv).mono m7, q5.2⟩
      have s8 := ((((sc.trans s2).trans s3).trans s4).trans s5).trans s6
      exact ⟨fun a u e n => by rw [upd_ne (ne_of_none e hD)]; exact s8.keep a u e n, s8.new⟩
  · have e : i = ws.length := by omega
    subst e
    rw [List.drop_length] at qc
    refine .inl ⟨y.stop _ (FA F D) (stc.wipe vs) (L2.wipe σ vs) Hc (Nat.le_refl _) mv1, ?_⟩
    exact k (.lst acc) (stc.wipe vs) D Hc qc lc.unwipe (s1.trans sc.unwipe) ⟨us, eD, ra.mono (mv_same fun a z => live_wipe.mp z)⟩ (NewAt.step s1 (.inr hD))
theorem pt_ex {i : IT} {Wx : WX} (h : ∀ F, PT X e (LT X.K F Wx i)) : PT X e (fun σ H Q => ∃ F, LT X.K F Wx i σ H Q) := ⟨fun pins s σ H Q I ⟨F, q⟩ => (h F).run pins s σ H Q I q⟩
theorem pg_ex {g : IG} (h : ∀ F, PG X e (LG X.K F vs g)) : PG X e (fun v σ H Q => ∃ F, LG X.K F vs g v σ H Q) := ⟨fun pins s σ H v u Q I r ⟨F, q⟩ => (h F).run pins s σ H v u Q I r q⟩
def tYes' : IT := fun _ st Q => Q true st
structure PTI (X : Cx) (ifs : List Expr) (t : IT) : Prop where
  it : PTs X ifs (fun σ H Q => ∃ F, LT X.K F W0 t σ H Q)
theorem ti_nil : PTI X [] tYes' := ⟨⟨fun pins s σ H Q I ⟨F, st, QI, EI, l, q, ux, k⟩ => pts_nil.run pins s σ H Q I (k true st H q l .refl)⟩⟩
theorem ti_one {t : IT} (h : ∀ F, PT X c (LT X.K F W0 t)) : PTI X [c] t := ⟨pts_one (pt_ex h)⟩
variable {elt iter : Expr} {ifs : List Expr} {scope : Scope} {il : IL} {g : IG} {t : IT} {ie : IE}
theorem n_lc (own : List (Str × Nat)) (hN : X.N.Nodup) (hi : PI X tg iter (LI X.K F Wx il)) (ok : BlkOk X.N X.env.scope scope own)
    (hg : ∀ (s : Shared) (H : Hp) (C : Addr) (cl : List (Str × Addr)) (fp : List Addr) F, PG (X.blk s H scope (compEnvC scope cl C X.env) fp) tg (LG X.K F (own.map (·.2)) g))
    (ht : ∀ (s : Shared) (H : Hp) (C : Addr) (cl : List (Str × Addr)) (fp : List Addr), PTI (X.blk s H scope (compEnvC scope cl C X.env) fp) ifs t)
    (he : ∀ (s : Shared) (H : Hp) (C : Addr) (cl : List (Str × Addr)) (fp : List Addr) F, PE (X.blk s H scope (compEnvC scope cl C X.env) fp) elt (LE X.K F W0 ie)) (hc : X.calm = true := by rfl) (hs : ∀ x, foldedSetIterable iter X.env x = pure x := by intro _; rfl) :
    PE X (.ListComp elt [⟨tg, iter, ifs, 0⟩] scope pos) (LN X.K F Wx (nLc il g t ie (own.map (·.2)))) :=
  pe_imp (pe_lc hc hN hi ok (fun s H C cl fp => pg_ex fun F => hg s H C cl fp F) (fun s H C cl fp => (ht s H C cl fp).it) (fun s H C cl fp => pe_ex fun F => he s H C cl fp F) hs) fun _ _ _ h => lc_of h
end
end Sh
namespace Sh
open PySem L2
open PyProof.Rows hiding St
section
variable {X : Cx} {F : Addr → Prop} {Wx : WX} {a b c e o : Expr} {es : List Expr} {pos p apos cpos : Pos} {ia ib ic : IE} {i : IA} {n : Nat} {x name : Str} {id : String}
/-- from the items and the arguments: the items behind, the value -/
def MtG (r : V → List V → Hp → VK → Prop) (g : List W → List W → (List W → W → Prop) → Prop) : Prop :=
  ∀ {K : PySem.W.Frag} {Lv : Addr → Prop} {H : Hp} {l : Addr} {ws as : List W} {vs us : List V} {P : List W → W → Prop} {Q : VK}, g ws as P → H l = some (.lst vs) → RelWs K Lv H ws vs → RelWs K Lv H as us →
    (∀ ws' w vs' v, P ws' w → RelWs K Lv H ws' vs' → RelW K Lv H w v → Q v (upd H l (.lst vs'))) → r (.ref l) us H Q
def iMtO (j : Nat) (g : List W → List W → (List W → W → Prop) → Prop) (i : IA) : IE := fun EI st Q => ownL st j fun _ => i EI st fun as st1 => ownL st1 j fun ws => g ws as fun ws' w => Q w (st1.put j (.own (.lst ws')))
theorem i_mtO (j : Nat) {px : Pos} {r : V → List V → Hp → VK → Prop} {g : List W → List W → (List W → W → Prop) → Prop} (hg : MtG r g) (hm : MtR X id r) (slot : PySem.Slot "list" name id) (hty : typeOf (.builtin id) = pure (.type "method_descriptor")) (ha : PA X (e :: es) (LA X.K F Wx n i))
    (hN : X.N[j]? = some x := by rfl) (hv : Vis X.env.scope x := by first | exact Or.inl rfl | exact Or.inr (Or.inl rfl) | exact Or.inr (Or.inr rfl)) (hd : (x == ("__debug__" : Str)) = false := by decide) (hcd : (x == ("__classdict__" : Str)) = false := by decide)
    (hbase : attributeBase (.Name x px) name X.env (eval (.Name x px) X.env) = eval (.Name x px) X.env := by rfl)
    (hfew : ((backTo cpos (starEach (e :: es) X.env)).all (fun x => !x.1) && (backToKw cpos (keywordEach [] X.env)).all (fun x => x.1.isSome) && decide ((e :: es).length + ([] : List Keyword).length + (if ([] : List Keyword).isEmpty then 0 else 1) < 30)) = true := by rfl)
    (hline : (apos.endLine == cpos.line) = true := by rfl) (hs : starEach (e :: es) X.env = (false, eval e X.env) :: starEach es X.env := by rfl) (hplain : (backTo cpos (starEach es X.env)).any (·.1) = false := by rfl) :
    PE X (.Call (.Attribute (.Name x px) name apos) (e :: es) [] cpos) (LE X.K F Wx (iMtO j g i)) := by
  refine pe_imp (pe_bm PySem.F.plainAttrs_list slot hty hm (pe_var hN hv hd hcd) ha hbase hfew hline hs hplain) fun σ H Q h => ?_
  obtain ⟨st, QI, EI, l, q, ux, k⟩ := h
  obtain ⟨ws0, e0, q⟩ := ownL_inv q
  obtain ⟨b, eb, ⟨vs0, hv0, r0⟩, _⟩ := l.own j _ e0
  refine ⟨.ref b, eb, .inl ⟨rfl, _, SqL.of hv0⟩, st, _, EI, l, q, ux, fun as st1 us H1 hn q1 l1 s1 r1 => ?_⟩
  obtain ⟨ws, e1, q1⟩ := ownL_inv q1
  obtain ⟨b', eb', ⟨vs, hv1, rs⟩, _⟩ := l1.own j _ e1
  rw [eb] at eb'
  cases eb'
  refine hg q1 hv1 rs r1 fun ws' w vs' v p r2 rw' => ?_
  have la : Live F st1 σ b := .inl (.inr ⟨j, _, e1, eb⟩)
  have m : Mv (Live F st1 σ) H1 (Live F st1 σ) (upd H1 b (.lst vs')) := Mv.write la fun _ z => z
  obtain ⟨l2, s2⟩ := l1.write (o' := .lst ws') (u := .lst vs') e1 eb ⟨vs', upd_same, r2.mono m⟩
  exact k w _ v _ p l2 (s1.trans s2) (rw'.mono s2.mv)
def gAppend : List W → List W → (List W → W → Prop) → Prop := fun ws as P => match as with
  | [y] => ws.length < sizeLine ∧ P (ws ++ [y]) .non
  | _ => False
theorem mg_append : MtG rAppend gAppend := by
  intro K Lv H l ws as vs us P Q h hl rs ra k
  unfold gAppend at h
  split at h
  · cases ra with
    | cons r1 r2 =>
      cases r2
      exact ⟨l, vs, _, rfl, rfl, hl, by rw [← rs.length]; exact h.1, k _ _ _ _ h.2 (rs.append (.cons r1 .nil)) .non⟩
  · exact h.elim
def gInsert : List W → List W → (List W → W → Prop) → Prop := fun ws as P => match as with
  | [.int i, y] => ws.length < sizeLine ∧ 0 ≤ i ∧ i < 2 ^ 63 ∧ P (ws.take i.toNat ++ [y] ++ ws.drop i.toNat) .non
  | _ => False
def gExtend : List W → List W → (List W → W → Prop) → Prop := fun ws as P => match as with
  | [.lst ys] => ws.length + ys.length ≤ sizeLine ∧ P (ws ++ ys) .non
  | _ => False
def setW (ws : List W) (i : Int) (y : W) (P : List W → Prop) : Prop := match ixN ws.length i with
  | some j => P (ws.set j y)
  | none => False
theorem setW_inv {ws : List W} {i : Int} {y : W} {P : List W → Prop} (h : setW ws i y P) : ∃ j, ixN ws.length i = some j ∧ P (ws.set j y) := by
  unfold setW at h
  split at h
  · exact ⟨_, by assumption, h⟩
  · exact h.elim
theorem RelWs.set {K : PySem.W.Frag} {Lv : Addr → Prop} {H : Hp} {y : W} {v : V} (r : RelW K Lv H y v) : ∀ {ws : List W} {vs : List V} (j : Nat), RelWs K Lv H ws vs → RelWs K Lv H (ws.set j y) (vs.set j v)
  | _, _, _, .nil => .nil
  | _, _, 0, .cons _ t => .cons r t
  | _, _, j + 1, .cons q t => .cons q (RelWs.set r j t)
/-- of an owned list -/
def sIxO (j : Nat) (ii ie : IE) : IS := fun EI D st => ie EI st fun w st1 => ownL st1 j fun _ => ii EI st1 fun y st2 => ownL st2 j fun ws => match y with
  | .int k => setW ws k w fun ws' => D.nx (st2.put j (.own (.lst ws')))
  | _ => False
/-- a list of the store, by a name -/
def stoL (st : Stt) (j : Nat) (P : Addr → List W → Prop) : Prop := match st.ρ[j]? with
  | some (.val (.ref a)) => (match st.S a with
    | some (.lst ws) => P a ws
    | _ => False)
  | _ => False
theorem stoL_inv {st : Stt} {j : Nat} {P : Addr → List W → Prop} (h : stoL st j P) : ∃ a ws, st.ρ[j]? = some (.val (.ref a)) ∧ st.S a = some (.lst ws) ∧ P a ws := by
  unfold stoL at h
  split at h
  · split at h
    · exact ⟨_, _, by assumption, by assumption, h⟩
    · exact h.elim
  · exact h.elim
def sIxS (j : Nat) (ii ie : IE) : IS := fun EI D st => ie EI st fun w st1 => stoL st1 j fun _ _ => ii EI st1 fun y st2 => stoL st2 j fun a ws => match y with
  | .int k => setW ws k w fun ws' => D.nx (st2.puts a (.lst ws'))
  | _ => False
theorem s_ixS (j : Nat) {px tp : Pos} {ii ie : IE} {b : Expr} (he : PE X e (LE X.K F Wx ie)) (hi : PE X b (LE X.K F Wx ii)) (hN : X.N[j]? = some x := by rfl) (hv : Vis X.env.scope x := by first | exact Or.inl rfl | exact Or.inr (Or.inl rfl) | exact Or.inr (Or.inr rfl)) (hd : (x == ("__debug__" : Str)) = false := by decide)
    (hcd : (x == ("__classdict__" : Str)) = false := by decide) (hs : swapsWithSole [.Subscript (.Name x px) b tp] e pos.line X.env = pure false := by rfl) (hw : swappedStores [.Subscript (.Name x px) b tp] e X.env = pure none := by rfl)
    (h1 : (assignEach [.Subscript (.Name x px) b tp] X.env).map (·.2) = [assign (.Subscript (.Name x px) b tp) X.env] := by rfl)
    (ha : ∀ v, assign (.Subscript (.Name x px) b tp) X.env v = (do
      let ov ← holding [v] (eval (.Name x px) X.env)
      let iv ← holding [v, ov] (eval b X.env)
      standAt tp
      holding [v, ov, iv] (setItem ov iv v)
      release [v, ov, iv] []) := by intro _; rfl) :
    PS X (.Assign [.Subscript (.Name x px) b tp] e pos) (LS X.K F Wx (sIxS j ii ie)) := ps_imp (ps_asg he (pg_sub (pe_var hN hv hd hcd) hi set_list ha) hs hw h1) fun D σ H h => by
  obtain ⟨st, DI, EI, l, q, u⟩ := h
  refine ⟨st, _, EI, l, q, u.x, fun w st1 v H1 q1 l1 s1 r1 => ?_⟩
  obtain ⟨a0, ws0, e0, _, q1⟩ := stoL_inv q1
  obtain ⟨v0, ev, r0⟩ := l1.val j _ e0
  cases r0
  refine ⟨.ref a0, ev, st1, _, EI, l1, q1, u.x.step s1, fun y st2 v2 H2 q2 l2 s2 r2 => ?_⟩
  obtain ⟨a1, ws, e1, es, q2⟩ := stoL_inv q2
  obtain ⟨v1, ev1, r1'⟩ := l2.val j _ e1
  rw [ev] at ev1
  cases ev1
  cases r1'
  split at q2
  · cases r2
    obtain ⟨jj, ej, p⟩ := setW_inv q2
    obtain ⟨vs, hv1, rs⟩ := l2.sto _ _ es
    refine ⟨a0, vs, _, jj, rfl, rfl, hv1, by rw [← rs.length]; exact ej, ?_⟩
    have la : Live F st2 σ a0 := .inl (.inl (by rw [es]; exact fun z => nomatch z))
    have m : Mv (Live F st2 σ) H2 (Live F st2 σ) (upd H2 a0 (.lst (vs.set jj v))) := Mv.write la fun _ z => z
    obtain ⟨l3, s3⟩ := l2.writeS (o' := .lst (ws.set jj w)) (u := .lst (vs.set jj v)) es ⟨_, upd_same, (rs.set (r1.mono s2.mv) jj).mono m⟩
    exact u.nx _ _ _ p l3 ((s1.trans s2).trans s3)
  · exact q2.elim
/-- xs[i] += e, a list of the store, numbers, i not below 0 -/
def rGetL : V → V → Hp → VK → Prop := fun x y H Q => ∃ p xs i v, x = .ref p ∧ y = .int i ∧ H p = some (.lst xs) ∧ 0 ≤ i ∧ i < 2 ^ 62 ∧ xs[i.toNat]? = some v ∧ Q v H
theorem get_list : PGet X rGetL := by
  intro pins s σ H x y v u Q I rx ry h
  obtain ⟨p, xs, i, z, rfl, rfl, hp, h0, h1, hz, q⟩ := h
  cases rx
  obtain ⟨t, rfl⟩ := ry
  obtain ⟨its, r, pl, _⟩ := I.list (SqL.of hp)
  obtain ⟨w, ew, rw'⟩ := r.get hz
  exact wpAny_getItem_list pl.isList h0 (by omega) (by simpa using ew) ⟨z, H, I, rw', q⟩
def sAugS (j : Nat) (f : Int → Int → Int) (ii ie : IE) : IS := fun EI D st => stoL st j fun _ _ => ii EI st fun y st1 => stoL st1 j fun _ ws => match y with
  | .int k => 0 ≤ k ∧ k < 2 ^ 62 ∧ (match ws[k.toNat]? with
    | some (.int n) => ie EI st1 fun z st2 => stoL st2 j fun a ws2 => (match z with
      | .int m => setW ws2 k (.int (f n m)) fun ws' => D.nx (st2.puts a (.lst ws'))
      | _ => False)
    | _ => False)
  | _ => False
theorem s_augS (j : Nat) {px tp : Pos} {ii ie : IE} {b : Expr} {op : Operator} {f : Int → Int → Int} (ho : PIp X op (ipI f)) (he : PE X e (LE X.K F Wx ie)) (hi : PE X b (LE X.K F Wx ii)) (hN : X.N[j]? = some x := by rfl) (hv : Vis X.env.scope x := by first | exact Or.inl rfl | exact Or.inr (Or.inl rfl) | exact Or.inr (Or.inr rfl)) (hd : (x == ("__debug__" : Str)) = false := by decide)
    (hcd : (x == ("__classdict__" : Str)) = false := by decide) (ha : ∀ ov iv new, augStore b ov iv new = (do holding [new, ov, iv] (setItem ov iv new); release [new, ov, iv] []; pure .next) := by intros; rfl) :
    PS X (.AugAssign (.Subscript (.Name x px) b tp) op e pos) (LS X.K F Wx (sAugS j f ii ie)) := ps_imp (ps_augS (pe_var hN hv hd hcd) hi get_list he ho set_list ha) fun D σ H h => by
  obtain ⟨st, DI, EI, l, q, u⟩ := h
  obtain ⟨a0, ws0, e0, _, q⟩ := stoL_inv q
  obtain ⟨v0, ev, r0⟩ := l.val j _ e0
  cases r0
  refine ⟨.ref a0, ev, st, _, EI, l, q, u.x, fun y st1 v1 H1 q1 l1 s1 r1 => ?_⟩
  obtain ⟨a1, ws1, e1, es1, q1⟩ := stoL_inv q1
  obtain ⟨v1', ev1, r1'⟩ := l1.val j _ e1
  rw [ev] at ev1
  cases ev1
  cases r1'
  split at q1
  · cases r1
    obtain ⟨hk0, hk1, q1⟩ := q1
    split at q1
    · rename_i m ew
      obtain ⟨vs1, hv1, rs1⟩ := l1.sto _ _ es1
      obtain ⟨z1, ez, rz⟩ := rs1.get ew
      cases rz
      refine ⟨a0, vs1, _, .int m, rfl, rfl, hv1, hk0, hk1, ez, st1, _, EI, l1, q1, u.x.step s1, fun z st2 v2 H2 q2 l2 s2 r2 => ?_⟩
      obtain ⟨a2, ws2, e2, es2, q2⟩ := stoL_inv q2
      obtain ⟨v2', ev2, r2'⟩ := l2.val j _ e2
      rw [ev] at ev2
      cases ev2
      cases r2'
      split at q2
      · rename_i m2
        cases r2
        obtain ⟨jj, ej, p⟩ := setW_inv q2
        obtain ⟨vs, hv2, rs⟩ := l2.sto _ _ es2
        refine ⟨_, _, rfl, rfl, a0, vs, _, jj, rfl, rfl, hv2, by rw [← rs.length]; exact ej, ?_⟩
        have la : Live F st2 σ a0 := .inl (.inl (by rw [es2]; exact fun z => nomatch z))
        have key : ∀ c : Int, Lk X.K F (st2.puts a0 (.lst (ws2.set jj (.int c)))) σ (upd H2 a0 (.lst (vs.set jj (.int c)))) ∧ Step st2 σ H2 (st2.puts a0 (.lst (ws2.set jj (.int c)))) σ (upd H2 a0 (.lst (vs.set jj (.int c)))) := fun c => by
          have m' : Mv (Live F st2 σ) H2 (Live F st2 σ) (upd H2 a0 (.lst (vs.set jj (.int c)))) := Mv.write la fun _ z => z
          exact l2.writeS es2 ⟨_, upd_same, (rs.set (.int c) jj).mono m'⟩
        obtain ⟨l3, s3⟩ := key _
        exact u.nx _ _ _ p l3 ((s1.trans s2).trans s3)
      · exact q2.elim
    · exact q1.elim
  · exact q1.elim
def gLen : List W → (W → Prop) → Prop := fun ws P => match ws with
  | [.str y] => y.length ≤ sizeLine ∧ P (.int y.length)
  | [.tup ys] => P (.int ys.length)
  | [.lst ys] => P (.int ys.length)
  | [.scr ns] => P (.int ns.length)
  | _ => False
theorem bt_len {K : PySem.W.Frag} : BtG K (fun xs H Q => ∃ x n, xs = [x] ∧ LenV K x H n ∧ Q (.int n) H) gLen := by
  intro F st σ H ws vs P Q h l r k
  unfold gLen at h
  split at h
  · cases r with
    | cons r1 r2 =>
      cases r2
      cases r1
      exact ⟨_, _, rfl, ⟨h.1, rfl⟩, k _ _ H h.2 l .refl (.int _)⟩
  · cases r with
    | cons r1 r2 =>
      cases r2
      cases r1 with
      | tup f rs => exact ⟨_, _, rfl, .inr ⟨_, f.sq, rfl⟩, by rw [← rs.length]; exact k _ _ H h l .refl (.int _)⟩
  · cases r with
    | cons r1 r2 =>
      cases r2
      cases r1 with
      | lst f rs => exact ⟨_, _, rfl, .inl ⟨_, f.sq, rfl⟩, by rw [← rs.length]; exact k _ _ H h l .refl (.int _)⟩
  · cases r with
    | cons r1 r2 =>
      cases r2
      cases r1 with
      | scr f => exact ⟨_, _, rfl, .inl ⟨_, f.sq, rfl⟩, by rw [List.length_map]; exact k _ _ H h l .refl (.int _)⟩
  · exact h.elim
theorem i_len (hm : X.mg "len" = none) (ha : PA X (e :: es) (LA X.K F Wx n i)) (hg : Gl X "len" := by rfl) (he : starEach (e :: es) X.env = (false, eval e X.env) :: starEach es X.env := by rfl) (hpl : (backTo pos (starEach es X.env)).any (·.1) = false := by rfl) :
    PE X (.Call (.Name "len" p) (e :: es) [] pos) (LE X.K F Wx (iFn gLen i)) := i_fn call_len bt_len hm PySem.boot_len ha hg (by decide) (by decide) he hpl
/-- len of an owned list -/
def iLenO (j : Nat) : IE := fun _ st Q => ownL st j fun ws => Q (.int ws.length) st
def gAbs : List W → (W → Prop) → Prop := fun ws P => match ws with
  | [.int j] => P (.int (if j < 0 then -j else j))
  | _ => False
theorem bt_abs {K : PySem.W.Frag} : BtG K (fun xs H Q => ∃ i, xs = [.int i] ∧ Q (.int (if i < 0 then -i else i)) H) gAbs := by
  intro F st σ H ws vs P Q h l r k
  unfold gAbs at h
  split at h
  · cases r with
    | cons r1 r2 =>
      cases r2
      cases r1
      exact ⟨_, rfl, k _ _ H h l .refl (.int _)⟩
  · exact h.elim
theorem boot_abs' : bootBuiltins "abs" = some (.builtin "abs") := by decide +kernel
theorem i_abs (hm : X.mg "abs" = none) (ha : PA X (e :: es) (LA X.K F Wx n i)) (hg : Gl X "abs" := by rfl) (he : starEach (e :: es) X.env = (false, eval e X.env) :: starEach es X.env := by rfl) (hpl : (backTo pos (starEach es X.env)).any (·.1) = false := by rfl) :
    PE X (.Call (.Name "abs" p) (e :: es) [] pos) (LE X.K F Wx (iFn gAbs i)) := i_fn call_abs bt_abs hm boot_abs' ha hg (by decide) (by decide) he hpl
def gInt : List W → (W → Prop) → Prop := fun ws P => match ws with
  | [.int j] => P (.int j)
  | [.bl k] => P (.int (if k then 1 else 0))
  | _ => False
theorem bt_int {K : PySem.W.Frag} : BtG K (fun xs H Q => (∃ i, xs = [.int i] ∧ Q (.int i) H) ∨ ∃ k, xs = [.bl k] ∧ Q (.int (if k then 1 else 0)) H) gInt := by
  intro F st σ H ws vs P Q h l r k
  unfold gInt at h
  split at h
  · cases r with
    | cons r1 r2 =>
      cases r2
      cases r1
      exact .inl ⟨_, rfl, k _ _ H h l .refl (.int _)⟩
  · cases r with
    | cons r1 r2 =>
      cases r2
      cases r1
      exact .inr ⟨_, rfl, k _ _ H h l .refl (.int _)⟩
  · exact h.elim
theorem boot_int' : bootBuiltins "int" = some (.type "int") := by decide +kernel
theorem i_toint (hm : X.mg "int" = none) (ha : PA X (e :: es) (LA X.K F Wx n i)) (hg : Gl X "int" := by rfl) (he : starEach (e :: es) X.env = (false, eval e X.env) :: starEach es X.env := by rfl) (hpl : (backTo pos (starEach es X.env)).any (·.1) = false := by rfl) :
    PE X (.Call (.Name "int" p) (e :: es) [] pos) (LE X.K F Wx (iFn gInt i)) := i_ty call_int1 bt_int hm boot_int' ha hg (by decide) (by decide) he hpl
def gMinMax (f : Int → Int → Int) : List W → (W → Prop) → Prop := fun ws P => match ws with
  | [.int a, .int b] => P (.int (f a b))
  | _ => False
/-- list(x), tuple(x) -/
def gList : List W → (W → Prop) → Prop := fun ws P => match ws with
  | [.lst ys] => P (.lst ys)
  | [.tup ys] => P (.lst ys)
  | _ => False
theorem bt_list {K : PySem.W.Frag} : BtG K (fun xs H Q => ∃ p ys, xs = [.ref p] ∧ (SqL K H p ys ∨ SqT K H p ys) ∧ ∀ l, H l = none → Q (.ref l) (upd H l (.lst ys))) gList := by
  intro F st σ H ws vs P Q h l r k
  have key : ∀ (ys : List W) (us : List V), RelWs K (Live F st σ) H ys us → P (.lst ys) → ∀ q, H q = none → Q (.ref q) (upd H q (.lst us)) := fun ys us rs p q hq => by
    have s := Step.laid (o := .lst us) l hq
    exact k _ _ _ p (l.laid hq) s (.lst (FzL.new l hq) (rs.mono s.mv))
  unfold gList at h
  split at h
  · cases r with
    | cons r1 r2 =>
      cases r2
      cases r1 with
      | lst f rs => exact ⟨_, _, rfl, .inl f.sq, key _ _ rs h⟩
  · cases r with
    | cons r1 r2 =>
      cases r2
      cases r1 with
      | tup f rs => exact ⟨_, _, rfl, .inr f.sq, key _ _ rs h⟩
  · exact h.elim
theorem boot_list' : bootBuiltins "list" = some (.type "list") := by decide +kernel
theorem boot_tuple' : bootBuiltins "tuple" = some (.type "tuple") := by decide +kernel
theorem i_list (hm : X.mg "list" = none) (ha : PA X (e :: es) (LA X.K F Wx n i)) (hg : Gl X "list" := by rfl) (he : starEach (e :: es) X.env = (false, eval e X.env) :: starEach es X.env := by rfl) (hpl : (backTo pos (starEach es X.env)).any (·.1) = false := by rfl) :
    PE X (.Call (.Name "list" p) (e :: es) [] pos) (LE X.K F Wx (iFn gList i)) := i_ty call_list_of bt_list hm boot_list' ha hg (by decide) (by decide) he hpl
def gTuple : List W → (W → Prop) → Prop := fun ws P => match ws with
  | [.lst ys] => P (.tup ys)
  | [.tup ys] => P (.tup ys)
  | _ => False
theorem bt_tuple {K : PySem.W.Frag} : BtG K (fun xs H Q => ∃ p ys, xs = [.ref p] ∧ ((SqL K H p ys ∧ ∀ l, H l = none → Q (.ref l) (upd H l (.tup ys))) ∨ (SqT K H p ys ∧ Q (.ref p) H))) gTuple := by
  intro F st σ H ws vs P Q h l r k
  unfold gTuple at h
  split at h
  · cases r with
    | cons r1 r2 =>
      cases r2
      cases r1 with
      | lst f rs =>
        rename_i us
        refine ⟨_, us, rfl, .inl ⟨f.sq, fun q hq => ?_⟩⟩
        have s := Step.laid (o := .tup us) l hq
        exact k _ _ _ h (l.laid hq) s (.tup (FzT.new l hq) (rs.mono s.mv))
  · cases r with
    | cons r1 r2 =>
      cases r2
      cases r1 with
      | tup f rs => exact ⟨_, _, rfl, .inr ⟨f.sq, k _ _ H h l .refl (.tup f rs)⟩⟩
  · exact h.elim
theorem i_tuple (hm : X.mg "tuple" = none) (ha : PA X (e :: es) (LA X.K F Wx n i)) (hg : Gl X "tuple" := by rfl) (he : starEach (e :: es) X.env = (false, eval e X.env) :: starEach es X.env := by rfl) (hpl : (backTo pos (starEach es X.env)).any (·.1) = false := by rfl) :
    PE X (.Call (.Name "tuple" p) (e :: es) [] pos) (LE X.K F Wx (iFn gTuple i)) := i_ty call_tuple_of bt_tuple hm boot_tuple' ha hg (by decide) (by decide) he hpl
/-- list(range(a)) -/
def iListRg (ia : IE) : IE := fun EI st Q => ia EI st fun x st1 => match x with
  | .int j => 0 ≤ j ∧ j ≤ 16777216 ∧ Q (.lst (rng 0 j.toNat)) st1
  | _ => False
/-- all(..), any(..) of truths -/
def blsOf : List W → Option (List Bool)
  | [] => some []
  | .bl b :: ws => (blsOf ws).map (b :: ·)
  | _ => none
theorem bls_rel {K : PySem.W.Frag} {Lv : Addr → Prop} {H : Hp} : ∀ {ws : List W} {vs : List V} {bs : List Bool}, blsOf ws = some bs → RelWs K Lv H ws vs → vs = bs.map V.bl := by
  intro ws
  induction ws with
  | nil =>
    intro vs bs e r
    cases r
    cases e
    rfl
  | cons w ws ih =>
    intro vs bs e r
    cases r with
    | cons h r =>
      cases w with
      | bl b =>
        cases h
        unfold blsOf at e
        cases q : blsOf ws with
        | none => rw [q] at e; cases e
        | some bs =>
          rw [q] at e
          cases e
          rw [ih q r]
          rfl
      | _ => cases e
def gAll (f : List Bool → Bool) : List W → (W → Prop) → Prop := fun ws P => match ws with
  | [.lst ys] => (match blsOf ys with
    | some bs => P (.bl (f bs))
    | none => False)
  | _ => False
theorem bt_all {K : PySem.W.Frag} {f : List Bool → Bool} : BtG K (fun vs H Q => ∃ (a : Addr) (bs : List Bool), vs = [V.ref a] ∧ SqL K H a (bs.map V.bl) ∧ Q (.bl (f bs)) H) (gAll f) := by
  intro F st σ H ws vs P Q h l r k
  unfold gAll at h
  split at h
  · split at h
    · rename_i bs eb
      cases r with
      | cons r1 r2 =>
        cases r2
        cases r1 with
        | lst fz rs =>
          have e := bls_rel eb rs
          subst e
          exact ⟨_, bs, rfl, fz.sq, k _ _ H h l .refl (.bl _)⟩
    · exact h.elim
  · exact h.elim
theorem boot_all' : bootBuiltins "all" = some (.builtin "all") := by decide +kernel
theorem i_all (hm : X.mg "all" = none) (ha : PA X (e :: es) (LA X.K F Wx n i)) (hc : X.calm = true := by rfl) (hg : Gl X "all" := by rfl) (he : starEach (e :: es) X.env = (false, eval e X.env) :: starEach es X.env := by rfl) (hpl : (backTo pos (starEach es X.env)).any (·.1) = false := by rfl) :
    PE X (.Call (.Name "all" p) (e :: es) [] pos) (LE X.K F Wx (iFn (gAll fun bs => bs.all _root_.id) i)) := i_fn (cr_all hc) bt_all hm boot_all' ha hg (by decide) (by decide) he hpl
def tyN : W → Option String
  | .non => some "NoneType"
  | .bl _ => some "bool"
  | .int _ => some "int"
  | .str _ => some "str"
  | .tup _ => some "tuple"
  | .lst _ => some "list"
  | .dct _ => some "dict"
  | _ => none
def gIsi : List W → (W → Prop) → Prop := fun ws P => match ws with
  | [x, .ty T] => (match tyN x with
    | some S => (match kitB S T with
      | some b => P (.bl b)
      | none => False)
    | none => False)
  | _ => False
theorem tyx_of {K : PySem.W.Frag} {Lv : Addr → Prop} {H : Hp} {w : W} {v : V} {S : String} (e : tyN w = some S) (r : RelW K Lv H w v) : TyX K H v (.type S) := by
  cases r with
  | non => cases e; exact .base .non
  | bl b => cases e; exact .base (.bl b)
  | int j => cases e; exact .base (.int j)
  | str y => cases e; exact .base (.str y)
  | tup f rs =>
    cases e
    rcases f with ⟨f, _⟩ | ⟨o, _, _, h1, h2, _⟩
    · exact .base (.tup f)
    · exact .kTuple h1 h2
  | lst f rs => cases e; exact .base (.lst f.1)
  | dct f n rs => cases e; exact .base (.dK f)
  | ty => cases e
  | ref => cases e
  | obj f n rs => cases e
  | dcT f n rs => cases e
  | exn0 => cases e
  | exn1 f n rs => cases e
  | scr f => cases e
  | glo n => cases e
theorem bt_isi {K : PySem.W.Frag} : BtG K (rIsi K) gIsi := by
  intro F st σ H ws vs P Q h l r k
  unfold gIsi at h
  split at h
  · split at h
    · rename_i S eS
      split at h
      · rename_i b eb
        cases r with
        | cons r1 r2 =>
          cases r2 with
          | cons r2 r3 =>
            cases r2
            cases r3
            exact ⟨_, _, _, _, b, rfl, .ty _, tyx_of eS r1, kit_ty eb, k _ _ H h l .refl (.bl _)⟩
      · exact h.elim
    · exact h.elim
  · exact h.elim
theorem boot_isi' : bootBuiltins "isinstance" = some (.builtin "isinstance") := by decide +kernel
theorem i_isi (hm : X.mg "isinstance" = none) (ha : PA X (e :: es) (LA X.K F Wx n i)) (hg : Gl X "isinstance" := by rfl) (he : starEach (e :: es) X.env = (false, eval e X.env) :: starEach es X.env := by rfl) (hpl : (backTo pos (starEach es X.env)).any (·.1) = false := by rfl) :
    PE X (.Call (.Name "isinstance" p) (e :: es) [] pos) (LE X.K F Wx (iFn gIsi i)) := i_fn call_isi bt_isi hm boot_isi' ha hg (by decide) (by decide) he hpl
/-- a built-in type as a value -/
theorem i_tyv {T : String} (hm : X.mg x = none) (hv : bootBuiltins x = some (.type T)) (hg : Gl X x := by rfl) (hn : x ≠ "__name__" := by decide) (hdb : (x == ("__debug__" : Str)) = false := by decide) : PE X (.Name x pos) (LE X.K F Wx (iC (.ty T))) := i_c (pe_bltn (v := .ty T) hg hm hv rfl hn hdb) fun _ _ => .ty T
def RepOk (w : W) : Prop := okD 60 w = true ∧ (toD w).showable = true ∧ (toD w).shown.length ≤ sizeLine
def gRepr : List W → (W → Prop) → Prop := fun ws P => match ws with
  | [w] => RepOk w ∧ P (.str (toD w).shown)
  | _ => False
def rRepr (K : PySem.W.Frag) : List V → Hp → VK → Prop := fun vs H Q => ∃ (v : V) (d : PyData), vs = [v] ∧ Dp K H v d ∧ d.canLay0 = true ∧ d.depth ≤ 60 ∧ d.showable = true ∧ d.shown.length ≤ sizeLine ∧ Q (.str d.shown) H
theorem cr_repr (hgd : X.A.guards = some []) (hu : X.A.units + 64 < cLine) : CallR X (.builtin "repr") (rRepr X.K) := by
  intro pins s σ H xs us Q I r h
  obtain ⟨v, d, rfl, hd, hl, hdp, hs, hz, q⟩ := h
  obtain ⟨u, rfl, ru⟩ := vals1 r
  cases hd with
  | non => cases ru; exact PySem.P.repr_of_none ⟨.str _, H, I.tok _, ⟨_, rfl⟩, q⟩
  | bl b => cases ru; exact PySem.P.repr_of_bool ⟨.str _, H, I.tok _, ⟨_, rfl⟩, q⟩
  | int j =>
    obtain ⟨t, rfl⟩ := ru
    exact PySem.P.repr_of_int (of_decide_eq_true hs) ⟨.str _, H, I.tok _, ⟨_, rfl⟩, q⟩
  | str y =>
    obtain ⟨t, rfl⟩ := ru
    exact PySem.P.repr_of_str ⟨.str _, H, I.tok _, ⟨_, rfl⟩, q⟩ hz
  | lst f rs =>
    cases ru
    obtain ⟨as, rr⟩ := Dp.reads I _ _ _ (.lst f rs) rfl
    exact repr_of_reads' rr hs (PyData.noDict_hsm (PyData.hasDict_of_canLay _ hl)) hgd (by omega) (fun _ _ e => e) (fun h' u tk hk => ⟨.str _, H, I.kept hk, ⟨_, rfl⟩, q⟩) hz
  | tup f rs =>
    cases ru
    obtain ⟨as, rr⟩ := Dp.reads I _ _ _ (.tup f rs) rfl
    exact repr_of_reads' rr hs (PyData.noDict_hsm (PyData.hasDict_of_canLay _ hl)) hgd (by omega) (fun _ _ e => e) (fun h' u tk hk => ⟨.str _, H, I.kept hk, ⟨_, rfl⟩, q⟩) hz
theorem bt_repr {K : PySem.W.Frag} : BtG K (rRepr K) gRepr := by
  intro F st σ H ws vs P Q h l r k
  unfold gRepr at h
  split at h
  · cases r with
    | cons r1 r2 =>
      cases r2
      obtain ⟨⟨h1, h2, h3⟩, p⟩ := h
      obtain ⟨h4, h5⟩ := lay_of _ h1
      exact ⟨_, _, rfl, dp_of _ h1 r1, h4, h5, h2, h3, k _ _ H p l .refl (.str _)⟩
  · exact h.elim
theorem boot_repr' : bootBuiltins "repr" = some (.builtin "repr") := by decide +kernel
end
end Sh
namespace Sh
open PySem L2
open PyProof.Rows hiding St
abbrev S0 : Sto := fun _ => none
theorem live0 {a : Addr} : ¬ Live (fun _ => False) ⟨[], S0⟩ [] a := fun z => Or.elim z (fun z => Or.elim z (fun z => z rfl) ow_nil) _root_.id
theorem lk0 {K : PySem.W.Frag} {H : Hp} : Lk K (fun _ => False) ⟨[], S0⟩ [] H :=
  ⟨rfl, fun i w e => by simp at e, fun i o e => by simp at e, fun i j o o' a e => by simp at e, fun a o e => (nomatch (show (none : Option SO) = some o from e)), fun _ z => False.elim z, fun _ z => False.elim z⟩
theorem scr_of {K : PySem.W.Frag} {H : Hp} {a : Addr} {ns : List Int} (h : SqL K H a (ns.map V.int)) : RelW K (Live (fun _ => False) ⟨[], S0⟩ []) H (.scr ns) (.ref a) := by
  refine .scr ?_
  rcases h with (h | ⟨o, h⟩) | h
  · exact .inr (.inl ⟨h, live0⟩)
  · exact .inl ⟨⟨o, h⟩, live0⟩
  · exact .inr (.inr h)
/-- a law's spec at the script -/
theorem law_sp {K : PySem.W.Frag} {H : Hp} {a : Addr} {ns : List Int} {spec : ISp} (hS : SqL K H a (ns.map V.int)) (h : spec [.scr ns] S0 (fun r _ => r = .val (.bl true)) fun _ _ => False) : spI K 1 spec [.ref a] H (fun v _ => v = .bl true) fun _ _ _ => False := by
  refine ⟨fun _ => False, S0, [.scr ns], _, _, lk0, .cons (scr_of hS) .nil, rfl, h, fun r S' v H' q ok => ?_, fun _ _ _ _ _ z => False.elim z⟩
  have e : r = .val (.bl true) := q
  subst e
  obtain ⟨_, _, rv⟩ := ok
  cases rv
  rfl
theorem CX_none {P : Program} {w : World} {l : List Env} {H : Hp} {s : Shared} {e : Value} {s' : Shared} : ¬ L2.CX P w l H s (fun _ _ _ => False) e s' := fun ⟨_, _, _, _, _, _, _, _, _, _, _, _, z⟩ => z
section
variable {P : Program} {w : World} {K : PySem.W.Frag} {mg mb : Str → Option Value} {k : Nat} {fa a : Addr} {fd : FuncData} {x : Str} {sp : Sp} {sA : Shared} {us : List Value} {ns : List Int}
/-- the call of the law over an abstract heap that tracks the script at most -/
theorem law_at {H : Hp} (kin : K.In sA.heap) (gl : sA.heap.Ns mainGlobals mg) (bl : sA.heap.Ns builtinsNs mb) (bb : ∀ y : Str, y ≠ "__name__" → mb y = bootBuiltins y) (lim' : sA.heap.NoLimit) (gens : sA.gens = #[])
    (obj : sA.heap.get? a = some { cls := .type "list", data := .seq us.toArray }) (room : Room k callerA)
    (G : ∀ base : Heap, K.In base → base.Ns mainGlobals mg → FnG P w K mg base k fa fd [x] sp) (bd : ∀ (s : Shared) (u : Value), BindsTo s fd ⟨[u], []⟩ [(x, u)])
    (q : sp [.ref a] H (fun v _ => v = .bl true) fun _ _ _ => False) (only : Only H) (held : HOk P w H sA.heap) (mine : ∀ b, H b ≠ none → b = a) (out : H a ≠ none → K.lookup a = none) :
    codeAny (model P w) callerA (.call (.ref fa) ⟨[.ref a], []⟩) (fun r s' => r = .ok (.ret (.bool true)) ∧ OldK sA.heap s'.heap ∧ s'.os = sA.os ∧ AllBare s'.gens) sA := by
  -- what is a dict is not the script
  have nd : ∀ {b : Addr} {o : Obj} {ds : Array DictEntry} {m : Nat}, sA.heap.get? b = some o → o.data = .dict ds m → H b = none := fun {b o ds m} e d => by
    refine Classical.byContradiction fun z => ?_
    rw [mine b z, obj] at e
    cases e
    exact nomatch (show Data.seq us.toArray _ = Data.dict ds m from d)
  have ns' : ∀ {b : Addr} {f : Str → Option Value}, sA.heap.Ns b f → (hidT sA.heap H).Ns b f := fun {b f} ⟨o, ds, m, e, d, r⟩ => ⟨o, ds, m, hidT_get e (nd e d), d, r⟩
  have kb : K.In (hidT sA.heap H) := fun b o e => by
    refine hidT_get (kin b o e) (Classical.byContradiction fun z => ?_)
    have eb := mine b z
    rw [eb] at z e
    rw [out z] at e
    cases e
  obtain ⟨mc, c1, c2⟩ := lim'
  have md : Mod K mg (hidT sA.heap H) := ⟨kb, ns' gl, ⟨mb, ns' bl, bb⟩, ⟨mc, ns' c1, c2⟩⟩
  have en : Env0 P w K mg (hidT sA.heap H) callerA [] sA H := ⟨rfl, md, fun _ _ e => of_hidT e, Nat.le_of_eq (hidT_size _ _), trivial, fun b z => (nomatch (show b ∈ ([] : List Addr) from z)), held, .of_eq gens⟩
  refine codeAny_mono ((G _ kb (ns' gl)).go (us := [.ref a]) (vs := [.ref a]) room rfl en (bd sA _) (.cons rfl .nil) q) fun r s' h => ?_
  cases r with
  | error e => exact (CX_none h).elim
  | ok fl =>
    cases fl with
    | ret u =>
      obtain ⟨v, H', os, bare, un, held', rv, e⟩ := h
      have ev : v = .bl true := e
      subst ev
      have eu : u = Value.bool true := rv
      subst eu
      refine ⟨rfl, OldK.of_keep fun b o eb => ?_, os, bare⟩
      rcases only b with z | ⟨ob, xs, z⟩
      · exact un.keep b o eb z (fun y => (nomatch (show b ∈ ([] : List Addr) from y))) (fun y => nomatch y)
      · have e1 := (held b _ z).1
        rw [eb] at e1
        cases e1
        exact (held' b _ (un.frzs b o _ z)).1
    | next => exact h.elim
    | brk => exact h.elim
    | cont => exact h.elim
theorem law_go {spec : ISp} (kin : K.In sA.heap) (gl : sA.heap.Ns mainGlobals mg) (bl : sA.heap.Ns builtinsNs mb) (bb : ∀ y : Str, y ≠ "__name__" → mb y = bootBuiltins y) (lim' : sA.heap.NoLimit) (gens : sA.gens = #[])
    (obj : sA.heap.get? a = some { cls := .type "list", data := .seq us.toArray }) (ints' : IntsAre us ns) (len : ns.length ≤ sizeLine) (room : Room k callerA)
    (G : ∀ base : Heap, K.In base → base.Ns mainGlobals mg → FnG P w K mg base k fa fd [x] (spI K 1 spec)) (bd : ∀ (s : Shared) (u : Value), BindsTo s fd ⟨[u], []⟩ [(x, u)])
    (h : spec [.scr ns] S0 (fun r _ => r = .val (.bl true)) fun _ _ => False) :
    codeAny (model P w) callerA (.call (.ref fa) ⟨[.ref a], []⟩) (fun r s' => r = .ok (.ret (.bool true)) ∧ OldK sA.heap s'.heap ∧ s'.os = sA.os ∧ AllBare s'.gens) sA := by
  have rel := vals_ints ints'
  have len2 : us.length = ns.length := ints'.length
  cases e : K.lookup a with
  | some o =>
    have eo := (kin a o e).symm.trans obj
    cases eo
    have sq : SqL K (fun _ => none) a (ns.map V.int) := .inr ⟨_, us.toArray, _, e, rfl, rfl, rfl, by rw [List.size_toArray, len2]; exact len, by simpa using rel⟩
    exact law_at kin gl bl bb lim' gens obj room G bd (law_sp sq h) (fun _ => .inl rfl) (fun b u z => nomatch (show (none : Option HO) = some u from z)) (fun b z => (z rfl).elim) fun z => (z rfl).elim
  | none =>
    let H : Hp := upd (fun _ => none) a (.frz { cls := .type "list", data := .seq us.toArray } (.lst (ns.map V.int)))
    have at_a : H a = some (.frz { cls := .type "list", data := .seq us.toArray } (.lst (ns.map V.int))) := upd_same
    have off : ∀ b, b ≠ a → H b = none := fun b z => upd_ne z
    refine law_at (H := H) kin gl bl bb lim' gens obj room G bd (law_sp (.inl (.inr ⟨_, at_a⟩)) h) (fun b => ?_) (fun b u z => ?_) (fun b z => ?_) fun _ => e
    · by_cases q : b = a
      · rw [q]; exact .inr ⟨_, _, at_a⟩
      · exact .inl (off b q)
    · by_cases q : b = a
      · subst q
        rw [at_a] at z
        cases z
        exact ⟨obj, by rw [List.length_map]; exact len, us, _, rel, obj⟩
      · rw [off b q] at z
        cases z
    · exact Classical.byContradiction fun q => z (off b q)
end
/-- THE END of a law -/
theorem walkG {l : PySem.W.OpenLaw} {n k : Nat} {q : Program} {loose : List Str} {XP : (Str → Option Value) → Heap → Prop} {YP : World → Heap → Prop} {d : DefRec} {x : Str} (hn : l.most = some n) (hn2 : n ≤ sizeLine) (hdf : d.params.defaults = []) (room : Room k callerA)
    (T : ∀ (w : World) (mg : Str → Option Value) (fa : Addr) (h : Heap), YP w h → h.Ns mainGlobals mg → mg d.name = some (.ref fa) → ∃ (K : PySem.W.Frag) (fd : FuncData) (spec : ISp), K.In h ∧ (∀ (s : Shared) (u : Value), BindsTo s fd ⟨[u], []⟩ [(x, u)]) ∧
      (∀ ns : List Int, ns.length ≤ n → spec [.scr ns] S0 (fun r _ => r = .val (.bl true)) fun _ _ => False) ∧ ∀ base : Heap, K.In base → base.Ns mainGlobals mg → FnG l.prog w K mg base k fa fd [x] (spI K 1 spec)) :
    PySem.W.WalkO q loose XP YP l.row.toRowW d [] (fun f vs => PySem.call f vs) :=
  Att.attach_call hn hdf fun w s₀ s₁ mg mb fa o pm cd doc a vs ns G Y ho hd hcd hmg hobj hints hlen hg => by
    obtain ⟨K, fd, spec, kin, bd, sp, F⟩ := T w mg fa _ Y G.T.g hmg
    exact law_go kin G.T.g G.T.b G.T.builtins G.T.nolimit hg hobj hints (Nat.le_trans hlen hn2) room F bd (sp ns hlen)
end Sh
namespace Sh
open PySem L2
open PyProof.Rows hiding St
section
variable {K : PySem.W.Frag} {F : Addr → Prop} {st : Stt} {σ : L2.St} {H : Hp} {a : Addr} {o : SO}
theorem live_pub : ∀ b, Live F (st.puts a o) σ b → Live (FA F a) st σ b := fun b z => by
  rcases z with (z | z) | z
  · by_cases e : b = a
    · exact .inr (.inr e)
    · refine .inl (.inl ?_)
      have q : (st.puts a o).S b = st.S b := Sto.put_ne e
      rw [q] at z
      exact z
  · exact .inl (.inr z)
  · exact .inr (.inl z)
/-- a new object goes into the store -/
theorem Lk.publish (l : Lk K (FA F a) st σ H) (r : RelO K (Live (FA F a) st σ) H a o) (nF : ¬ F a) : Lk K F (st.puts a o) σ H := by
  have m : Mv (Live (FA F a) st σ) H (Live F (st.puts a o) σ) H := mv_same live_pub
  refine ⟨l.len, fun i w e => ?_, fun i o' e => ?_, l.inj, fun b o' e => ?_, fun b z => l.ftr b (.inl z), fun b z => ?_⟩
  · obtain ⟨v, e1, r1⟩ := l.val i w e
    exact ⟨v, e1, r1.mono m⟩
  · obtain ⟨b, e1, r1, n1, n2⟩ := l.own i o' e
    refine ⟨b, e1, r1.move (fun _ q => q) m, ?_, fun z => n2 (.inl z)⟩
    have ne : b ≠ a := fun z => n2 (.inr z)
    exact (Sto.put_ne ne).trans n1
  · by_cases q : b = a
    · subst q
      have e2 : some o = some o' := Eq.trans (Sto.put_same (S := st.S)).symm e
      cases e2
      exact r.move (fun _ q => q) m
    · have e2 : st.S b = some o' := (Sto.put_ne q).symm.trans e
      exact (l.sto b o' e2).move (fun _ q => q) m
  · have ne : b ≠ a := fun q => nF (q ▸ z)
    exact (Sto.put_ne ne).trans (l.fdis b (.inl z))
theorem Step.publish {st0 : Stt} {σ0 : L2.St} {H0 : Hp} (s : Step st0 σ0 H0 st σ H) (n : NewAt st0 σ0 H0 a) : Step st0 σ0 H0 (st.puts a o) σ H :=
  ⟨s.keep, fun b z => by
    rcases z with z | z
    · by_cases e : b = a
      · rw [e]; exact n
      · have q : (st.puts a o).S b = st.S b := Sto.put_ne e
        rw [q] at z
        exact s.new b (.inl z)
    · exact s.new b (.inr z)⟩
end
section
variable {X : Cx} {F : Addr → Prop} {Wx : WX} {a b c e : Expr} {es : List Expr} {pos : Pos} {ia ib ic : IE} {nn : IN}
/-- x = a new object that is handed about: it goes into the store -/
def sSetP (i : Nat) (nn : IN) : IS := fun EI D st => nn EI st fun o st1 => ∀ a, st1.S a = none → D.nx ((st1.puts a o).put i (.val (.ref a)))
theorem setP_of {K : PySem.W.Frag} {i : Nat} {D : Ends} {σ : L2.St} {H : Hp} (h : LS K F Wx (sSetP i nn) D σ H) : tAsg (LN K F Wx nn) (gName i) D σ H := by
  obtain ⟨st, DI, EI, l, q, u⟩ := h
  exact ⟨st, _, EI, l, q, u.x, fun o st1 a H1 q1 l1 s1 r1 n1 => u.nx _ _ H1 (q1 a (l1.fdis a (.inr rfl))) ((l1.publish r1 (NewAt.nf l n1)).put (.ref a)) ((Step.publish s1 n1).trans Step.put)⟩
theorem s_setP (i : Nat) {x : Str} {pos' : Pos} (hN : X.N.Nodup) (ha : PE X a (LN X.K F Wx nn)) (hi : X.N[i]? = some x := by rfl) (hx : Loc X.env.scope x := by first | exact Or.inl rfl | exact Or.inr rfl) (hs : swapsWith a (some (.Name x pos')) pos.line X.env = pure false := by rfl)
    (hf : X.fn x = true ∨ X.env.scope.names.lookup x = some .local := by first | exact .inl rfl | exact .inr rfl | assumption) : PS X (.Assign [.Name x pos'] a pos) (LS X.K F Wx (sSetP i nn)) := ps_imp (ps_set hN hi hx ha hs hf) fun _ _ _ h => setP_of h
end
theorem boot_bool' : bootBuiltins "bool" = some (.type "bool") := by decide +kernel
structure Df (K : PySem.W.Frag) (mg : Str → Option Value) (x : Str) (s : Stmt) : Prop where
  ex : ∃ f fd, FunD K x x (defArgs s) (defBody s) (defScope s) [] [] f fd ∧ mg x = some (.ref f)
structure Cal (P : Program) (w : World) (K : PySem.W.Frag) (mg : Str → Option Value) (base : Heap) (x : Str) (k n : Nat) (spec : ISp) : Prop where
  ex : ∃ f fd ps, FnG P w K mg base k f fd ps (spI K n spec) ∧ mg x = some (.ref f) ∧ PySem.W.keepIn K (.ref f) = true ∧ Binds K fd ps []
section
variable {P : Program} {w : World} {K : PySem.W.Frag} {mg : Str → Option Value} {base : Heap} {x : Str} {k n : Nat}
theorem Cal.spec {sp sp' : ISp} (C : Cal P w K mg base x k n sp) (h : ∀ ws S Q E, sp' ws S Q E → sp ws S Q E) : Cal P w K mg base x k n sp' := by
  obtain ⟨f, fd, ps, G, r⟩ := C.ex
  exact ⟨f, fd, ps, G.spec h, r⟩
theorem Cal.up {sp : ISp} {k' : Nat} (C : Cal P w K mg base x k n sp) (h : k ≤ k') : Cal P w K mg base x k' n sp := by
  obtain ⟨f, fd, ps, G, r⟩ := C.ex
  exact ⟨f, fd, ps, G.up h, r⟩
/-- a def of the module keeps what its body does -/
theorem calI {s : Stmt} {N ps : List Str} {ib : IS} (D : Df K mg x s) (Sc : FnScope N ps (defScope s))
    (bd : ∀ (kV doc pm : Value) (an : Option Addr) (cdv ct : Value) (us : List Value), us.length = ps.length → bindArgs (PySem.W.fnOf x x (defArgs s) (defBody s) (defScope s) .none kV doc pm an cdv ct) ⟨us, []⟩ = pure (ps.zip us))
    (hb : ∀ (f : Addr) (cdv : Value) (A : Around) (outer : List Env) (s' : Shared) (H : Hp) (E : XK), Room k (A.deeper (envOfC x (defScope s) s'.heap.objs.size f cdv)) → A.guards = some [] → ∀ (F : Addr → Prop) (Wx : WX), Takes (cxOf (L2.CX P w) P w K mg base N x (defScope s) f cdv A outer s' H E) Wx →
      PSs (cxOf (L2.CX P w) P w K mg base N x (defScope s) f cdv A outer s' H E) (defBody s) (LS K F Wx ib)) : Cal P w K mg base x (k + 1) ps.length (bodyI N.length ib) := by
  obtain ⟨f, fd, Fd, hm⟩ := D.ex
  exact ⟨f, fd, ps, fnI Fd Sc (hb f), hm, Fd.kp, Fd.bindsN bd⟩
end
section
variable {X : Cx} {F : Addr → Prop} {Wx : WX} {e : Expr} {es : List Expr} {pos p : Pos} {k' n : Nat} {spec : ISp} {x : Str} {i : IA}
theorem i_cal (C : Cal X.prog X.w X.K X.mg X.base x k' n spec) (hr : Room k' X.A) (hgd : X.A.guards = some []) (tk : Takes X Wx) (ha : PA X (e :: es) (LA X.K F Wx n i)) (hg : Gl X x := by rfl) (hdb : (x == ("__debug__" : Str)) = false := by decide)
    (he : starEach (e :: es) X.env = (false, eval e X.env) :: starEach es X.env := by rfl) (hpl : (backTo pos (starEach es X.env)).any (·.1) = false := by rfl) : PE X (.Call (.Name x p) (e :: es) [] pos) (LE X.K F Wx (iCall spec i)) := by
  obtain ⟨f, fd, ps, G, hm, hk, hb⟩ := C.ex
  exact i_call G hr hgd tk hm hk hb ha hg hdb he hpl
theorem n_cal (C : Cal X.prog X.w X.K X.mg X.base x k' n spec) (hr : Room k' X.A) (hgd : X.A.guards = some []) (tk : Takes X Wx) (ha : PA X (e :: es) (LA X.K F Wx n i)) (hg : Gl X x := by rfl) (hdb : (x == ("__debug__" : Str)) = false := by decide)
    (he : starEach (e :: es) X.env = (false, eval e X.env) :: starEach es X.env := by rfl) (hpl : (backTo pos (starEach es X.env)).any (·.1) = false := by rfl) : PE X (.Call (.Name x p) (e :: es) [] pos) (LN X.K F Wx (nCall spec i)) := by
  obtain ⟨f, fd, ps, G, hm, hk, hb⟩ := C.ex
  exact n_call G hr hgd tk hm hk hb ha hg hdb he hpl
end
end Sh
namespace Sh
open PySem L2
open PyProof.Rows hiding St
section
variable {X : Cx} {F : Addr → Prop} {Wx : WX} {a b c e : Expr} {pos : Pos} {ia ib : IE} {x : Str} {w : W}
end
section
variable {X : Cx} {F : Addr → Prop} {Wx : WX} {a b c e : Expr} {pos p : Pos} {ia ib : IE} {x : Str} {tbl : List (Str × W)}
/-- word in TABLE -/
def tKdIn (neg : Bool) (tbl : List (Str × W)) (ia : IE) : IT := fun EI st Q => ia EI st fun v st1 => match v with
  | .str z => Q (if neg then !(tbl.lookup z).isSome else (tbl.lookup z).isSome) st1
  | _ => False
def iOfT (t : IT) : IE := fun EI st Q => t EI st fun b st1 => Q (.bl b) st1
/-- TABLE[word] -/
def iKdIx (tbl : List (Str × W)) (ib : IE) : IE := fun EI st Q => ib EI st fun v st1 => match v with
  | .str z => (match tbl.lookup z with
    | some w => Q w st1
    | none => False)
  | _ => False
end
abbrev pairW (p : Int × Int) : W := .tup [.int p.1, .int p.2]
section
variable {X : Cx} {F : Addr → Prop} {Wx : WX} {e : Expr} {es : List Expr} {pos p : Pos} {i : IA} {n : Nat}
end
end Sh
namespace Sh
open PySem L2
open PyProof.Rows hiding St
open He (ga ma)
section
variable {K : PySem.W.Frag} {Lv : Addr → Prop} {H : Hp}
theorem RelFs.get {f : Str} : ∀ {ws : List (Str × W)} {vs : List (Str × V)} {w : W}, RelFs K Lv H ws vs → ws.lookup f = some w → ∃ v, vs.lookup f = some v ∧ RelW K Lv H w v
  | _, _, _, .nil, e => by cases e
  | _, _, w, .cons (k := k) h r, e => by
    rw [List.lookup_cons] at e
    rw [List.lookup_cons]
    cases q : f == k with
    | true =>
      rw [q] at e
      cases e
      exact ⟨_, rfl, h⟩
    | false =>
      rw [q] at e
      exact RelFs.get r e
theorem RelFs.no {f : Str} : ∀ {ws : List (Str × W)} {vs : List (Str × V)}, RelFs K Lv H ws vs → ws.lookup f = none → vs.lookup f = none
  | _, _, .nil, _ => rfl
  | _, _, .cons (k := k) h r, e => by
    rw [List.lookup_cons] at e
    rw [List.lookup_cons]
    cases q : f == k with
    | true => rw [q] at e; cases e
    | false => rw [q] at e; exact RelFs.no r e
def putW (f : Str) (v : W) : List (Str × W) → List (Str × W)
  | [] => [(f, v)]
  | (g, x) :: r => if g = f then (g, v) :: r else (g, x) :: putW f v r
theorem RelFs.put {f : Str} {w : W} {v : V} (h : RelW K Lv H w v) : ∀ {ws : List (Str × W)} {vs : List (Str × V)}, RelFs K Lv H ws vs → RelFs K Lv H (putW f w ws) (putF f v vs)
  | _, _, .nil => .cons h .nil
  | _, _, .cons (k := k) a r => by
    unfold putW putF
    by_cases q : k = f
    · rw [if_pos q, if_pos q]; exact .cons h r
    · rw [if_neg q, if_neg q]; exact .cons a (RelFs.put h r)
theorem RelFs.length : ∀ {ws : List (Str × W)} {vs : List (Str × V)}, RelFs K Lv H ws vs → ws.length = vs.length
  | _, _, .nil => rfl
  | _, _, .cons _ r => congrArg Nat.succ (RelFs.length r)
end
/-- an object: frozen, or of the store -/
def objOf (st : Stt) (x : W) (P : Str → List (Str × W) → Prop) : Prop := match x with
  | .obj C fs => P C fs
  | .ref a => (match st.S a with
    | some (.ins C fs) => P C fs
    | _ => False)
  | _ => False
section
variable {X : Cx} {F : Addr → Prop} {Wx : WX} {a b c e o : Expr} {es : List Expr} {pos pos' : Pos} {ia ib ic : IE} {cs : List Str} {f : Str}
/-- x.f -/
def iFld (cs : List Str) (f : Str) (ia : IE) : IE := fun EI st Q => ia EI st fun x st1 => objOf st1 x fun C fs => C ∈ cs ∧ (match fs.lookup f with
  | some w => Q w st1
  | none => False)
/-- o.f = e, an object of the store -/
def sAtt (cs : List Str) (f : Str) (io iv : IE) : IS := fun EI D st => iv EI st fun w st1 => io EI st1 fun x st2 => match x with
  | .ref a => (match st2.S a with
    | some (.ins C fs) => C ∈ cs ∧ fs.length < 1000 ∧ D.nx (st2.puts a (.ins C (putW f w fs)))
    | _ => False)
  | _ => False
end
structure CalM (P : Program) (w : World) (K : PySem.W.Frag) (mg : Str → Option Value) (base : Heap) (C m : Str) (k n : Nat) (spec : ISp) : Prop where
  ex : ∃ fd ps, Cls K (ga K C) ∧ Meth K (ga K C) m (ma K (ga K C) m) ∧ FnG P w K mg base k (ma K (ga K C) m) fd ps (spI K (n + 1) spec) ∧ Binds K fd ps []
theorem CalM.spec {P : Program} {w : World} {K : PySem.W.Frag} {mg : Str → Option Value} {base : Heap} {C m : Str} {k n : Nat} {sp sp' : ISp} (M : CalM P w K mg base C m k n sp) (h : ∀ ws S Q E, sp' ws S Q E → sp ws S Q E) : CalM P w K mg base C m k n sp' := by
  obtain ⟨fd, ps, c, hm, G, b⟩ := M.ex
  exact ⟨fd, ps, c, hm, G.spec h, b⟩
theorem CalM.up {P : Program} {w : World} {K : PySem.W.Frag} {mg : Str → Option Value} {base : Heap} {C m : Str} {k k' n : Nat} {sp : ISp} (M : CalM P w K mg base C m k n sp) (h : k ≤ k') : CalM P w K mg base C m k' n sp := by
  obtain ⟨fd, ps, c, hm, G, b⟩ := M.ex
  exact ⟨fd, ps, c, hm, G.up h, b⟩
/-- of several classes -/
structure Ms (P : Program) (w : World) (K : PySem.W.Frag) (mg : Str → Option Value) (base : Heap) (m : Str) (k n : Nat) (tb : List (Str × ISp)) : Prop where
  at_ : ∀ C sp, tb.lookup C = some sp → CalM P w K mg base C m k n sp
theorem Ms.nil {P : Program} {w : World} {K : PySem.W.Frag} {mg : Str → Option Value} {base : Heap} {m : Str} {k n : Nat} : Ms P w K mg base m k n [] := ⟨fun _ _ e => by cases e⟩
theorem Ms.cons {P : Program} {w : World} {K : PySem.W.Frag} {mg : Str → Option Value} {base : Heap} {C m : Str} {j k n : Nat} {sp : ISp} {tb : List (Str × ISp)} (M : CalM P w K mg base C m j n sp) (h : j ≤ k) (r : Ms P w K mg base m k n tb) : Ms P w K mg base m k n ((C, sp) :: tb) := ⟨fun D sp' e => by
  rw [List.lookup_cons] at e
  cases q : D == C with
  | true =>
    rw [q] at e
    cases e
    rw [eq_of_beq q]
    exact M.up h
  | false =>
    rw [q] at e
    exact r.at_ D sp' e⟩
section
variable {X : Cx} {F : Addr → Prop} {Wx : WX} {a b c e o : Expr} {es : List Expr} {pos apos : Pos} {ia ib ic : IE} {m : Str} {k' n : Nat} {tb : List (Str × ISp)} {i : IA}
def iMeth (tb : List (Str × ISp)) (m : Str) (ia : IE) (i : IA) : IE := fun EI st Q => ia EI st fun x st1 => objOf st1 x fun C fs => fs.lookup m = none ∧ (match tb.lookup C with
  | some spec => i EI st1 fun ws st2 => spec (x :: ws) st2.S (fun r S' => Q r.fz { st2 with S := S' }) fun x S' => EI x { st2 with S := S' }
  | none => False)
def nMeth (tb : List (Str × ISp)) (m : Str) (ia : IE) (i : IA) : IN := fun EI st Q => ia EI st fun x st1 => objOf st1 x fun C fs => fs.lookup m = none ∧ (match tb.lookup C with
  | some spec => i EI st1 fun ws st2 => spec (x :: ws) st2.S (fun r S' => match r with
    | .new o => Q o { st2 with S := S' }
    | .val _ => False) fun x S' => EI x { st2 with S := S' }
  | none => False)
end
structure CalP (P : Program) (w : World) (K : PySem.W.Frag) (mg : Str → Option Value) (base : Heap) (C f : Str) (k : Nat) (spec : ISp) : Prop where
  ex : ∃ p g fd ps, Cls K (ga K C) ∧ PropOf K (ga K C) f p g ∧ FnG P w K mg base k g fd ps (spI K 1 spec) ∧ Binds K fd ps []
theorem CalP.spec {P : Program} {w : World} {K : PySem.W.Frag} {mg : Str → Option Value} {base : Heap} {C f : Str} {k : Nat} {sp sp' : ISp} (M : CalP P w K mg base C f k sp) (h : ∀ ws S Q E, sp' ws S Q E → sp ws S Q E) : CalP P w K mg base C f k sp' := by
  obtain ⟨p, g, fd, ps, c, hm, G, b⟩ := M.ex
  exact ⟨p, g, fd, ps, c, hm, G.spec h, b⟩
theorem CalP.up {P : Program} {w : World} {K : PySem.W.Frag} {mg : Str → Option Value} {base : Heap} {C f : Str} {k k' : Nat} {sp : ISp} (M : CalP P w K mg base C f k sp) (h : k ≤ k') : CalP P w K mg base C f k' sp := by
  obtain ⟨p, g, fd, ps, c, hm, G, b⟩ := M.ex
  exact ⟨p, g, fd, ps, c, hm, G.up h, b⟩
structure Ps (P : Program) (w : World) (K : PySem.W.Frag) (mg : Str → Option Value) (base : Heap) (f : Str) (k : Nat) (tb : List (Str × ISp)) : Prop where
  at_ : ∀ C sp, tb.lookup C = some sp → CalP P w K mg base C f k sp
theorem Ps.nil {P : Program} {w : World} {K : PySem.W.Frag} {mg : Str → Option Value} {base : Heap} {f : Str} {k : Nat} : Ps P w K mg base f k [] := ⟨fun _ _ e => by cases e⟩
theorem Ps.cons {P : Program} {w : World} {K : PySem.W.Frag} {mg : Str → Option Value} {base : Heap} {C f : Str} {j k : Nat} {sp : ISp} {tb : List (Str × ISp)} (M : CalP P w K mg base C f j sp) (h : j ≤ k) (r : Ps P w K mg base f k tb) : Ps P w K mg base f k ((C, sp) :: tb) := ⟨fun D sp' e => by
  rw [List.lookup_cons] at e
  cases q : D == C with
  | true =>
    rw [q] at e
    cases e
    rw [eq_of_beq q]
    exact M.up h
  | false =>
    rw [q] at e
    exact r.at_ D sp' e⟩
section
variable {X : Cx} {F : Addr → Prop} {Wx : WX} {a b c e o : Expr} {es : List Expr} {pos apos : Pos} {ia ib ic : IE} {f : Str} {k' n : Nat} {tb : List (Str × ISp)} {i : IA}
/-- x.f, a property whose getter raises nothing -/
def iProp (tb : List (Str × ISp)) (f : Str) (ia : IE) : IE := fun EI st Q => ia EI st fun x st1 => objOf st1 x fun C fs => match tb.lookup C with
  | some spec => spec [x] st1.S (fun r S' => Q r.fz { st1 with S := S' }) fun _ _ => False
  | none => False
end
def Sto.del (S : Sto) (a : Addr) : Sto := fun b => if b = a then none else S b
theorem Sto.del_same {S : Sto} {a : Addr} : S.del a a = none := if_pos rfl
theorem Sto.del_ne {S : Sto} {a b : Addr} (h : b ≠ a) : S.del a b = S b := if_neg h
section
variable {K : PySem.W.Frag} {F : Addr → Prop} {st : Stt} {σ : L2.St} {H : Hp} {a : Addr} {o : SO}
theorem Step.del {st0 : Stt} {σ0 : L2.St} {H0 : Hp} (s : Step st0 σ0 H0 st σ H) : Step st0 σ0 H0 { st with S := st.S.del a } σ H :=
  ⟨s.keep, fun b z => s.new b (z.imp (fun z q => z (by
    by_cases e : b = a
    · show st.S.del a b = none
      rw [e]; exact Sto.del_same
    · exact (Sto.del_ne e).trans q)) id)⟩
end
structure CalK (P : Program) (w : World) (K : PySem.W.Frag) (mg : Str → Option Value) (base : Heap) (C : Str) (k n : Nat) (spec : ISp) : Prop where
  ex : ∃ fd ps, Mk K (ga K C) (ma K (ga K C) "__init__") ∧ FnG P w K mg base k (ma K (ga K C) "__init__") fd ps (spI K (n + 1) spec) ∧ Binds K fd ps [] ∧ mg C = some (.ref (ga K C))
theorem CalK.spec {P : Program} {w : World} {K : PySem.W.Frag} {mg : Str → Option Value} {base : Heap} {C : Str} {k n : Nat} {sp sp' : ISp} (M : CalK P w K mg base C k n sp) (h : ∀ ws S Q E, sp' ws S Q E → sp ws S Q E) : CalK P w K mg base C k n sp' := by
  obtain ⟨fd, ps, m, G, b⟩ := M.ex
  exact ⟨fd, ps, m, G.spec h, b⟩
section
variable {X : Cx} {F : Addr → Prop} {Wx : WX} {a b c e o : Expr} {es : List Expr} {pos apos p : Pos} {ia ib ic : IE} {C : Str} {k' n : Nat} {spec : ISp} {i : IA}
def nMake (C : Str) (spec : ISp) (i : IA) : IN := fun EI st Q => i EI st fun ws st1 => ∀ a, st1.S a = none → spec (.ref a :: ws) (st1.S.put a (.ins C [])) (fun r S' => r = .val .non ∧ (match S' a with
    | some o => Q o { st1 with S := S'.del a }
    | none => False)) fun x S' => EI x { st1 with S := S'.del a }
theorem RelX.less {K : PySem.W.Frag} {Lv Lv' : Addr → Prop} {H : Hp} {x : Exn} {cls : Value} {d : Option Addr} (h : ∀ b, Lv' b → Lv b) (r : RelX K Lv H x cls d) : RelX K Lv' H x cls d := by
  obtain ⟨e1, z⟩ := r
  refine ⟨e1, z.imp id ?_⟩
  rintro ⟨a, vs', e2, e3, e4, e5⟩
  exact ⟨a, vs', e2, e3, fun z => e4 (h a z), e5.mono (mv_same h)⟩
end
end Sh
namespace Sh
open PySem L2
open PyProof.Rows hiding St
open He (ga ma)
section
variable {X : Cx} {F : Addr → Prop} {Wx : WX} {a b c e o : Expr} {es : List Expr} {pos apos p : Pos} {ia ib ic : IE} {m : Str} {k' n : Nat} {tb : List (Str × ISp)} {i : IA}
def iLenM (tb : List (Str × ISp)) (ia : IE) : IE := fun EI st Q => ia EI st fun x st1 => objOf st1 x fun C fs => match tb.lookup C with
  | some spec => spec [x] st1.S (fun r S' => match r with
    | .val (.int n) => 0 ≤ n ∧ n < 2 ^ 63 ∧ Q (.int n) { st1 with S := S' }
    | _ => False) fun _ _ => False
  | none => False
def iInv (tb : List (Str × ISp)) (ia : IE) : IE := fun EI st Q => ia EI st fun x st1 => objOf st1 x fun C fs => match tb.lookup C with
  | some spec => spec [x] st1.S (fun r S' => Q r.fz { st1 with S := S' }) fun x S' => EI x { st1 with S := S' }
  | none => False
end
section
variable {X : Cx} {F : Addr → Prop} {Wx : WX} {a b c e o : Expr} {es : List Expr} {pos apos p : Pos} {ia ib ic : IE} {C : Str} {k' n : Nat} {spec : ISp} {i : IA}
def iMulM (C : Str) (spec : ISp) (ia ib : IE) : IE := fun EI st Q => ia EI st fun x st1 => ib EI st1 fun y st2 => objOf st2 x fun C1 _ => objOf st2 y fun C2 _ => C1 = C ∧ C2 = C ∧ spec [x, y] st2.S (fun r S' => Q r.fz { st2 with S := S' }) fun x S' => EI x { st2 with S := S' }
end
def tiObj (t : Addr) : Obj := { cls := .type "tuple_iterator", data := .fields #[.ref t, .int 0 0] }
def ItT (t it : Addr) : HO := .ext fun h => h.get? it = some (tiObj t)
def ItL (t it : Addr) : HO := ItO t it 0
/-- a tuple or a list -/
def SqB (K : PySem.W.Frag) (H : Hp) (t : Addr) (xs : List V) : Bool → Prop
  | true => SqT K H t xs
  | false => SqL K H t xs
def ItB (t it : Addr) : Bool → HO
  | true => ItT t it
  | false => ItL t it
section
variable {P : Program} {w : World} {K : PySem.W.Frag} {mg : Str → Option Value} {base : Heap}
/-- the def at f gives the iterator of a field's tuple or list, a young one -/
structure FnIt (P : Program) (w : World) (K : PySem.W.Frag) (mg : Str → Option Value) (base : Heap) (k : Nat) (f : Addr) (fd : FuncData) (fld : Str) (C : Addr) : Prop where
  go : ∀ {A : Around} {outer : List Env} {s : Shared} {H : Hp} {args : Args} {a dx t : Addr} {fs : List (Str × V)} {xs : List V} {b : Bool}, Room k A → A.guards = some [] → Env0 P w K mg base A outer s H → BindsTo s fd args [(("self" : Str), .ref a)] →
    H a = some (.ins C dx fs) → fs.lookup fld = some (.ref t) → SqB K H t xs b →
    codeAny (model P w) A (.call (.ref f) args) (CR (L2.CX P w) outer P w H s (fun v H' => ∃ it, v = .ref it ∧ H it = none ∧ s.heap.objs.size ≤ it ∧ H' = upd H it (ItB t it b)) fun _ _ _ => False) s
end
section
variable {P : Program} {w : World} {K : PySem.W.Frag} {mg : Str → Option Value} {base : Heap} {x qual : Str} {params : Arguments} {body : List Stmt} {scope : Scope} {f : Addr} {fd : FuncData}
end
structure CalI (P : Program) (w : World) (K : PySem.W.Frag) (mg : Str → Option Value) (base : Heap) (C fld : Str) (k : Nat) : Prop where
  ex : ∃ fd, Cls K (ga K C) ∧ Meth K (ga K C) "__iter__" (ma K (ga K C) "__iter__") ∧ FnIt P w K mg base k (ma K (ga K C) "__iter__") fd fld (ga K C) ∧ Binds K fd [("self" : Str)] []
structure Is (P : Program) (w : World) (K : PySem.W.Frag) (mg : Str → Option Value) (base : Heap) (k : Nat) (tb : List (Str × Str)) : Prop where
  at_ : ∀ C fld, tb.lookup C = some fld → CalI P w K mg base C fld k
theorem Is.nil {P : Program} {w : World} {K : PySem.W.Frag} {mg : Str → Option Value} {base : Heap} {k : Nat} : Is P w K mg base k [] := ⟨fun _ _ e => by cases e⟩
theorem Is.cons {P : Program} {w : World} {K : PySem.W.Frag} {mg : Str → Option Value} {base : Heap} {C fld : Str} {k : Nat} {tb : List (Str × Str)} (M : CalI P w K mg base C fld k) (r : Is P w K mg base k tb) : Is P w K mg base k ((C, fld) :: tb) := ⟨fun D sp' e => by
  rw [List.lookup_cons] at e
  cases q : D == C with
  | true =>
    rw [q] at e
    cases e
    rw [eq_of_beq q]
    exact M
  | false =>
    rw [q] at e
    exact r.at_ D sp' e⟩
section
variable {X : Cx} {F : Addr → Prop} {Wx : WX} {a b c e o tg : Expr} {pos apos p : Pos} {ia ib ic : IE} {k' n : Nat} {tb : List (Str × Str)}
def lIter (tb : List (Str × Str)) (ia : IE) : IL := fun EI st Q => ia EI st fun x st1 => objOf st1 x fun C fs => match tb.lookup C with
  | some fld => (match fs.lookup fld with
    | some (.tup ws) => Q ws st1
    | some (.lst ws) => Q ws st1
    | _ => False)
  | none => False
end
end Sh
namespace Sh
open PySem L2
open PyProof.Rows hiding St
open He (ga ma)
def prA (K : PySem.W.Frag) (C f : Str) : Addr := match PySem.W.findIn K (.ref (ga K C)) f with
  | some (some (.ref p)) => p
  | _ => 0
def gtA (K : PySem.W.Frag) (C f : Str) : Addr := match PySem.W.recIn K (prA K C f) "property" with
  | some (.ref g :: _) => g
  | _ => 0
def fnA (K : PySem.W.Frag) (a : Addr) : He.FnW := match K.lookup a with
  | some ⟨_, _, .func d, _⟩ => some (d.name, d.qualname, d.params, d.body, d.scope, d.globals, d.closure, d.builtins)
  | _ => none
structure PrD where
  cls : Str
  nm : Str
  qual : Str
  params : Arguments
  body : List Stmt
  scope : Scope
def PrD.val (d : PrD) : He.FnW := some (d.nm, d.qual, d.params, .stmts d.body, d.scope, mainGlobals, [], builtinsNs)
def PrD.ok (K : PySem.W.Frag) (d : PrD) : Bool := He.eqO (PySem.W.findIn K (.ref (ga K d.cls)) d.nm) (some (some (.ref (prA K d.cls d.nm)))) && (He.eqO (PySem.W.specialIn K (.ref (prA K d.cls d.nm)) "__get__") (some (some (.builtin "property.__get__"))) &&
  (decide (PySem.W.takesIn K (.ref (prA K d.cls d.nm)) = some true) && ((match PySem.W.recIn K (prA K d.cls d.nm) "property" with
    | some (.ref _ :: _) => true
    | _ => false) && (PySem.W.keepIn K (.ref (gtA K d.cls d.nm)) && (match K.lookup (gtA K d.cls d.nm) with
    | some ⟨_, _, .func fd, _⟩ => PySem.W.codeIn K fd.code d.qual && He.dflB K fd.defaults []
    | _ => false)))))
theorem PrD.funD {K : PySem.W.Frag} {d : PrD} (e : fnA K (gtA K d.cls d.nm) = d.val) (c : d.ok K = true) : PropOf K (ga K d.cls) d.nm (prA K d.cls d.nm) (gtA K d.cls d.nm) ∧ ∃ fd, FunD K d.nm d.qual d.params d.body d.scope [] [] (gtA K d.cls d.nm) fd := by
  obtain ⟨c1, c⟩ := He.ba c
  obtain ⟨c2, c⟩ := He.ba c
  obtain ⟨c3, c⟩ := He.ba c
  obtain ⟨c4, c⟩ := He.ba c
  obtain ⟨c5, c6⟩ := He.ba c
  refine ⟨⟨He.eqO_ok c1, He.eqO_ok c2, of_decide_eq_true c3, ?_⟩, ?_⟩
  · cases q : PySem.W.recIn K (prA K d.cls d.nm) "property" with
    | none => rw [q] at c4; cases c4
    | some l =>
      cases l with
      | nil => rw [q] at c4; cases c4
      | cons v r =>
        cases v <;> first | (rw [q] at c4; cases c4; done) | skip
        rename_i g
        refine ⟨r, ?_⟩
        have : gtA K d.cls d.nm = g := by unfold gtA; rw [q]
        rw [this]
  · unfold fnA at e
    cases q : K.lookup (gtA K d.cls d.nm) with
    | none => rw [q] at c6; cases c6
    | some o =>
      obtain ⟨oc, od, dt, osl⟩ := o
      rw [q] at c6 e
      cases dt with
      | func fd =>
        obtain ⟨n1, n2, n3, n4, n5, n6, n7, n8, n9, n10, n11, n12, n13, n14, n15⟩ := fd
        have e2 : (some (n1, n2, n3, n4, n5, n6, n7, n15) : He.FnW) = some (d.nm, d.qual, d.params, .stmts d.body, d.scope, mainGlobals, [], builtinsNs) := e
        injection e2 with e2
        injection e2 with h1 e2
        injection e2 with h2 e2
        injection e2 with h3 e2
        injection e2 with h4 e2
        injection e2 with h5 e2
        injection e2 with h6 e2
        injection e2 with h7 h8
        subst h1 h2 h3 h4 h5 h6 h7 h8
        obtain ⟨k1, k3⟩ := He.ba (show (PySem.W.codeIn K n13 d.qual && He.dflB K n8 []) = true from c6)
        exact ⟨_, ⟨⟨oc, od, n8, n9, n10, n11, n12, n13, n14, osl, rfl, q, k1, He.dflB_ok k3, .inl rfl⟩, c5⟩⟩
      | _ => cases c6
def obsPr (pr : List PrD) (K : PySem.W.Frag) : Bool × List He.FnW := (pr.all fun d => d.ok K, pr.map fun d => fnA K (gtA K d.cls d.nm))
def valPr (pr : List PrD) : Bool × List He.FnW := (true, pr.map PrD.val)
structure SaysP (fa : List He.Fa) (fn : List He.DefD) (ts : List He.Tab) (ex : PySem.W.Frag → Bool) (pr : List PrD) (w : World) (h : Heap) (K : PySem.W.Frag) : Prop where
  x : He.SaysX fa fn ts [] ex w h K
  p : obsPr pr K = valPr pr
theorem SaysP.pr {fa : List He.Fa} {fn : List He.DefD} {ts : List He.Tab} {ex : PySem.W.Frag → Bool} {pr : List PrD} {w : World} {h : Heap} {K : PySem.W.Frag} (c : SaysP fa fn ts ex pr w h K) (i : Nat) {d : PrD} (hd : pr[i]? = some d := by rfl) :
    PropOf K (ga K d.cls) d.nm (prA K d.cls d.nm) (gtA K d.cls d.nm) ∧ ∃ fd, FunD K d.nm d.qual d.params d.body d.scope [] [] (gtA K d.cls d.nm) fd := by
  have c2 : (pr.all fun d => d.ok K) = true := congrArg (fun z : Bool × List He.FnW => z.1) c.p
  have e : pr.map (fun d => fnA K (gtA K d.cls d.nm)) = pr.map PrD.val := congrArg (fun z : Bool × List He.FnW => z.2) c.p
  have e2 : (pr.map fun d => fnA K (gtA K d.cls d.nm))[i]? = (pr.map PrD.val)[i]? := by rw [e]
  rw [List.getElem?_map, List.getElem?_map, hd] at e2
  exact PrD.funD (Option.some.inj e2) (List.all_eq_true.mp c2 d (List.mem_of_getElem? hd))
def clsBody (s : Stmt) (j : Nat) : Stmt := match s with
  | .ClassDef _ _ _ b _ _ _ _ _ _ _ => b.getD j (.Pass ⟨0, 0, 0, 0⟩)
  | _ => .Pass ⟨0, 0, 0, 0⟩
section
variable {P : Program} {w : World} {K : PySem.W.Frag} {mg : Str → Option Value} {base : Heap} {C m f qual : Str} {k n : Nat} {s : Stmt} {N ps : List Str} {ib : IS}
end
def bTys : List String := ["NoneType", "bool", "int", "str", "tuple", "list", "dict"]
def tyS (st : Stt) : W → Option (Sum String Str)
  | .obj C _ => some (.inr C)
  | .ref a => (match st.S a with
    | some (.ins C _) => some (.inr C)
    | _ => none)
  | w => (tyN w).map .inl
def isOne (cs : List Str) (t : Sum String Str) (c : W) : Option Bool := match t, c with
  | .inl S, .ty T => kitB S T
  | .inr C, .ty T => if C ∈ cs ∧ T ∈ bTys then some false else none
  | .inl S, .glo m => if m ∈ cs ∧ S ∈ bTys then some false else none
  | .inr C, .glo m => if C ∈ cs ∧ m ∈ cs then some (C == m) else none
  | _, _ => none
def isAny (cs : List Str) (t : Sum String Str) : List W → Option Bool
  | [] => some false
  | c :: r => (match isOne cs t c with
    | some true => some true
    | some false => isAny cs t r
    | none => none)
section
variable {X : Cx} {F : Addr → Prop} {Wx : WX} {e : Expr} {es : List Expr} {pos p : Pos} {cs : List Str} {i : IA} {n : Nat} {x : Str}
def tyIn (cs : List Str) : Sum String Str → Bool
  | .inl _ => true
  | .inr C => decide (C ∈ cs)
def cOk : W → Bool
  | .ty _ => true
  | .glo _ => true
  | _ => false
/-- isinstance(x, c), c a class or a tuple of classes -/
def iIsi (cs : List Str) (i : IA) : IE := fun EI st Q => i EI st fun ws st1 => match ws with
  | [x, c] => (match tyS st1 x with
    | some t => tyIn cs t = true ∧ (match c with
      | .tup ds => ds.all cOk = true ∧ (match isAny cs t ds with
        | some b => Q (.bl b) st1
        | none => False)
      | c => (match isOne cs t c with
        | some b => Q (.bl b) st1
        | none => False))
    | none => False)
  | _ => False
/-- a def or a class of the module as a value -/
theorem i_glo (hm : X.mg x = some (.ref (ga X.K x))) (hg : Gl X x := by rfl) (hd : (x == ("__debug__" : Str)) = false := by decide) : PE X (.Name x pos) (LE X.K F Wx (iC (.glo x))) := by
  refine ⟨fun pins s σ H Q I h => ?_⟩
  obtain ⟨st, QI, EI, l, q, ux, k⟩ := h
  exact ld_glob I hg hm ⟨.ref (ga X.K x), H, I, rfl, k _ st _ H q l .refl (.glo x)⟩ hd
end
end Sh
namespace Sh
open PySem L2 HT
open PyProof.Rows hiding St
section
variable {prog : Program} {w : World} {A : Around} {E : Value → Shared → Prop} {s : Shared}
end
section
variable {X : Cx} {F : Addr → Prop} {Wx : WX} {a : Expr} {pos : Pos} {ia : IE}
def iRevT (ia : IE) : IE := fun EI st Q => ia EI st fun x st1 => match x with
  | .tup ws => Q (.tup ws.reverse) st1
  | _ => False
end
end Sh
namespace Sh
open PySem L2
open PyProof.Rows hiding St
open He (ga ma)
section
variable {prog : Program} {w : World} {A : Around} {E : Value → Shared → Prop} {s : Shared} {K : PySem.W.Frag} {x C L f : Addr} {h₀ : Heap} {m : Str → Option Value} {ox : Obj} {od : Option Obj} {name : Str} {b tb : Value}
end
section
variable {X : Cx} {F : Addr → Prop} {Wx : WX} {a b c e o : Expr} {es : List Expr} {pos apos p : Pos} {ia ib ic : IE} {C : Str} {k' n : Nat} {spec : ISp} {i : IA}
def gOwn (neg : Bool) (C : Str) (spec : ISp) (st : Stt) (x y : W) (P : W → Stt → Prop) : Prop := objOf st x fun C1 _ => objOf st y fun C2 _ => C1 = C ∧ C2 = C ∧ spec [x, y] st.S (fun r S' => match r with
    | .val (.bl b) => P (.bl (neg ^^ b)) { st with S := S' }
    | _ => False) fun _ _ => False
def iEqM (neg : Bool) (C : Str) (spec : ISp) (ia ib : IE) : IE := fun EI st Q => ia EI st fun x st1 => ib EI st1 fun y st2 => gOwn neg C spec st2 x y Q
end
end Sh
namespace Sh
open PySem L2
open PyProof.Rows hiding St
section
variable {X : Cx} {F : Addr → Prop} {Wx : WX} {vs : List Nat} {a b c e tg : Expr} {es : List Expr} {pos p : Pos} {ia ib ic : IE}
def enumW (ws : List W) : List W := (List.range ws.length).map fun (i : Nat) => .tup [.int (i : Int), (ws[i]?).getD .non]
theorem enumW_length (ws : List W) : (enumW ws).length = ws.length := by simp [enumW]
theorem enumW_get {ws : List W} {i : Nat} {w : W} (h : ws[i]? = some w) : (enumW ws)[i]? = some (.tup [.int i, w]) := by
  obtain ⟨hi, _⟩ := List.getElem?_eq_some_iff.mp h
  unfold enumW
  rw [List.getElem?_map, List.getElem?_range hi]
  simp [h]
theorem yd_enum {K : PySem.W.Frag} {st : Stt} {σ : L2.St} {H : Hp} {ws : List W} {a : Addr} {vs : List V} (f : ∀ (Lv' : Addr → Prop) H', Mv (Live F st σ) H Lv' H' → SqL K H' a vs) (r : RelWs K (Live F st σ) H ws vs) : Yd K F (Ite K a) (enumW ws) st σ H where
  go := fun i F' st' σ' H' hi l m => by
    rw [enumW_length] at hi
    obtain ⟨w, ew⟩ := some_of hi
    obtain ⟨v, ev, rv⟩ := r.get ew
    refine ⟨⟨vs, v, f _ _ m, ev⟩, fun x H2 y => ?_⟩
    obtain ⟨T, x', rfl, hT, rfl, y⟩ := y
    have ex := y vs (f _ _ m)
    rw [ev] at ex
    cases ex
    have s2 : Step st' σ' H' st' σ' (upd H' T (.tup [.int (i : Nat), v])) := Step.laid l hT
    exact ⟨_, enumW_get ew, l.laid hT, s2, fun b u e => by rw [upd_ne (ne_of_none e hT)]; exact e, .tup (FzT.new l hT) (.cons (.int _) (.cons ((rv.mono m).mono s2.mv) .nil))⟩
  stop := fun i F' st' σ' H' hi m => ⟨vs, f _ _ m, by rw [enumW_length] at hi; rw [← r.length]; exact hi⟩
def lEnum (ia : IE) : IL := fun EI st Q => ia EI st fun x st1 => match x with
  | .lst ws => Q (enumW ws) st1
  | _ => False
theorem l_enum {elts : List Expr} {kk : Nat} {tpos : Pos} (hm : X.mg "enumerate" = none) (ha : PE X a (LE X.K F Wx ia)) (hg : Gl X "enumerate" := by rfl) (hs : starEach [a] X.env = [(false, eval a X.env)] := by rfl) (hs2 : starEach [a] X.env = (false, eval a X.env) :: starEach [] X.env := by rfl) :
    PI X (.Tuple elts kk tpos) (.Call (.Name "enumerate" p) [a] [] pos) (LI X.K F Wx (lEnum ia)) := pi_imp (pi_enum hg hm (pa_cons ha pa_nil hs2) hs) fun σ H R h => by
  obtain ⟨st, QI, EI, l, q, ux, k⟩ := h
  refine ⟨st, _, EI, l, q, ux, fun x st1 v H1 q1 l1 s1 r1 => ?_⟩
  split at q1
  · cases r1 with
    | lst f r => exact ⟨_, _, rfl, f.sq, k _ _ _ H1 q1 l1 s1 (yd_enum (fun _ _ m => (f.mono m).sq) r)⟩
  · exact q1.elim
def nRep (ia ib : IE) : IN := fun EI st Q => ia EI st fun x st1 => ib EI st1 fun y st2 => match x, y with
  | .lst ws, .int k => -(2 ^ 63) ≤ k ∧ k < 2 ^ 63 ∧ ws.length * k.toNat ≤ sizeLine ∧ Q (.lst (List.replicate k.toNat ws).flatten) st2
  | _, _ => False
end
end Sh
namespace Sh
open PySem L2
open PyProof.Rows hiding St
section
variable {X : Cx} {F : Addr → Prop} {Wx : WX} {a b c e f o : Expr} {es : List Expr} {pos apos cpos p : Pos} {ia ib ic : IE} {i : IA} {n : Nat}
/-- the value of a key -/
def valW (ws : List (Key × W)) (k : Key) : Option W := (ws.find? fun kv => decide (kv.1 = k)).map (·.2)
/-- d.get(k, x) -/
def iDGet2 (io ie id : IE) : IE := fun EI st Q => io EI st fun x st1 => match x with
  | .dct ws => ie EI st1 fun y st2 => id EI st2 fun z st3 => match y with
    | .int k => Q ((valW ws (.inl k)).getD z) st3
    | .str k => Q ((valW ws (.inr k)).getD z) st3
    | _ => False
  | _ => False
def putKW (kvs : List (Key × W)) (k : Key) (v : W) : List (Key × W) := if (kvs.any fun kv => decide (kv.1 = k)) = true then kvs.map (fun kv => if kv.1 = k then (kv.1, v) else kv) else kvs ++ [(k, v)]
def mergeW (kvs more : List (Key × W)) : List (Key × W) := more.foldl (fun acc kv => putKW acc kv.1 kv.2) kvs
theorem RelKs.any {K : PySem.W.Frag} {Lv : Addr → Prop} {H : Hp} {k : Key} : ∀ {ws : List (Key × W)} {vs : List (Key × V)}, RelKs K Lv H ws vs → (ws.any fun kv => decide (kv.1 = k)) = (vs.any fun kv => decide (kv.1 = k))
  | [], _, .nil => rfl
  | _ :: _, _, .cons _ rs => by rw [List.any_cons, List.any_cons, RelKs.any rs]
theorem RelKs.set {K : PySem.W.Frag} {Lv : Addr → Prop} {H : Hp} {k : Key} {w : W} {v : V} (r : RelW K Lv H w v) : ∀ {ws : List (Key × W)} {vs : List (Key × V)}, RelKs K Lv H ws vs → RelKs K Lv H (ws.map fun kv => if kv.1 = k then (kv.1, w) else kv) (vs.map fun kv => if kv.1 = k then (kv.1, v) else kv)
  | [], _, .nil => .nil
  | (j, _) :: _, _, .cons h rs => by
    rw [List.map_cons, List.map_cons]
    by_cases z : j = k
    · simp only [z, if_true]; exact .cons r (RelKs.set r rs)
    · simp only [z, if_false]; exact .cons h (RelKs.set r rs)
theorem RelKs.app {K : PySem.W.Frag} {Lv : Addr → Prop} {H : Hp} {ws' : List (Key × W)} {vs' : List (Key × V)} (r : RelKs K Lv H ws' vs') : ∀ {ws : List (Key × W)} {vs : List (Key × V)}, RelKs K Lv H ws vs → RelKs K Lv H (ws ++ ws') (vs ++ vs')
  | [], _, .nil => r
  | _ :: _, _, .cons h rs => .cons h (RelKs.app r rs)
theorem RelKs.put {K : PySem.W.Frag} {Lv : Addr → Prop} {H : Hp} {k : Key} {w : W} {v : V} {ws : List (Key × W)} {vs : List (Key × V)} (r : RelW K Lv H w v) (rs : RelKs K Lv H ws vs) : RelKs K Lv H (putKW ws k w) (putK vs k v) := by
  unfold putKW putK
  rw [rs.any]
  split
  · exact rs.set r
  · exact RelKs.app (.cons r .nil) rs
theorem RelKs.merge {K : PySem.W.Frag} {Lv : Addr → Prop} {H : Hp} : ∀ {ms : List (Key × W)} {ns : List (Key × V)} {ws : List (Key × W)} {vs : List (Key × V)}, RelKs K Lv H ms ns → RelKs K Lv H ws vs → RelKs K Lv H (mergeW ws ms) (mergeK vs ns)
  | [], _, _, _, .nil, rs => rs
  | (k, w) :: ms, _, _, _, .cons h r, rs => by
    show RelKs K Lv H (mergeW (putKW _ k w) ms) (mergeK (putK _ k _) _)
    exact RelKs.merge r (rs.put h)
end
end Sh
namespace Sh
open PySem L2
open PyProof.Rows hiding St
structure CalS (P : Program) (w : World) (K : PySem.W.Frag) (mg : Str → Option Value) (base : Heap) (x : Str) (k : Nat) (spec : ISp) : Prop where
  ex : ∃ f, (∀ {n : Nat} {A : Around} {outer : List Env} {s : Shared} {H : Hp} {us : List Value} {vs : List V} {Q : VK} {E : XK}, Room k A → A.guards = some [] → Env0 P w K mg base A outer s H → Vals vs us → spI K n spec vs H Q E →
    codeAny (model P w) A (.call (.ref f) ⟨us, []⟩) (CR (L2.CX P w) outer P w H s Q E) s) ∧ mg x = some (.ref f) ∧ PySem.W.keepIn K (.ref f) = true
section
variable {P : Program} {w : World} {K : PySem.W.Frag} {mg : Str → Option Value} {base : Heap} {x : Str} {k n : Nat}
theorem CalS.spec {sp sp' : ISp} (C : CalS P w K mg base x k sp) (h : ∀ ws S Q E, sp' ws S Q E → sp ws S Q E) : CalS P w K mg base x k sp' := by
  obtain ⟨f, G, r⟩ := C.ex
  exact ⟨f, fun a b c d e => G a b c d (spI.imp h e), r⟩
end
section
variable {X : Cx} {F : Addr → Prop} {Wx : WX} {e : Expr} {es : List Expr} {pos p : Pos} {k' n : Nat} {spec : ISp} {x : Str} {i : IA}
end
end Sh
namespace Sh
open PySem L2
open PyProof.Rows hiding St
section
variable {X : Cx} {F : Addr → Prop} {Wx : WX} {vs : List Nat} {a b c e tg : Expr} {es : List Expr} {pos p px : Pos} {ia ib ic : IE} {x : Str}
def iAddO (i : Nat) (ib : IE) : IE := fun EI st Q => ownL st i fun _ => ib EI st fun y st1 => ownL st1 i fun ws => match y with
  | .lst us => ws.length + us.length ≤ sizeLine ∧ Q (.lst (ws ++ us)) st1
  | _ => False
theorem i_addO {i : Nat} (hb : PE X b (LE X.K F Wx ib)) (hN : X.N[i]? = some x := by rfl) (hv : Vis X.env.scope x := by first | exact Or.inl rfl | exact Or.inr (Or.inl rfl) | exact Or.inr (Or.inr rfl)) (hd : (x == ("__debug__" : Str)) = false := by decide)
    (hcd : (x == ("__classdict__" : Str)) = false := by decide) : PE X (.BinOp (.Name x px) .Add b pos) (LE X.K F Wx (iAddO i ib)) := by
  refine pe_imp (pe_op op_cat (pe_var hN hv hd hcd) hb) fun σ H Q h => ?_
  obtain ⟨st, QI, EI, l, q, ux, k⟩ := h
  obtain ⟨ws0, e0, q⟩ := ownL_inv q
  obtain ⟨a, ea, _⟩ := l.own i _ e0
  refine ⟨.ref a, ea, st, _, EI, l, q, ux, fun y st1 u H1 q1 l1 s1 r1 => ?_⟩
  obtain ⟨ws, es, q1⟩ := ownL_inv q1
  split at q1
  · obtain ⟨a', ea', ⟨vs, hv, r⟩, _, _⟩ := l1.own i _ es
    rw [ea] at ea'
    cases ea'
    cases r1 with
    | lst f rs =>
      rename_i b' us'
      refine ⟨_, _, _, _, rfl, rfl, hv, f.1, by rw [← r.length, ← rs.length]; exact q1.1, fun p hp => ?_⟩
      have s := Step.laid (o := .lst (vs ++ us')) l1 hp
      exact k _ _ _ _ q1.2 (l1.laid hp) (s1.trans s) (.lst (FzL.new l1 hp) ((r.append rs).mono s.mv))
  · exact q1.elim
end
def frzS : Slot → Slot
  | .own o => .val o.fz
  | x => x
def Stt.pk (st : Stt) : Stt := ⟨st.ρ.map frzS, fun _ => none⟩
mutual
def plainW : W → Bool
  | .int _ => true
  | .str _ => true
  | .bl _ => true
  | .non => true
  | .tup ws => plainWs ws
  | _ => false
def plainWs : List W → Bool
  | [] => true
  | w :: ws => plainW w && plainWs ws
end
section
variable {K : PySem.W.Frag} {F : Addr → Prop} {st : Stt} {σ : L2.St} {H H' : Hp} {Lv Lv' : Addr → Prop}
theorem Lk.ext (l : Lk K F st σ H) (e : ∀ a u, H a = some u → H' a = some u) : Lk K F st σ H' := by
  have m : Mv (Live F st σ) H (Live F st σ) H' := fun a u h n => ⟨e a u h, n⟩
  refine ⟨l.len, fun i w q => ?_, fun i o q => ?_, l.inj, fun a o q => (l.sto a o q).move (e a) m, fun a q => ?_, l.fdis⟩
  · obtain ⟨v, e1, r⟩ := l.val i w q
    exact ⟨v, e1, r.mono m⟩
  · obtain ⟨a, e1, r, n1, n2⟩ := l.own i o q
    exact ⟨a, e1, r.move (e a) m, n1, n2⟩
  · obtain ⟨u, z⟩ := l.ftr a q
    exact ⟨u, e a u z⟩
theorem pk_get {i : Nat} {x : Slot} (h : st.pk.ρ[i]? = some x) : (∃ o, st.ρ[i]? = some (.own o) ∧ x = .val o.fz) ∨ (st.ρ[i]? = some x ∧ ∀ o, x ≠ .own o) := by
  have h : (st.ρ.map frzS)[i]? = some x := h
  rw [List.getElem?_map] at h
  cases e : st.ρ[i]? with
  | none => rw [e] at h; cases h
  | some y =>
    rw [e] at h
    cases y with
    | own o => cases h; exact .inl ⟨o, rfl, rfl⟩
    | val w => cases h; exact .inr ⟨rfl, fun _ z => nomatch z⟩
    | none => cases h; exact .inr ⟨rfl, fun _ z => nomatch z⟩
theorem pk_wr {a : Addr} : ¬ Wr st.pk σ a := fun z => by
  rcases z with z | ⟨i, o, e, _⟩
  · exact z rfl
  · rcases pk_get e with ⟨_, _, q⟩ | ⟨_, q⟩
    · cases q
    · exact q o rfl
theorem Lk.pk (l : Lk K F st σ H) : Lk K F st.pk σ H := by
  have m : Mv (Live F st σ) H (Live F st.pk σ) H := mv_same fun a z => z.elim (fun z => (pk_wr z).elim) .inr
  refine ⟨?_, fun i w q => ?_, fun i o q => ?_, fun i j o o' a e => ?_, fun a o q => (nomatch q), l.ftr, fun _ _ => rfl⟩
  · rw [← l.len]; exact List.length_map ..
  · rcases pk_get q with ⟨o, e, q⟩ | ⟨e, _⟩
    · cases q
      obtain ⟨a, ea, ra, na, nf⟩ := l.own i o e
      exact ⟨.ref a, ea, (ra.move (fun _ z => z) m).fz fun z => z.elim (fun z => pk_wr z) nf⟩
    · obtain ⟨v, ev, r⟩ := l.val i w e
      exact ⟨v, ev, r.mono m⟩
  · rcases pk_get q with ⟨_, _, q⟩ | ⟨_, q⟩
    · cases q
    · exact (q o rfl).elim
  · rcases pk_get e with ⟨_, _, q⟩ | ⟨_, q⟩
    · cases q
    · exact (q o rfl).elim
end
section
variable {X : Cx} {F : Addr → Prop} {Wx : WX} {e : Expr} {ie : IE} {nn : IN}
def iPeek (ie : IE) : IE := fun _ st Q => ie (fun _ _ => False) st.pk fun w _ => plainW w = true ∧ Q w st
def nPeek (nn : IN) : IN := fun _ st Q => nn (fun _ _ => False) st.pk fun o _ => match o with
  | .lst ws => plainWs ws = true ∧ Q (.lst ws) st
  | _ => False
end
end Sh
namespace Sh
open PySem L2
open PyProof.Rows hiding St
section
variable {X : Cx} {F : Addr → Prop} {Wx : WX} {a b c e : Expr} {es : List Expr} {pos : Pos} {ia ib ic : IE} {nn : IN}
theorem op_isB {X : Cx} : OpR X (compareOp .Is) (fun x y H Q => ∃ b, y = .bl b ∧ (∀ n, x ≠ .ty n) ∧ Q (.bl (decide (x = .bl b))) H) := by
  intro pins s σ H x y v u Q I rx ry h
  obtain ⟨b, rfl, ht, q⟩ := h
  cases (show u = Value.bool b from ry)
  have key : plainIs v (.bool b) = true ∧ (v == Value.bool b) = decide (x = .bl b) := by
    cases x <;> first
      | (cases rx; refine ⟨rfl, ?_⟩; first | rfl | (rename_i c; cases c <;> cases b <;> rfl))
      | (obtain ⟨t, rfl⟩ := rx; exact ⟨rfl, rfl⟩)
      | exact absurd rfl (ht _)
  refine wpAny_is_plain key.1 ?_
  rw [key.2]
  exact ⟨.bl _, H, I, rfl, q⟩
theorem op_notB {X : Cx} : OpR X (compareOp .IsNot) (fun x y H Q => ∃ b, y = .bl b ∧ (∀ n, x ≠ .ty n) ∧ Q (.bl (!decide (x = .bl b))) H) := by
  intro pins s σ H x y v u Q I rx ry h
  obtain ⟨b, rfl, ht, q⟩ := h
  cases (show u = Value.bool b from ry)
  have key : plainIs v (.bool b) = true ∧ (v == Value.bool b) = decide (x = .bl b) := by
    cases x <;> first
      | (cases rx; refine ⟨rfl, ?_⟩; first | rfl | (rename_i c; cases c <;> cases b <;> rfl))
      | (obtain ⟨t, rfl⟩ := rx; exact ⟨rfl, rfl⟩)
      | exact absurd rfl (ht _)
  refine wpAny_isNot_plain key.1 ?_
  rw [key.2]
  exact ⟨.bl _, H, I, rfl, q⟩
def isB (b : Bool) : W → Bool
  | .bl c => c == b
  | _ => false
def gIsB (neg : Bool) : W → W → (W → Prop) → Prop := fun x y P => match x, y with
  | .ty _, _ => False
  | x, .bl b => P (.bl (if neg then !isB b x else isB b x))
  | _, _ => False
theorem isB_rel {K : PySem.W.Frag} {Lv : Addr → Prop} {H : Hp} {w : W} {v : V} {b : Bool} (r : RelW K Lv H w v) : decide (v = .bl b) = isB b w := by
  cases r <;> first | rfl | (rename_i c; cases c <;> cases b <;> rfl)
theorem gIsB_inv {neg : Bool} {x y : W} {P : W → Prop} (h : gIsB neg x y P) : ∃ b, y = .bl b ∧ (∀ n, x ≠ .ty n) ∧ P (.bl (if neg then !isB b x else isB b x)) := by
  cases x <;> cases y <;> first | exact h.elim | exact ⟨_, rfl, (fun _ z => nomatch z), h⟩
theorem rel_nty {K : PySem.W.Frag} {Lv : Addr → Prop} {H : Hp} {w : W} {v : V} (r : RelW K Lv H w v) (h : ∀ n, w ≠ .ty n) (n : String) : v ≠ .ty n := by
  cases r <;> first | exact (h _ rfl).elim | exact fun z => nomatch z
theorem og_isB {K : PySem.W.Frag} : OpG K (fun x y H Q => ∃ b, y = .bl b ∧ (∀ n, x ≠ .ty n) ∧ Q (.bl (decide (x = .bl b))) H) (gIsB false) := by
  intro F st σ H x y v u P Q h l rx ry k
  obtain ⟨b, rfl, ht, p⟩ := gIsB_inv h
  cases ry
  refine ⟨b, rfl, rel_nty rx ht, ?_⟩
  rw [isB_rel rx]
  exact k _ _ H p l .refl (.bl _)
theorem og_notB {K : PySem.W.Frag} : OpG K (fun x y H Q => ∃ b, y = .bl b ∧ (∀ n, x ≠ .ty n) ∧ Q (.bl (!decide (x = .bl b))) H) (gIsB true) := by
  intro F st σ H x y v u P Q h l rx ry k
  obtain ⟨b, rfl, ht, p⟩ := gIsB_inv h
  cases ry
  refine ⟨b, rfl, rel_nty rx ht, ?_⟩
  rw [isB_rel rx]
  exact k _ _ H p l .refl (.bl _)
theorem i_isB (ha : PE X a (LE X.K F Wx ia)) (hb : PE X b (LE X.K F Wx ib)) : PE X (.Compare a [.Is] [b] pos) (LE X.K F Wx (iB (gIsB false) ia ib)) := i_cmp op_isB og_isB ha hb (nomark _)
theorem t_isnotB (ha : PE X a (LE X.K F Wx ia)) (hb : PE X b (LE X.K F Wx ib)) : PT X (.Compare a [.IsNot] [b] pos) (LT X.K F Wx (tBl (iB (gIsB true) ia ib))) := t_cmp op_notB og_notB ha hb (nomark _)

inductive It where
  | e (i : IE) | n (i : IN)
def iItems : List It → XI → Stt → (List R → Stt → Prop) → Prop
  | [], _, st, Q => Q [] st
  | .e i :: r, EI, st, Q => i EI st fun w st1 => iItems r EI st1 fun rs st2 => Q (.val w :: rs) st2
  | .n i :: r, EI, st, Q => i EI st fun o st1 => iItems r EI st1 fun rs st2 => Q (.new o :: rs) st2
def R.slot : R → Slot
  | .val w => .val w
  | .new o => .own o
def putsR (st : Stt) : List Nat → List R → Stt
  | i :: is, r :: rs => putsR (st.put i r.slot) is rs
  | _, _ => st
def sParM (is : List Nat) (its : List It) : IS := fun EI D st => iItems its EI st fun rs st1 => D.nx (putsR st1 is rs)
inductive RelRs (K : PySem.W.Frag) (Lv : Addr → Prop) (H : Hp) : List R → List V → List Addr → Prop
  | nil : RelRs K Lv H [] [] []
  | val {w : W} {v : V} {rs : List R} {vs : List V} {as : List Addr} : RelW K Lv H w v → RelRs K Lv H rs vs as → RelRs K Lv H (.val w :: rs) (v :: vs) as
  | new {o : SO} {a : Addr} {rs : List R} {vs : List V} {as : List Addr} : RelO K Lv H a o → a ∉ as → RelRs K Lv H rs vs as → RelRs K Lv H (.new o :: rs) (.ref a :: vs) (a :: as)
theorem RelRs.mono {K : PySem.W.Frag} {Lv Lv' : Addr → Prop} {H H' : Hp} {rs : List R} {vs : List V} {as : List Addr} (r : RelRs K Lv H rs vs as) (m : Mv Lv H Lv' H') (k : ∀ a ∈ as, ∀ u, H a = some u → H' a = some u) : RelRs K Lv' H' rs vs as := by
  induction r with
  | nil => exact .nil
  | val rw' _ ih => exact .val (rw'.mono m) (ih k)
  | new ro n _ ih => exact .new (ro.move (k _ (List.mem_cons_self ..)) m) n (ih fun b hb => k b (List.mem_cons_of_mem _ hb))
theorem RelRs.len {K : PySem.W.Frag} {Lv : Addr → Prop} {H : Hp} {rs : List R} {vs : List V} {as : List Addr} (r : RelRs K Lv H rs vs as) : vs.length = rs.length := by
  induction r with
  | nil => rfl
  | val _ _ ih => simp [ih]
  | new _ _ _ ih => simp [ih]
end
end Sh
namespace Sh
open PySem L2
open PyProof.Rows hiding St
section
variable {X : Cx} {F : Addr → Prop} {Wx : WX} {a b c e f o : Expr} {es : List Expr} {pos apos cpos p : Pos} {ia ib ic : IE} {i : IA} {n : Nat} {x : Str}
def iPairs : List (IE × IE) → XI → Stt → (List (W × W) → Stt → Prop) → Prop
  | [], _, st, Q => Q [] st
  | (ik, iv) :: r, EI, st, Q => ik EI st fun k st1 => iv EI st1 fun v st2 => iPairs r EI st2 fun ps st3 => Q ((k, v) :: ps) st3
def keyW : W → Option Key
  | .int i => some (.inl i)
  | .str s => some (.inr s)
  | _ => none
def keysW : List (W × W) → Option (List (Key × W))
  | [] => some []
  | (k, v) :: r => match keyW k, keysW r with
    | some k, some r => some ((k, v) :: r)
    | _, _ => none
def nDisp (its : List (IE × IE)) : IN := fun EI st Q => iPairs its EI st fun ps st1 => match keysW ps with
  | some kvs => Q (.dct (mergeW [] kvs)) st1
  | none => False
def nDNew : IN := fun _ st Q => Q (.dct []) st
theorem n_dnew : PE X (.Dict [] [] pos) (LN X.K F Wx nDNew) := by
  refine pe_imp pe_dnewK fun σ H Q h => ?_
  obtain ⟨st, QI, EI, l, q, ux, k⟩ := h
  intro p hp
  exact k (.dct []) st p _ q (l.foreign hp) (Step.laid l hp) ⟨[], upd_same, .nil⟩ (.inr hp)
def exF (K : PySem.W.Frag) (Wx : WX) (i : IE) : TE := fun σ H Q => ∃ F, LE K F Wx i σ H Q
abbrev PDs (X : Cx) (Wx : WX) (pos : Pos) (keys : List (Option Expr)) (values : List Expr) (its : List (IE × IE)) : Prop := PPs X pos keys values (its.map fun p => (exF X.K Wx p.1, exF X.K Wx p.2))
theorem pd_nil : PDs X Wx pos [] [] [] := pps_nil
theorem pd_cons {ks : List (Option Expr)} {vs : List Expr} {its : List (IE × IE)} (hk : ∀ F, PE X a (LE X.K F Wx ia)) (hv : ∀ F, PE X b (LE X.K F Wx ib)) (hr : PDs X Wx pos ks vs its) : PDs X Wx pos (some a :: ks) (b :: vs) ((ia, ib) :: its) := pps_cons (pe_ex hk) (pe_ex hv) hr
/-- pairs of values, related -/
inductive RelPs (K : PySem.W.Frag) (Lv : Addr → Prop) (H : Hp) : List (W × W) → List (V × V) → Prop
  | nil : RelPs K Lv H [] []
  | cons {k v : W} {kv vv : V} {ws : List (W × W)} {vs : List (V × V)} : RelW K Lv H k kv → RelW K Lv H v vv → RelPs K Lv H ws vs → RelPs K Lv H ((k, v) :: ws) ((kv, vv) :: vs)
theorem RelPs.len {K : PySem.W.Frag} {Lv : Addr → Prop} {H : Hp} {ws : List (W × W)} {vs : List (V × V)} (r : RelPs K Lv H ws vs) : vs.length = ws.length := by
  induction r with
  | nil => rfl
  | cons _ _ _ ih => simp [ih]
theorem disp_pairs {K : PySem.W.Frag} {its : List (IE × IE)} : ∀ {st : Stt} {σ : L2.St} {H : Hp} {EI : XI} {QI : List (W × W) → Stt → Prop} {Q : List (V × V) → Hp → Prop}, Lk K F st σ H → iPairs its EI st QI → UpX K F Wx st σ H EI →
    (∀ ws st' vs H', ws.length = its.length → QI ws st' → Lk K F st' σ H' → Step st σ H st' σ H' → RelPs K (Live F st' σ) H' ws vs → Q vs H') → tPairs (its.map fun p => (exF K Wx p.1, exF K Wx p.2)) σ H Q := by
  induction its with
  | nil =>
    intro st σ H EI QI Q l q ux k
    exact k [] st [] H rfl q l .refl .nil
  | cons p its ih =>
    intro st σ H EI QI Q l q ux k
    obtain ⟨ik, iv⟩ := p
    refine ⟨F, st, _, EI, l, q, ux, fun w st1 v H1 q1 l1 s1 r1 => ⟨F, st1, _, EI, l1, q1, ux.step s1, fun w2 st2 v2 H2 q2 l2 s2 r2 => ?_⟩⟩
    refine ih l2 q2 (ux.step (s1.trans s2)) fun ws st3 vs H3 hl q3 l3 s3 r3 => ?_
    exact k ((w, w2) :: ws) st3 ((v, v2) :: vs) H3 (by simp [hl]) q3 l3 ((s1.trans s2).trans s3) (.cons ((r1.mono s2.mv).mono s3.mv) (r2.mono s3.mv) r3)
theorem keysW_rel {K : PySem.W.Frag} {Lv : Addr → Prop} {H : Hp} {ws : List (W × W)} {vs : List (V × V)} (r : RelPs K Lv H ws vs) : ∀ {kvs : List (Key × W)}, keysW ws = some kvs → ∃ kv : List (Key × V), vs = kv.map (fun kv => (kV kv.1, kv.2)) ∧ RelKs K Lv H kvs kv ∧ kvs.length = ws.length := by
  induction r with
  | nil => intro kvs e; cases e; exact ⟨[], rfl, .nil, rfl⟩
  | @cons k v kv vv ws vs rk rv _ ih =>
    intro kvs e
    unfold keysW at e
    split at e
    · rename_i k' r' e1 e2
      cases e
      obtain ⟨kv', rfl, rr, hl⟩ := ih e2
      have : kv = kV k' := by
        unfold keyW at e1
        split at e1
        · cases e1; cases rk; rfl
        · cases e1; cases rk; rfl
        · cases e1
      subst this
      exact ⟨(k', vv) :: kv', rfl, .cons rv rr, by simp [hl]⟩
    · cases e
theorem n_disp {keys : List (Option Expr)} {values : List Expr} {its : List (IE × IE)} (h : PDs X Wx pos keys values its) (hall : keys.all (·.isSome) = true := by rfl) (hl : keys.length = values.length := by rfl) (h0 : keys ≠ [] := by simp) (h15 : keys.length ≤ 15 := by decide) (hi : its.length ≤ 15 := by decide) :
    PE X (.Dict keys values pos) (LN X.K F Wx (nDisp its)) := by
  refine pe_imp (pe_disp h hall hl h0 h15) fun σ H Q h => ?_
  obtain ⟨st, QI, EI, l, q, ux, k⟩ := h
  intro p hp
  have s0 : Step st σ H st σ (upd H p (.dK [])) := Step.laid l hp
  have l0 : Lk X.K (FA F p) st σ (upd H p (.dK [])) := l.foreign hp
  refine disp_pairs (F := FA F p) l0 q ((ux.step s0).more fun _ z => .inl z) fun ws st1 vs H1 hlw q1 l1 s1 r1 => ?_
  split at q1
  · rename_i kvs ek
    obtain ⟨kv, rfl, rk, hlk⟩ := keysW_rel r1 ek
    have hp1 : H1 p = some (.dK []) := s1.keep p _ upd_same (l0.nwr (.inr rfl))
    have hkv : kv.length ≤ 15 := by have e := r1.len; rw [List.length_map] at e; omega
    refine ⟨hp1, kv, rfl, hkv, ?_⟩
    obtain ⟨l2, m2⟩ := l1.writeF (D := p) (u := .dK (mergeK [] kv)) (.inr rfl)
    have s2 : Step st σ H st1 σ (upd H1 p (.dK (mergeK [] kv))) := by
      have s01 := s0.trans s1
      refine ⟨fun b u e nw => ?_, s01.new⟩
      rw [upd_ne (ne_of_none e hp)]
      exact s01.keep b u e nw
    exact k (.dct (mergeW [] kvs)) st1 p _ q1 l2 s2 ⟨_, upd_same, (rk.merge .nil).mono m2⟩ (.inr hp)
  · exact q1.elim
def nFn (g : List W → (SO → Prop) → Prop) (i : IA) : IN := fun EI st Q => i EI st fun ws st1 => g ws fun o => Q o st1
def gListN : List W → (SO → Prop) → Prop := fun ws P => match ws with
  | [.lst ys] => P (.lst ys)
  | [.tup ys] => P (.lst ys)
  | _ => False
/-- list(range(a)), a new one -/
def nListRg (ia : IE) : IN := fun EI st Q => ia EI st fun x st1 => match x with
  | .int j => 0 ≤ j ∧ j ≤ 16777216 ∧ Q (.lst (rng 0 j.toNat)) st1
  | _ => False
/-- tuple(range(a)) -/
def iTupRg (ia : IE) : IE := fun EI st Q => ia EI st fun x st1 => match x with
  | .int j => 0 ≤ j ∧ j ≤ 16777216 ∧ Q (.tup (rng 0 j.toNat)) st1
  | _ => False
/-- a new object, by a condition -/
def nIf (t : IT) (na nb : IN) : IN := fun EI st Q => t EI st fun c st1 => if c = true then na EI st1 Q else nb EI st1 Q
end
end Sh
namespace Sh
open PySem L2
open PyProof.Rows hiding St
section
open PySem.W PySem.Calls
variable {prog : Program} {w : World} {A : Around} {R : Result → Shared → Prop} {hp : Heap} {g : Array GenState} {d : Drawn} {t : Nat} {os : OsState} {K : Frag} {mg mb : Str → Option Value} {C e t0 fI : Addr} {u : Value} {x : Str}
theorem hide1 {h : Heap} {e : Addr} : (∀ b o, b ≠ e → h.get? b = some o → (hideAll h [e]).get? b = some o) ∧ (∀ b o, (hideAll h [e]).get? b = some o → h.get? b = some o) ∧ (hideAll h [e]).get? e = none ∧ (hideAll h [e]).objs.size = h.objs.size :=
  ⟨fun b o n q => hideAll_get [e] q (by simpa using n), fun b o q => of_hideAll [e] q, hideAll_none [e] (by simp), hideAll_size _ _⟩
/-- super() in such a def -/
theorem sup_node {L : Addr} {h₀ : Heap} {m : Str → Option Value} {news : List (Addr × Obj)} {s : Shared} {ox : Obj} {odx : Option Obj} {D f cc cda : Addr} {body : List Stmt} {q : Str} {scope : Scope} {p0 p1 : Pos} {attr : Str} {whole : Sem Value} {fd : FuncData} {ar : Arg} {vs : Array Value} {file : Str} {tf : Tok} {oc ccl cl : Value} {od cdd cld : Option Addr} {osl ccs csl : Array (Option Value)} {cdD : ClassData} {E : Value → Shared → Prop} {Q : Value → Shared → Prop}
    (F : Fr h₀ L s.heap m) (X₀ : K.In h₀) (N : News h₀ L s.heap news) (Gh : s.heap.Ns mainGlobals mg) (Bh : s.heap.Ns builtinsNs mb) (hmg : mg "super" = none) (hmb : mb "super" = some (.type "super"))
    (hf : K.lookup f = some ⟨oc, od, .func fd, osl⟩) (hp : (fd.params.posonlyargs ++ fd.params.args).head? = some ar) (hv : m ar.arg = some (.ref e)) (I : InstAt s.heap e ox C odx)
    (hcode : K.lookup cda = some ⟨ccl, cdd, .fields vs, ccs⟩) (hvs : vs[2]? = some (.str file tf)) (hfile : ((prog.main.file : Str) == file) = true)
    (hcell : K.lookup cc = some ⟨cl, cld, .cell (some (.ref D)), csl⟩) (hD : clsIn K D = some cdD) (hsub : mroIn K C (.ref D) = some true)
    (hat : (attr == ("__class__" : Str)) = false) (hks : scope.names.lookup ("super" : Str) = some .globalImplicit) (hkc : scope.names.lookup ("__class__" : Str) = some .free) (hka : scope.names.lookup ar.arg = some .local) (hk : scope.kind = .function)
    (htop : (prog.main.scope.names.lookup ("super" : Str)).isSome = false)
    (h : ∀ so h', Fr h₀ L h' m → News h₀ L h' ((so, ks_superObj D e C) :: news) → (∀ p ∈ news, p.1 < so) → (∀ b o, s.heap.get? b = some o → h'.get? b = some o) → Q (.ref so) { s with heap := h' }) :
    _root_.PySem.wpAt (model prog w) A (.func body (ksEnv q scope L f (.ref cda) cc)) (attributeBase (.Call (.Name "super" p0) [] [] p1) attr (ksEnv q scope L f (.ref cda) cc) whole) Q E s := by
  have X : K.In s.heap := X₀.keeps F.keep
  obtain ⟨hh, g, d, t, os⟩ := s
  obtain ⟨oD, hD1, hD2⟩ : ∃ oD, hh.get? D = some oD ∧ oD.data = .cls cdD := by
    unfold clsIn at hD
    split at hD
    · rename_i c d cd' sl ho
      cases hD
      exact ⟨_, X _ _ ho, rfl⟩
    · cases hD
  refine ks_wpAt_super_base (env := ksEnv q scope L f (.ref cda) cc) hks hkc hat rfl (X _ _ hf) rfl hp rfl (X _ _ hcode) rfl hvs hfile htop ?_
  refine ks_loadName_global hk hks (loadGlobal_builtin (env := ksEnv q scope L f (.ref cda) cc) Gh hmg Bh hmb ⟨rfl, ?_⟩)
  refine wpAny_loadName_free hk hkc rfl ⟨_, X _ _ hcell, rfl⟩ ?_
  refine wpAny_loadName_local hk hka F.ns hv ?_
  refine ks_wpAny_isType_cls hD1 hD2 ⟨rfl, ?_⟩
  refine ks_wpAny_call_super hD1 hD2 I.at_ I.cls (fun c e => ?_) (looks_mroIn X hsub) (fun h' e k => ?_)
  · have := I.no
    unfold notCls at this
    rw [e] at this
    exact Bool.noConfusion this
  · obtain ⟨F', N', l'⟩ := ks_newsPush (s := ⟨hh, g, d, t, os⟩) F N rfl e k
    exact h _ _ F' N' l' k
end
section
variable {X : Cx} {F : Addr → Prop} {Wx : WX} {a b c e : Expr} {es : List Expr} {pos p : Pos} {ta : TA} {x : Str} {C fI : Addr} {f : Str}
end
end Sh
namespace Sh
open PySem L2 PySem.Spec
open PyProof.Rows hiding St
section
variable {X : Cx} {x n : Str} {c : Value} {i : Nat} {body suite : List Stmt} {b₀ : Stmt} {np pos pos' : Pos} {tb : WX → TS} {ts : Addr → Value → Option Addr → TS} {Wo : WX}
/-- what the clause does with an exception in the air -/
theorem as_caught {pins : List (Addr × Obj)} {D : Ends} {xe : Value → Shared → Prop} {u : Value} {s2 : Shared} (ok : X.Ok) (st : X.stack = X.env :: X.outer) (fr : X.env.frame = some X.env.locals) (nd : X.N.Nodup) (ni : X.N[i]? = some n) (kl : X.env.kindOf n = some .local) (cn : Names X x c) (tk : Takes X Wo)
    (su : ∀ (a : Addr) (oe : Obj) (cls : Value) (d : Option Addr) (pn : List (Addr × Obj)), Zc cls d oe → (∃ vs, oe.data = .fields vs) → PSs (X.suite a ((a, oe) :: pn)) (b₀ :: suite) (ts a cls d))
    (air : XE (X.tr (X.pn ++ pins) xe) (wAs X.K c i ts Wo D) u s2) :
    wpAny (model X.prog X.w) X.A (noteFrame u X.env) (fun _ s3 => wpAny (model X.prog X.w) X.A (setFlight u none) (fun _ s4 => wpAny (model X.prog X.w) X.A (handleBy u X.env [.ExceptHandler (some (.Name x np)) (some n) (b₀ :: suite) pos']) (SP X pins D) X.xe s4) X.xe s3) X.xe s2 := by
  have frames : X.A.frames = some (X.env :: X.outer) := ok.frames.trans (congrArg some st)
  obtain ⟨a, B, s1, ps1, σ1, H1, cls, d, rfl, I1, nb, up1, sky1, na, os1, ag1, hit, e1, yes, no⟩ := air
  have I2 : Inv X pins σ1 H1 s1 := I1.ofTry ok
  have sky2 : Sky B (X.env :: X.outer) a (Zc cls d) X.env.locals s2.heap := st ▸ sky1
  refine Sky.land Zc.steady frames fr sky2 fun h3 fl3 up3 => ?_
  have I3 : Inv X pins σ1 H1 { s2 with heap := h3 } := I2.landed nb fl3.1 (up1.trans up3) os1 ag1
  obtain ⟨o3, v3, g3, z3, d3⟩ := fl3.there
  have out : a ∉ frs (X.env :: X.outer) := fun hm => by
    obtain ⟨_, o', e', nf⟩ := fl3.2.2.1.mem hm
    have := g3.symm.trans e'
    cases this
    exact nf _ d3
  have n1 : a ≠ X.env.locals := fun z => out (List.mem_filterMap.mpr ⟨X.env, List.mem_cons_self, fr.trans (congrArg some z.symm)⟩)
  have n2 : a ∉ X.fs := fun hm => by
    obtain ⟨ev, hv, q⟩ := List.mem_filterMap.mp hm
    exact out (List.mem_filterMap.mpr ⟨ev, List.mem_cons_of_mem _ hv, q⟩)
  have J3 := I3.suite g3 d3 na n1 n2
  refine wpAny_handleBy_cons (codeAny_handlers_test ?_) fun q => nomatch q
  have lk1 : PySem.W.Looks (model X.prog X.w) h3 (typeOf (.ref a)) cls := fun _ _ _ _ k q => wpAny_typeOf_ref (k _ _ g3) (z3.1 ▸ q)
  have lk2 := PySem.W.exm_one (M := model X.prog X.w) I3.kIn lk1 e1
  have name : ∀ {Q : Value → Shared → Prop} {E : Value → Shared → Prop}, Q c { s2 with heap := h3 } → wpAny (model X.prog X.w) (X.A.mark (some (.ref a))) (eval (.Name x np) X.env) Q E { s2 with heap := h3 } := fun {Q E} q => by
    rcases cn with ⟨gl, db, m | ⟨m, v, nn⟩⟩
    · exact ld_glob (X := X.suite a ((a, o3) :: (X.pn ++ pins))) J3 gl m q db
    · exact ld_blt (X := X.suite a ((a, o3) :: (X.pn ++ pins))) J3 gl m v q nn db
  refine name (lk2.here ?_)
  cases hit with
  | true =>
    refine codeAny_handlers_suite_as (HandSPX.lands_againZ fl3 fun h4 fl4 up4 => ?_)
    have I4 : Inv X pins σ1 H1 { s2 with heap := h4 } := I2.landed nb fl4.1 ((up1.trans up3).trans up4) os1 ag1
    obtain ⟨o4, v4, g4, z4, d4⟩ := fl4.there
    refine store_ok (X := X.suite a ((a, o4) :: (X.pn ++ pins))) (v := .ref a) (I4.suite g4 d4 na n1 n2) nd ni (.inl kl) rfl (fun s5 J5 => ?_) (.inr kl)
    refine wpAny_mono ((su a o4 cls d (X.pn ++ pins) z4 ⟨_, d4⟩).run [] s5 _ H1 _ J5 (yes rfl a na)) (fun f s6 h6 => ?_) fun _ _ z => z.elim
    have goes : ∀ {σ6 : L2.St} {H6 : Hp} {Q : Shared → Prop}, Inv (X.suite a ((a, o4) :: (X.pn ++ pins))) [] σ6 H6 s6 → (∀ s7, Inv X pins (σ6.set i none) H6 s7 → Q s7) →
        wpAny (model X.prog X.w) X.A (do bindName X.env n .none; unbindBehindTheSuite X.env n pos') (fun _ s7 => Q s7) X.xe s6 := fun J6 k => gone_ok (J6.unsuite ok) nd ni kl k
    cases f with
    | ret w => obtain ⟨v6, σ6, H6, J6, r6, q6⟩ := h6; exact goes J6 fun s7 I7 => ⟨v6, _, H6, I7, r6, q6⟩
    | next => obtain ⟨σ6, H6, J6, q6⟩ := h6; exact goes J6 fun s7 I7 => ⟨_, H6, I7, q6⟩
    | brk => obtain ⟨σ6, H6, J6, q6⟩ := h6; exact goes J6 fun s7 I7 => ⟨_, H6, I7, q6⟩
    | cont => obtain ⟨σ6, H6, J6, q6⟩ := h6; exact goes J6 fun s7 I7 => ⟨_, H6, I7, q6⟩
  | false =>
    show wpAny _ X.A (handleBy (.ref a) X.env []) _ _ _
    refine wpAny_handleBy_nil ?_
    obtain ⟨_, _, _, oe, vs, T, oT, ts', g5, _, d5, f5, _⟩ := id fl3
    unfold PySem.passOn
    refine wpAny_bind (wpAny_field g5 d5 f5 ?_)
    rw [if_neg (show ¬ ((Value.ref T == Value.none) = true) by simp)]
    have on : wpAny (model X.prog X.w) X.A (setFlight (.ref a) X.env.frame) (fun _ s4 => wpAny (model X.prog X.w) X.A (throw (.ref a) : Sem Flow) (SP X pins D) X.xe s4) X.xe { s2 with heap := h3 } := by
      rw [fr]
      refine HandSPX.setFlight_upZ fl3 fun h4 hh4 up4 => wpAny_throw (tk _ _ ⟨a, B, s1, pins, σ1, H1, cls, d, rfl, I2, nb, (up1.trans up3).trans up4, .inr (.inr (st ▸ hh4)), na, os1, ag1, no rfl⟩)
    first
      | exact wpAny_bind (wpAny_pure (wpAny_bind on))
      | exact wpAny_bind on
theorem ps_try_asE {more : List Stmt} {tm : TS} (hm : PSs X more tm) (st : X.stack = X.env :: X.outer) (fr : X.env.frame = some X.env.locals) (nd : X.N.Nodup) (ni : X.N[i]? = some n) (kl : X.env.kindOf n = some .local) (cn : Names X x c) (tk : Takes X Wo)
    (hb : ∀ (W : WX) (pn : List (Addr × Obj)) (xe : Value → Shared → Prop), Takes (X.tr pn xe) W → PassesOwn (model X.prog X.w) X.A X.env xe → PSs (X.tr pn xe) body (tb W))
    (su : ∀ (a : Addr) (oe : Obj) (cls : Value) (d : Option Addr) (pn : List (Addr × Obj)), Zc cls d oe → (∃ vs, oe.data = .fields vs) → PSs (X.suite a ((a, oe) :: pn)) (b₀ :: suite) (ts a cls d)) :
    PS X (.Try body [.ExceptHandler (some (.Name x np)) (some n) (b₀ :: suite) pos'] more [] pos) (fun D σ H => tb (wAs X.K c i ts Wo D) { D with nx := tm D } σ H) := by
  refine ⟨fun pins s σ H D I h => wpAny_Try_except ?_⟩
  have ok := I.ok
  refine wpAny_mono ((hb (wAs X.K c i ts Wo D) (X.pn ++ pins) _ (fun u s' air => as_caught ok st fr nd ni kl cn tk su air) PassesOwn.looking).run [] s σ H _ (I.toTry _) h) (fun f s1 q => ?_) fun _ _ z => z
  cases f with
  | next => obtain ⟨σ', H', I', q⟩ := q; exact hm.run pins s1 σ' H' D (I'.ofTry ok) q
  | brk => obtain ⟨σ', H', I', q⟩ := q; exact ⟨σ', H', I'.ofTry ok, q⟩
  | cont => obtain ⟨σ', H', I', q⟩ := q; exact ⟨σ', H', I'.ofTry ok, q⟩
  | ret w => obtain ⟨v, σ', H', I', r, q⟩ := q; exact ⟨v, σ', H', I'.ofTry ok, r, q⟩
end
end Sh
namespace Sh
open PySem L2
open PyProof.Rows hiding St
open He (ga ma)
def oexB (K : PySem.W.Frag) (C : Addr) : Bool := (match K.lookup C with
  | some ⟨.type "type", _, .cls cd, sl⟩ => (match cd.mro, sl.toList with
    | .ref C' :: bm, [_, _, _, _, some (.builtin n), _] => C' == C && (n == "ValueError.__new__" && (!cd.hasDel && (cd.hasDict && PySem.HandSPX.refsVE bm)))
    | _, _ => false)
  | _ => false) && (He.eqO (PySem.W.findIn K (.ref C) "__setattr__") (some (some (.builtin "object.__setattr__"))) && (decide (PySem.W.subIn K (.ref C) (.type "BaseException") = some true) && (decide (PySem.W.typeIn K (.ref C) = some (.type "type")) && PySem.W.keepIn K (.ref C))))
theorem oexB_ok {K : PySem.W.Frag} {C : Addr} (h : oexB K C = true) : OexC K C := by
  obtain ⟨c1, h⟩ := He.ba h
  obtain ⟨c2, h⟩ := He.ba h
  obtain ⟨c3, h⟩ := He.ba h
  obtain ⟨c4, c5⟩ := He.ba h
  refine ⟨?_, He.eqO_ok c2, of_decide_eq_true c3, of_decide_eq_true c4, c5⟩
  split at c1
  · rename_i dd cd sl ho
    split at c1
    · rename_i C' bm k0 k1 k2 k3 n k5 hm hs
      simp only [Bool.and_eq_true, beq_iff_eq, Bool.not_eq_true'] at c1
      obtain ⟨rfl, rfl, hdel, hdct, hv⟩ := c1
      obtain ⟨nm, bs, mro, ns, qn, hd, sn, sub, ab, col, del⟩ := cd
      dsimp only at hm hdel hdct
      subst hm hdel hdct
      have hsl : sl = #[k0, k1, k2, k3, some (.builtin "ValueError.__new__"), k5] := by
        rw [← hs]
      subst hsl
      exact ⟨_, _, _, _, bm, _, _, _, _, _, _, _, _, _, _, ho, hv⟩
    · cases c1
  · cases c1
/-- an own error's __init__, as it stands in the text -/
structure SupD where
  cls : Str
  fld : Str
  qual : Str
  params : Arguments
  body : List Stmt
  scope : Scope
  file : Str
def fnE (K : PySem.W.Frag) (a : Addr) : He.FnW := match K.lookup a with
  | some ⟨_, _, .func d, _⟩ => some (d.name, d.qualname, d.params, d.body, d.scope, d.globals, [], d.builtins)
  | _ => none
def SupD.val (d : SupD) : He.FnW := some ("__init__", d.qual, d.params, .stmts d.body, d.scope, mainGlobals, [], builtinsNs)
def fileV (file : Str) : Option Value → Bool
  | some (Value.str y _) => decide (y = file)
  | _ => false
theorem fileV_ok {file : Str} {v : Option Value} (h : fileV file v = true) : ∃ tf, v = some (.str file tf) := by
  unfold fileV at h
  split at h
  · have := of_decide_eq_true h
    subst this
    exact ⟨_, rfl⟩
  · cases h
def fileB (K : PySem.W.Frag) (cda : Addr) (file : Str) : Bool := match K.lookup cda with
  | some ⟨_, _, .fields vs, _⟩ => fileV file vs[2]?
  | _ => false
theorem fileB_ok {K : PySem.W.Frag} {cda : Addr} {file : Str} (h : fileB K cda file = true) : ∃ ccl cdd vs ccs tf, K.lookup cda = some ⟨ccl, cdd, .fields vs, ccs⟩ ∧ vs[2]? = some (.str file tf) := by
  unfold fileB at h
  split at h
  · obtain ⟨tf, e⟩ := fileV_ok h
    exact ⟨_, _, _, _, tf, by assumption, e⟩
  · cases h
def supFn (K : PySem.W.Frag) (C : Addr) (qual file : Str) (fd : FuncData) : Bool := (match fd.closure with
    | [(n, cc)] => decide (n = ("__class__" : Str)) && (match K.lookup cc with
      | some ⟨_, _, .cell (some (.ref C')), _⟩ => C' == C
      | _ => false)
    | _ => false) && ((match fd.code with
    | .ref cda => PySem.W.codeIn K (.ref cda) qual && fileB K cda file
    | _ => false) && (match fd.defaults with
    | .none => true
    | _ => false))
theorem supFn_ok {K : PySem.W.Frag} {C : Addr} {qual file : Str} {fd : FuncData} (h : supFn K C qual file fd = true) : ∃ cc cl cld csl cda ccl cdd vs ccs tf, fd.closure = [(("__class__" : Str), cc)] ∧ K.lookup cc = some ⟨cl, cld, .cell (some (.ref C)), csl⟩ ∧ fd.code = .ref cda ∧ PySem.W.codeIn K (.ref cda) qual = true ∧
    K.lookup cda = some ⟨ccl, cdd, .fields vs, ccs⟩ ∧ vs[2]? = some (.str file tf) ∧ fd.defaults = .none := by
  unfold supFn at h
  obtain ⟨s1, h⟩ := He.ba h
  obtain ⟨s2, s3⟩ := He.ba h
  split at s1
  · rename_i n cc e1
    obtain ⟨s4, s5⟩ := He.ba s1
    have s4 := of_decide_eq_true s4
    subst s4
    split at s5
    · rename_i cl cld C' csl lkc
      have s5 := beq_iff_eq.mp s5
      subst s5
      split at s2
      · rename_i cda e2
        obtain ⟨s6, s7⟩ := He.ba s2
        obtain ⟨ccl, cdd, vs, ccs, tf, lkd, hv⟩ := fileB_ok s7
        split at s3
        · rename_i e3
          exact ⟨cc, cl, cld, csl, cda, ccl, cdd, vs, ccs, tf, e1, lkc, e2, s6, lkd, hv, e3⟩
        · cases s3
      · cases s2
    · cases s5
  · cases s1
def SupD.ok (K : PySem.W.Frag) (d : SupD) : Bool := (match K.lookup (ma K (ga K d.cls) "__init__") with
    | some ⟨_, _, .func fd, _⟩ => supFn K (ga K d.cls) d.qual d.file fd
    | _ => false) && (oexB K (ga K d.cls) && (He.eqO (PySem.W.findIn K (.ref (ga K d.cls)) "__init__") (some (some (.ref (ma K (ga K d.cls) "__init__")))) && (decide (PySem.W.typeIn K (.ref (ma K (ga K d.cls) "__init__")) = some (.type "function")) &&
  (decide (PySem.W.mroIn K (ga K d.cls) (.ref (ga K d.cls)) = some true) && (He.eqO (PySem.W.ks_superIn K (ga K d.cls) (ga K d.cls) "__init__") (some (some (.builtin "ValueError.__init__"))) && (decide (PySem.W.subIn K (.ref (ga K d.cls)) (.type "ValueError") = some true) &&
  (He.eqO (PySem.W.nsIn K cStatics "thirdparty.any") (some none) && (He.eqO (PySem.W.findIn K (.ref (ga K d.cls)) d.fld) (some none) && PySem.W.excInitIn K (ga K d.cls) [.type "ValueError", .type "Exception", .type "BaseException", .type "object"] "ValueError.__new__"))))))))
section
variable {X : Cx} {F : Addr → Prop} {Wx : WX} {a b c e : Expr} {es : List Expr} {pos p p' : Pos} {ia ib ic : IE} {C f x : Str} {fI : Addr}
def sRaise1 (C f : Str) (ia : IE) : IS := fun EI _ st => ia EI st fun w st1 => EI ⟨C, [(f, w)]⟩ st1
def sRaise0 (C : Str) : IS := fun EI _ st => EI ⟨C, []⟩ st
end
/-- the error that a suite holds -/
structure Hnd where
  x : Exn
  a : Addr
  d : Option Addr
def Hnd.w (h : Hnd) : W := .exn h.x.C h.x.fs h.a h.d
/-- try: body / except P as n: suite / else: more -/
def sTryE (i : Nat) (cs : List Str) (body : IS) (suite : Hnd → IS) (more : IS) : IS := fun EI D st =>
  body (fun x st1 => x.C ∈ cs ∧ ∀ a d, suite ⟨x, a, d⟩ (fun _ _ => False) { nx := fun st2 => D.nx (st2.put i .none), rt := D.rt, bk := fun st2 => D.bk (st2.put i .none), ct := fun st2 => D.ct (st2.put i .none) } (st1.put i (.val (Hnd.w ⟨x, a, d⟩)))) { D with nx := more EI D } st
theorem RelX.hnd {K : PySem.W.Frag} {Lv : Addr → Prop} {H : Hp} {x : Exn} {cls : Value} {d : Option Addr} {a : Addr} (h : RelX K Lv H x cls d) : RelW K Lv H (Hnd.w ⟨x, a, d⟩) (.ref a) := by
  obtain ⟨_, h⟩ := h
  rcases h with ⟨e1, e2⟩ | ⟨dd, vs, e1, e2, e3, e4⟩
  · obtain ⟨C, fs⟩ := x
    dsimp only at e1
    subst e1 e2
    exact .exn0
  · subst e1
    exact .exn1 e2 e3 e4
/-- what the clause's class catches -/
structure CatF (K : PySem.W.Frag) (cs : List Str) (P : Str) : Prop where
  hit : ∀ C ∈ cs, PySem.W.exmOne K (.ref (ga K C)) (.ref (ga K P)) = some true
def catFB (K : PySem.W.Frag) (cs : List Str) (P : Str) : Bool := cs.all fun C => decide (PySem.W.exmOne K (.ref (ga K C)) (.ref (ga K P)) = some true)
theorem catFB_ok {K : PySem.W.Frag} {cs : List Str} {P : Str} (h : catFB K cs P = true) : CatF K cs P := ⟨fun C hC => of_decide_eq_true (List.all_eq_true.mp h C hC)⟩
section
variable {X : Cx} {F : Addr → Prop} {Wx : WX} {x n : Str} {i : Nat} {body suite more : List Stmt} {b₀ : Stmt} {np pos pos' : Pos} {ib im : IS} {is : Hnd → IS} {cs : List Str}
theorem s_tryE (i : Nat) (T : CatF X.K cs x) (hm : X.mg x = some (.ref (ga X.K x))) (nd : X.N.Nodup) (tk : Takes X Wx)
    (hb : ∀ (W : WX) (pn : List (Addr × Obj)) (xe : Value → Shared → Prop), Takes (X.tr pn xe) W → PassesOwn (model X.prog X.w) X.A X.env xe → PSs (X.tr pn xe) body (LS X.K F W ib))
    (su : ∀ (h : Hnd) (oe : Obj) (pn : List (Addr × Obj)), Zc (.ref (ga X.K h.x.C)) h.d oe → (∃ vs, oe.data = .fields vs) → PSs (X.suite h.a ((h.a, oe) :: pn)) (b₀ :: suite) (LS X.K F (fun _ _ _ _ => False) (is h)))
    (mo : PSs X more (LS X.K F Wx im)) (st : X.stack = X.env :: X.outer := by rfl) (fr : X.env.frame = some X.env.locals := by rfl) (ni : X.N[i]? = some n := by rfl) (kl : X.env.kindOf n = some .local := by rfl) (gx : Gl X x := by rfl) (dx : (x == ("__debug__" : Str)) = false := by decide) :
    PS X (.Try body [.ExceptHandler (some (.Name x np)) (some n) (b₀ :: suite) pos'] more [] pos) (LS X.K F Wx (sTryE i cs ib is im)) := by
  refine ps_imp (ps_try_asE (c := .ref (ga X.K x)) (i := i) (tb := fun W => LS X.K F W ib) (ts := fun a cls d D σ H => ∃ y : Exn, cls = .ref (ga X.K y.C) ∧ LS X.K F (fun _ _ _ _ => False) (is ⟨y, a, d⟩) D σ H) mo st fr nd ni kl ⟨gx, dx, .inl hm⟩ tk hb fun a oe cls d pn hz hf => ?_) fun D σ H h => ?_
  · refine ⟨fun pins s σ H D I h => ?_⟩
    obtain ⟨y, ec, h⟩ := h
    subst ec
    exact (su ⟨y, a, d⟩ oe pn hz hf).run pins s σ H D I h
  · obtain ⟨st0, DI, EI, l, q, u⟩ := h
    refine ⟨st0, _, _, l, q, ⟨fun y st1 σ1 cls d H1 q1 l1 s1 r1 => ?_, fun st1 σ1 H1 q1 l1 s1 => ⟨st1, DI, EI, l1, q1, u.step s1⟩, u.bk, u.ct, u.rt⟩⟩
    obtain ⟨hC, q1⟩ := q1
    have ec := r1.1
    subst ec
    refine ⟨true, T.hit _ hC, fun _ a na => ?_, fun z => nomatch z⟩
    have s2 : Step st1 σ1 H1 (st1.put i (.val (Hnd.w ⟨y, a, d⟩))) (σ1.set i (some (.ref a))) H1 := Step.put
    refine ⟨y, rfl, _, _, _, l1.put r1.hnd, q1 a d, ⟨fun _ _ _ _ _ _ z => z.elim, fun st2 σ2 H2 q2 l2 s3 => ?_, fun st2 σ2 H2 q2 l2 s3 => ?_, fun st2 σ2 H2 q2 l2 s3 => ?_, fun r S' v H2 q2 ok => u.rt r S' v H2 q2 (ok.step (s1.trans s2))⟩⟩
    · exact u.nx _ _ _ q2 l2.wipe.1 (((s1.trans s2).trans s3).trans l2.wipe.2)
    · exact u.bk _ _ _ q2 l2.wipe.1 (((s1.trans s2).trans s3).trans l2.wipe.2)
    · exact u.ct _ _ _ q2 l2.wipe.1 (((s1.trans s2).trans s3).trans l2.wipe.2)
end
theorem RelW.exnI {K : PySem.W.Frag} {Lv : Addr → Prop} {H : Hp} {C : Str} {fs : List (Str × W)} {a : Addr} {d : Option Addr} {v : V} (h : RelW K Lv H (.exn C fs a d) v) : v = .ref a ∧ ((fs = [] ∧ d = none) ∨ ∃ dd vs, d = some dd ∧ H dd = some (.xd vs) ∧ ¬ Lv dd ∧ RelFs K Lv H fs vs) := by
  cases h with
  | exn0 => exact ⟨rfl, .inl ⟨rfl, rfl⟩⟩
  | exn1 e1 e2 e3 => exact ⟨rfl, .inr ⟨_, _, rfl, e1, e2, e3⟩⟩
structure XfF (K : PySem.W.Frag) (cs : List Str) (f : Str) : Prop where
  at_ : ∀ C ∈ cs, XfC K (ga K C) ∧ PySem.W.findIn K (.ref (ga K C)) f = some none
def xfFB (K : PySem.W.Frag) (cs : List Str) (f : Str) : Bool := cs.all fun C => xfB K (ga K C) && He.eqO (PySem.W.findIn K (.ref (ga K C)) f) (some none)
theorem xfFB_ok {K : PySem.W.Frag} {cs : List Str} {f : Str} (h : xfFB K cs f = true) : XfF K cs f := ⟨fun C hC => by
  obtain ⟨c1, c2⟩ := He.ba (List.all_eq_true.mp h C hC)
  exact ⟨xfB_ok c1, He.eqO_ok c2⟩⟩
structure IsEF (K : PySem.W.Frag) (cs ds : List Str) : Prop where
  at_ : ∀ C ∈ cs, ExcC K (ga K C) ∧ (PySem.W.clsIn K (ga K C)).isSome = true
  is : ∀ C ∈ cs, ∀ D ∈ ds, PySem.W.kitOne K (.ref (ga K C)) (.ref (ga K D)) = some (C == D)
def isEFB (K : PySem.W.Frag) (cs ds : List Str) : Bool := He.eqO (PySem.W.specialIn K (.builtin "object.__class__") "__get__") (some (some (.builtin "getset_descriptor.__get__"))) && (decide (PySem.W.takesIn K (.builtin "object.__class__") = some true) && (cs.all fun C => He.eqO (PySem.W.findIn K (.ref (ga K C)) "__getattribute__") (some (some (.builtin "BaseException.__getattribute__"))) && (He.eqO (PySem.W.findIn K (.ref (ga K C)) "__getattr__") (some none) &&
  (decide (PySem.W.subIn K (.ref (ga K C)) (.type "BaseException") = some true) && (PySem.W.hasDictIn K (ga K C) && (He.eqO (PySem.W.findIn K (.ref (ga K C)) "__class__") (some (some (.builtin "object.__class__"))) && (decide (PySem.W.mroIn K (ga K C) (.type "object") = some true) && ((PySem.W.clsIn K (ga K C)).isSome &&
  ds.all fun D => decide (PySem.W.kitOne K (.ref (ga K C)) (.ref (ga K D)) = some (C == D))))))))))
theorem isEFB_ok {K : PySem.W.Frag} {cs ds : List Str} (h : isEFB K cs ds = true) : IsEF K cs ds := by
  obtain ⟨b1, h⟩ := He.ba h
  obtain ⟨b2, h⟩ := He.ba h
  have key : ∀ C ∈ cs, (ExcC K (ga K C) ∧ (PySem.W.clsIn K (ga K C)).isSome = true) ∧ ∀ D ∈ ds, PySem.W.kitOne K (.ref (ga K C)) (.ref (ga K D)) = some (C == D) := fun C hC => by
    obtain ⟨c1, c⟩ := He.ba (List.all_eq_true.mp h C hC)
    obtain ⟨c2, c⟩ := He.ba c
    obtain ⟨c3, c⟩ := He.ba c
    obtain ⟨c4, c⟩ := He.ba c
    obtain ⟨c5, c⟩ := He.ba c
    obtain ⟨c6, c⟩ := He.ba c
    obtain ⟨c7, c8⟩ := He.ba c
    exact ⟨⟨⟨He.eqO_ok c1, He.eqO_ok c2, of_decide_eq_true c3, c4, He.eqO_ok c5, He.eqO_ok b1, of_decide_eq_true b2, of_decide_eq_true c6⟩, c7⟩, fun D hD => of_decide_eq_true (List.all_eq_true.mp c8 D hD)⟩
  exact ⟨fun C hC => (key C hC).1, fun C hC => (key C hC).2⟩
section
variable {X : Cx} {F : Addr → Prop} {Wx : WX} {e : Expr} {es : List Expr} {pos p : Pos} {ia : IE} {i : IA} {n : Nat} {f x : Str} {cs ds : List Str} {h : Hnd} {oe : Obj} {pn : List (Addr × Obj)}
def iXf (cs : List Str) (f : Str) (h : Hnd) (ia : IE) : IE := fun EI st Q => ia EI st fun w st1 => match w with
  | .exn C fs a d => C = h.x.C ∧ a = h.a ∧ d = h.d ∧ C ∈ cs ∧ (match fs.lookup f with
    | some w => Q w st1
    | none => False)
  | _ => False
theorem i_xf (T : XfF X.K cs f) (hz : Zc (.ref (ga X.K h.x.C)) h.d oe) (hf : ∃ vs, oe.data = .fields vs) (he : PE (X.suite h.a ((h.a, oe) :: pn)) e (LE X.K F Wx ia)) (hb : attributeBase e f X.env (eval e X.env) = eval e X.env := by rfl) :
    PE (X.suite h.a ((h.a, oe) :: pn)) (.Attribute e f pos) (LE X.K F Wx (iXf cs f h ia)) := by
  refine ⟨fun pins s σ H Q I z => ?_⟩
  obtain ⟨st, QI, EI, l, q, ux, k⟩ := z
  refine attr_of hb (thn (he.run pins s σ H (fun v H1 => ∃ w st1, (match w with
      | .exn C fs a d => C = h.x.C ∧ a = h.a ∧ d = h.d ∧ C ∈ cs ∧ (match fs.lookup f with
        | some w => QI w st1
        | none => False)
      | _ => False) ∧ Lk X.K F st1 σ H1 ∧ Step st σ H st1 σ H1 ∧ RelW X.K (Live F st1 σ) H1 w v) I ⟨st, _, EI, l, q, ux, fun w st1 v H1 q1 l1 s1 r1 => ⟨w, st1, q1, l1, s1, r1⟩⟩) fun u s1 hh => ?_)
  obtain ⟨v, H1, I1, rv, w, st1, q1, l1, s1', r1⟩ := hh
  split at q1
  · rename_i C fs a d
    obtain ⟨rfl, rfl, rfl, hC, q1⟩ := q1
    obtain ⟨T1, T2⟩ := T.at_ _ hC
    split at q1
    · rename_i w el
      obtain ⟨ev, r1⟩ := r1.exnI
      rcases r1 with ⟨e0, _⟩ | ⟨dd, vs, ed, ea, nl, rf⟩
      · rw [e0] at el; cases el
      · subst ev
        obtain rfl : u = Value.ref h.a := rv
        obtain ⟨z, ez, rz⟩ := rf.get el
        obtain ⟨ha, _⟩ := I1.pin (h.a, oe) (List.mem_append_left _ List.mem_cons_self)
        obtain ⟨vs', hd⟩ := hf
        have hx : ObjOk X.prog X.w H1 s1.heap dd (.xd vs) := I1.hok dd _ ea
        obtain ⟨mA, hns, hr⟩ := hx
        obtain ⟨od, ho, hl⟩ := lookIn_ns hns
        obtain ⟨u, hu, ru⟩ := L2.RelO.some_of (v := z) (o := mA f) (by rw [← ez]; exact hr f)
        have J : PySem.W.InstAt s1.heap h.a oe (ga X.K h.x.C) (some od) := ⟨ha, hz.1, by unfold PySem.W.notCls; rw [hd] <;> rfl, by rw [hz.2, ed]; exact ho⟩
        exact HandSPX.exc_get I1.kIn J T1.ga T1.gg T1.exC (PySem.W.findObj_own T1.hdC T2 rfl (by rw [hl, hu])) (handed_of ru) ⟨z, H1, I1.tok _, ru, k w st1 z H1 q1 l1 s1' rz⟩
    · exact q1.elim
  · exact q1.elim
def iIsE (cs ds : List Str) (h : Hnd) (i : IA) : IE := fun EI st Q => i EI st fun ws st1 => match ws with
  | [.exn C _ a d, .glo D] => C = h.x.C ∧ a = h.a ∧ d = h.d ∧ C ∈ cs ∧ D ∈ ds ∧ Q (.bl (C == D)) st1
  | _ => False
def rIsE2 (K : PySem.W.Frag) (D a : Addr) (od : Option Addr) : List V → Hp → VK → Prop := fun xs H Q => (∀ d, od = some d → ∃ fs, H d = some (.xd fs)) ∧ rIsE K D a xs H Q
theorem call_isE2 {a D : Addr} {od : Option Addr} (C : ExcC X.K D) (hcl : (PySem.W.clsIn X.K D).isSome = true) (hz : Zc (.ref D) od oe) (hf : ∃ vs, oe.data = .fields vs) : CallR (X.suite a ((a, oe) :: pn)) (.builtin "isinstance") (rIsE2 X.K D a od) := by
  intro pins s σ H xs us Q I r z
  obtain ⟨zd, c, cv, b, rfl, hcv, e, q⟩ := z
  cases r with
  | cons rx rr =>
    cases rr with
    | cons rt rr =>
      cases rr
      cases rx
      have ec := hcv _ rt
      subst ec
      obtain ⟨hget, _⟩ := I.pin (a, oe) (List.mem_append.mpr (.inl List.mem_cons_self))
      obtain ⟨vs, hv⟩ := hf
      have J : ∃ dd, PySem.W.InstAt s.heap a oe D dd := by
        cases od with
        | none =>
          obtain ⟨oc, od, oda, osl⟩ := oe
          obtain ⟨h1, h2⟩ := hz
          dsimp only at h1 h2 hv
          subst h1 h2 hv
          exact ⟨none, hget, rfl, rfl, trivial⟩
        | some d =>
          obtain ⟨fs, ed⟩ := zd d rfl
          have hx : ObjOk X.prog X.w H s.heap d (.xd fs) := I.hok d _ ed
          obtain ⟨mA, hns, hr⟩ := hx
          obtain ⟨o, ho, hl⟩ := lookIn_ns hns
          exact ⟨some o, hget, hz.1, by unfold PySem.W.notCls; rw [hv] <;> rfl, by rw [hz.2]; exact ho⟩
      obtain ⟨dd, J⟩ := J
      exact PySem.W.kia_one (PySem.W.kitx_exc hcl C.hg C.hk C.hs C.ha C.hn C.ht C.hm) I.kIn J e (fun z => nomatch z) fun tk => ⟨.bl b, H, I.kept (t' := tk) fun _ _ z => z, rfl, q⟩
theorem i_isE (T : IsEF X.K cs ds) (hz : Zc (.ref (ga X.K h.x.C)) h.d oe) (hf : ∃ vs, oe.data = .fields vs) (hm : X.mg "isinstance" = none) (ha : PA (X.suite h.a ((h.a, oe) :: pn)) (e :: es) (LA X.K F Wx n i)) (hg : Gl X "isinstance" := by rfl) (he : starEach (e :: es) X.env = (false, eval e X.env) :: starEach es X.env := by rfl) (hpl : (backTo pos (starEach es X.env)).any (·.1) = false := by rfl) :
    PE (X.suite h.a ((h.a, oe) :: pn)) (.Call (.Name "isinstance" p) (e :: es) [] pos) (LE X.K F Wx (iIsE cs ds h i)) := by
  refine ⟨fun pins s σ H Q I z => ?_⟩
  by_cases hC : h.x.C ∈ cs
  · obtain ⟨C1, C2⟩ := T.at_ _ hC
    refine (pe_callB (X := X.suite h.a ((h.a, oe) :: pn)) (call_isE2 C1 C2 hz hf) hg hm boot_isi' ha (by decide) (by decide) he hpl).run pins s σ H Q I ?_
    obtain ⟨st, QI, EI, l, q, ux, k⟩ := z
    refine ⟨st, _, EI, l, q, ux, fun ws st1 vs H1 hn q1 l1 s1 r1 => ?_⟩
    split at q1
    · rename_i C fs a d D
      obtain ⟨rfl, rfl, rfl, _, hD, q1⟩ := q1
      cases r1 with
      | cons ra r1 =>
      cases r1 with
      | cons rc r1 =>
      obtain ⟨ev, rx⟩ := ra.exnI
      subst ev
      cases r1
      cases rc
      refine ⟨fun dd e => ?_, V.ref (ga X.K D), .ref (ga X.K D), _, rfl, fun u e => e, T.is _ hC _ hD, k _ _ _ H1 q1 l1 s1 (.bl _)⟩
      rcases rx with ⟨_, e0⟩ | ⟨d', vs', e0, e1, _, _⟩
      · exact absurd (e0.symm.trans e) (by simp)
      · have e5 := Option.some.inj (e0.symm.trans e)
        exact ⟨_, e5 ▸ e1⟩
    · exact q1.elim
  · obtain ⟨st, QI, EI, l, q, ux, k⟩ := z
    refine thn ((pe_callB (X := X.suite h.a ((h.a, oe) :: pn)) (r := fun _ _ _ => False) (fun _ _ _ _ _ _ _ _ _ z => z.elim) hg hm boot_isi' ha (by decide) (by decide) he hpl).run pins s σ H Q I ⟨st, _, EI, l, q, ux, fun ws st1 vs H1 hn q1 l1 s1 r1 => ?_⟩) fun u s1 hh => hh
    split at q1
    · rename_i C fs a d D
      exact (hC (q1.1 ▸ q1.2.2.2.1)).elim
    · exact q1.elim
end
end Sh
namespace Sh
open PySem L2
open PyProof.Rows hiding St
open He (ga ma)
def closO (o : Obj) : List Addr := match o.data with
  | .func fd => fd.closure.map (·.2)
  | _ => []
/-- the addresses that are new, forced; seen ones stand in a number's bits -/
def addF {α : Type} : List Addr → Nat → List Addr → (Nat → List Addr → α) → α
  | [], seen, new, k => k seen new
  | a :: as, seen, new, k => HandSHeadRun.frNat a fun a => match Nat.land (Nat.shiftRight seen a) 1 with
    | 0 => HandSHeadRun.frNat (Nat.lor seen (Nat.shiftLeft 1 a)) fun seen => addF as seen (a :: new) k
    | _ + 1 => addF as seen new k
def expF {α : Type} (g : Addr → Option Obj) : List Addr → Nat → List Addr → (Nat → List Addr → α) → α
  | [], seen, new, k => k seen new
  | a :: as, seen, new, k => match g a with
    | some o => addF (He.refsD o) seen new fun seen new => expF g as seen new k
    | none => expF g as seen new k
/-- what is reached in n steps; only what is new goes on -/
def asF (g : Addr → Option Obj) : Nat → Nat → List Addr → List Addr → List Addr
  | 0, _, all, _ => all
  | n + 1, seen, all, fr => expF g fr seen [] fun seen new => asF g n seen (new ++ all) new
def asN (g : Addr → Option Obj) (n : Nat) : List Addr := HandSHeadRun.frNat mainGlobals fun a => asF g n (Nat.shiftLeft 1 a) [a] [a]
def asS (g : Addr → Option Obj) (n : Nat) : List Addr := sysModules :: cStatics :: asN g n ++ (asN g n).flatMap fun a => match g a with
  | some o => closO o
  | none => []
abbrev AlS : Type := He.AlX × (Bool × List He.FnW) × (Bool × List He.FnW)
def obsSup (sp : List SupD) (K : PySem.W.Frag) : Bool × List He.FnW := (sp.all fun d => d.ok K, sp.map fun d => fnE K (ma K (ga K d.cls) "__init__"))
def valSup (sp : List SupD) : Bool × List He.FnW := (true, sp.map SupD.val)
def obsS (n : Nat) (fa : List He.Fa) (fn : List He.DefD) (ts : List He.Tab) (tf : List He.Defn) (ex : PySem.W.Frag → Bool) (pr : List PrD) (sp : List SupD) (g : Addr → Option Obj) : AlS :=
  ((He.obsT fa fn ts (He.frT g (asS g n)), ex (He.frT g (asS g n)) && He.tabsB g tf (He.frT g (asS g n))), obsPr pr (He.frT g (asS g n)), obsSup sp (He.frT g (asS g n)))
structure SaysS (fa : List He.Fa) (fn : List He.DefD) (ts : List He.Tab) (tf : List He.Defn) (ex : PySem.W.Frag → Bool) (pr : List PrD) (sp : List SupD) (w : World) (h : Heap) (K : PySem.W.Frag) : Prop where
  x : He.SaysX fa fn ts tf ex w h K
  p : obsPr pr K = valPr pr
  s : obsSup sp K = valSup sp
theorem saysX_at {as : List Addr} {fa : List He.Fa} {fn : List He.DefD} {ts : List He.Tab} {tf : List He.Defn} {ex : PySem.W.Frag → Bool} {w : World} {h : Heap} (e1 : He.obsT fa fn ts (He.frT h.get? as) = He.valT fn ts w) (e2 : (ex (He.frT h.get? as) && He.tabsB h.get? tf (He.frT h.get? as)) = true) :
    He.SaysX fa fn ts tf ex w h (He.frT h.get? as) := by
  obtain ⟨h1, h2⟩ := He.ba e2
  have all : ∀ p ∈ tf, PySem.W.codeHdIn (He.frT h.get? as) (He.cT (He.frT h.get? as) p).1 (He.cT (He.frT h.get? as) p).2 = true ∧ ∃ o, h.get? (He.cT (He.frT h.get? as) p).2 = some o ∧ He.emptyTab o = true := fun p hp => by
    obtain ⟨h3, h4⟩ := He.ba (List.all_eq_true.mp h2 p hp)
    refine ⟨h3, ?_⟩
    split at h4
    · exact ⟨_, by assumption, h4⟩
    · cases h4
  refine ⟨e1, h1, fun p hp => (all p hp).1, fun p hp => ?_, fun p hp => ?_⟩
  · obtain ⟨_, o, q1, q2⟩ := all p hp
    exact He.frT_none q1 q2
  · obtain ⟨_, o, q1, q2⟩ := all p hp
    rw [q1, He.emptyTab_eq q2]
def hookS (n : Nat) (fa : List He.Fa) (fn : List He.DefD) (ts : List He.Tab) (tf : List He.Defn) (ex : PySem.W.Frag → Bool) (pr : List PrD) (sp : List SupD) : PySem.W.Hook where
  α := AlS
  obs := fun s => obsS n fa fn ts tf ex pr sp s.heap.get?
  val := fun w => (He.valX fn ts w, valPr pr, valSup sp)
  says := fun w h => ∃ K : PySem.W.Frag, K.In h ∧ SaysS fa fn ts tf ex pr sp w h K
  of := fun w s e => ⟨He.frT s.heap.get? (asS s.heap.get? n), He.frT_in, saysX_at (congrArg (fun z : AlS => z.1.1) e) (congrArg (fun z : AlS => z.1.2) e), congrArg (fun z : AlS => z.2.1) e, congrArg (fun z : AlS => z.2.2) e⟩
  keeps := fun _ _ _ ⟨K, hK, c⟩ k => ⟨K, PySem.W.Frag.In.keeps hK k, ⟨c.x.t, c.x.more, c.x.hd, c.x.out, fun p hp => k _ _ (c.x.empty p hp)⟩, c.p, c.s⟩
theorem obsS_eq {n : Nat} {fa : List He.Fa} {fn : List He.DefD} {ts : List He.Tab} {tf : List He.Defn} {ex : PySem.W.Frag → Bool} {pr : List PrD} {sp : List SupD} {g : Addr → Option Obj} {s : Shared} (h : ∀ a, g a = s.heap.get? a) : obsS n fa fn ts tf ex pr sp g = (hookS n fa fn ts tf ex pr sp).obs s := by
  have e : g = s.heap.get? := funext h
  rw [e] <;> rfl
theorem SaysS.pr {fa : List He.Fa} {fn : List He.DefD} {ts : List He.Tab} {tf : List He.Defn} {ex : PySem.W.Frag → Bool} {pr : List PrD} {sp : List SupD} {w : World} {h : Heap} {K : PySem.W.Frag} (c : SaysS fa fn ts tf ex pr sp w h K) (i : Nat) {d : PrD} (hd : pr[i]? = some d := by rfl) :
    PropOf K (ga K d.cls) d.nm (prA K d.cls d.nm) (gtA K d.cls d.nm) ∧ ∃ fd, FunD K d.nm d.qual d.params d.body d.scope [] [] (gtA K d.cls d.nm) fd := by
  have c2 : (pr.all fun d => d.ok K) = true := congrArg (fun z : Bool × List He.FnW => z.1) c.p
  have e : pr.map (fun d => fnA K (gtA K d.cls d.nm)) = pr.map PrD.val := congrArg (fun z : Bool × List He.FnW => z.2) c.p
  have e2 : (pr.map fun d => fnA K (gtA K d.cls d.nm))[i]? = (pr.map PrD.val)[i]? := by rw [e]
  rw [List.getElem?_map, List.getElem?_map, hd] at e2
  exact PrD.funD (Option.some.inj e2) (List.all_eq_true.mp c2 d (List.mem_of_getElem? hd))
theorem SaysS.sup {fa : List He.Fa} {fn : List He.DefD} {ts : List He.Tab} {tf : List He.Defn} {ex : PySem.W.Frag → Bool} {pr : List PrD} {sp : List SupD} {w : World} {h : Heap} {K : PySem.W.Frag} (c : SaysS fa fn ts tf ex pr sp w h K) (i : Nat) {d : SupD} (hd : sp[i]? = some d := by rfl) :
    fnE K (ma K (ga K d.cls) "__init__") = d.val ∧ d.ok K = true := by
  have c2 : (sp.all fun d => d.ok K) = true := congrArg (fun z : Bool × List He.FnW => z.1) c.s
  have e : sp.map (fun d => fnE K (ma K (ga K d.cls) "__init__")) = sp.map SupD.val := congrArg (fun z : Bool × List He.FnW => z.2) c.s
  have e2 : (sp.map fun d => fnE K (ma K (ga K d.cls) "__init__"))[i]? = (sp.map SupD.val)[i]? := by rw [e]
  rw [List.getElem?_map, List.getElem?_map, hd] at e2
  exact ⟨Option.some.inj e2, List.all_eq_true.mp c2 d (List.mem_of_getElem? hd)⟩
end Sh
namespace Sh
open PySem L2
open PyProof.Rows hiding St
open He (ga ma)
structure FnHG (P : Program) (w : World) (K : PySem.W.Frag) (mg : Str → Option Value) (base : Heap) (k : Nat) (f : Addr) (fd : FuncData) (ps : List Str) (sp : Sp) : Prop where
  len : ∀ {vs H Q E}, sp vs H Q E → vs.length = ps.length
  go : ∀ {A : Around} {outer : List Env} {s : Shared} {H : Hp} {args : Args} {us : List Value} {vs : List V} {Q : VK} {E : XK} (p : Addr × Obj), L2H.RoomH k A → A.guards = some [] → L2H.PinOk outer H s p → Env0 P w K mg base A outer s H →
    BindsTo s fd args (ps.zip us) → Vals vs us → sp vs H Q E → codeAny (model P w) A (.call (.ref f) args) (CR (L2.CX P w) outer P w H s Q E) s
section
variable {P : Program} {w : World} {K : PySem.W.Frag} {mg : Str → Option Value} {base : Heap} {x qual : Str} {params : Arguments} {body : List Stmt} {scope : Scope} {f : Addr} {fd : FuncData}
end
structure CalH (P : Program) (w : World) (K : PySem.W.Frag) (mg : Str → Option Value) (base : Heap) (x : Str) (k n : Nat) (spec : ISp) : Prop where
  ex : ∃ f fd ps, FnHG P w K mg base k f fd ps (spI K n spec) ∧ mg x = some (.ref f) ∧ PySem.W.keepIn K (.ref f) = true ∧ Binds K fd ps []
theorem CalH.spec {P : Program} {w : World} {K : PySem.W.Frag} {mg : Str → Option Value} {base : Heap} {x : Str} {k n : Nat} {sp sp' : ISp} (C : CalH P w K mg base x k n sp) (h : ∀ ws S Q E, sp' ws S Q E → sp ws S Q E) : CalH P w K mg base x k n sp' := by
  obtain ⟨f, fd, ps, G, r⟩ := C.ex
  exact ⟨f, fd, ps, ⟨fun q => G.len (spI.imp h q), fun p a b c d e v q => G.go p a b c d e v (spI.imp h q)⟩, r⟩
theorem RoomH.units {k : Nat} {A : Around} (r : L2H.RoomH k A) : A.units + 64 < cLine := by have := r.un; omega
section
variable {X : Cx} {F : Addr → Prop} {Wx : WX} {e : Expr} {es : List Expr} {pos p : Pos} {k' k n : Nat} {spec : ISp} {x : Str} {i : IA} {h : Hnd} {oe : Obj} {pn : List (Addr × Obj)}
end
end Sh
namespace Sh
open PySem L2 LamX
open PyProof.Rows hiding St
open He (ga ma)
section
variable {X : Cx} {pins : List (Addr × Obj)} {σ : L2.St} {H : Hp} {s : Shared}
end
section
variable {X : Cx} {pins : List (Addr × Obj)} {σ : L2.St} {H : Hp} {s : Shared} {F : Addr → Prop} {il : IE}
end
def emp (m : Nat) : List Slot := List.replicate m .none
theorem emp_len {m : Nat} : (emp m).length = m := List.length_replicate ..
theorem emp_get {m i j : Nat} {w : W} {x : Slot} (h : ((emp m).set i (.val w))[j]? = some x) : (j = i ∧ x = .val w ∧ i < m) ∨ x = .none := by
  rcases get_set h with ⟨e, z, l⟩ | ⟨_, z⟩
  · exact .inl ⟨e, z, by rw [emp_len] at l; exact l⟩
  · exact .inr (List.eq_of_mem_replicate (List.mem_of_getElem? z))
/-- one name has a value, the others' values are not looked at -/
theorem Lk.one {K : PySem.W.Frag} {F : Addr → Prop} {S : Sto} {H : Hp} {m i : Nat} {w : W} {v : V} {σ : L2.St} (l : Lk K F ⟨[], S⟩ [] H) (r : RelW K (Live F ⟨[], S⟩ []) H w v) (hl : σ.length = m) : Lk K F ⟨(emp m).set i (.val w), S⟩ (σ.set i (some v)) H ∧ Step ⟨[], S⟩ [] H ⟨(emp m).set i (.val w), S⟩ (σ.set i (some v)) H := by
  have no : ∀ {j : Nat} {o : SO}, ((emp m).set i (.val w))[j]? = some (.own o) → False := fun h => by
    rcases emp_get h with ⟨_, z, _⟩ | z <;> cases z
  have nOw : ∀ a, ¬ Ow ((emp m).set i (.val w)) (σ.set i (some v)) a := fun a ⟨j, o, e, _⟩ => no e
  have lv : ∀ a, Live F ⟨(emp m).set i (.val w), S⟩ (σ.set i (some v)) a → Live F ⟨[], S⟩ [] a := fun a z => z.imp (fun z => z.elim .inl fun z => (nOw a z).elim) id
  refine ⟨⟨by simp [emp, hl], fun j y q => ?_, fun j o q => (no q).elim, fun j _ o _ a q => (no q).elim, fun a o q => (l.sto a o q).move (fun _ z => z) (mv_same lv), l.ftr, l.fdis⟩, ⟨fun _ _ e _ => e, fun a z => .inl (z.elim .inl fun z => (nOw a z).elim)⟩⟩
  rcases emp_get q with ⟨rfl, z, lt⟩ | z
  · cases z
    exact ⟨v, set_get (by rw [hl]; exact lt), r.mono (mv_same lv)⟩
  · cases z
theorem RelW.enter {K : PySem.W.Frag} {F : Addr → Prop} {st : Stt} {σ : L2.St} {H : Hp} {w : W} {v : V} (r : RelW K (Live F st σ) H w v) : RelW K (Live (Fo F st σ) ⟨[], st.S⟩ []) H w v := r.mono (mv_same fun _ z => live_enter.mp z)
section
variable {P : Program} {w : World} {K : PySem.W.Frag} {mg : Str → Option Value} {base : Heap} {x qual : Str} {params : Arguments} {body : List Stmt} {scope : Scope} {f : Addr} {fd : FuncData}
end
section
variable {X : Cx} {F : Addr → Prop} {Wx : WX}
end
end Sh
namespace Sh
open PySem L2 LamX
open PyProof.Rows hiding St
open He (ga ma)
section
variable {P : Program} {w : World} {K : PySem.W.Frag} {mg mb : Str → Option Value} {k : Nat} {fa a : Addr} {fd : FuncData} {x : Str} {sA : Shared} {us : List Value} {ns : List Int} {ds : List Str} {spec : ISp}
end
end Sh
namespace Sh
open PySem L2
open PyProof.Rows hiding St
def keyD : Key → PyData
  | .inl i => .int i
  | .inr x => .str x
theorem valV_mem {kvs : List (Key × V)} (nd : (kvs.map (·.1)).Nodup) {p : Key × V} (hp : p ∈ kvs) : valV kvs p.1 = some p.2 := by
  unfold valV
  have : kvs.find? (fun kv => decide (kv.1 = p.1)) = some p := by
    induction kvs with
    | nil => cases hp
    | cons q r ih =>
      rw [List.map_cons, List.nodup_cons] at nd
      rcases List.mem_cons.mp hp with rfl | hp
      · simp
      · have ne : q.1 ≠ p.1 := fun z => nd.1 (z ▸ List.mem_map.mpr ⟨p, hp, rfl⟩)
        rw [List.find?_cons, decide_eq_false ne]
        exact ih nd.2 hp
  rw [this]
  rfl
theorem kv_keys {kvs : List (Key × V)} {vs : List (Key × Value)} (r : KV kvs vs) : kvs.map (·.1) = vs.map (·.1) := by
  unfold KV at r
  induction r with
  | nil => rfl
  | cons h _ ih => rw [List.map_cons, List.map_cons, ih, h.1]
theorem kv_nodup {P : Program} {w : World} {H : Hp} {h : Heap} {a : Addr} {kvs : List (Key × V)} (x : ObjOk P w H h a (.dK kvs)) : (kvs.map (·.1)).Nodup := by
  obtain ⟨_, _, vs, r, o, es, ep, _, _, _, _, _, nd⟩ := x
  rw [kv_keys r]
  exact nd
section
variable {X : Cx} {F : Addr → Prop} {Wx : WX} {a b c e : Expr} {es : List Expr} {pos p : Pos} {ia ib : IE} {n : Nat} {i : IA}
theorem keyD_depth (k : Key) : (keyD k).depth = 0 := by cases k <;> rfl
end
end Sh
namespace Sh
open PySem L2
open PyProof.Rows hiding St
section
variable {X : Cx} {F : Addr → Prop} {Wx : WX} {a b c e o : Expr} {es : List Expr} {pos p apos cpos : Pos} {ia ib ic : IE} {it : IT} {i : IA} {x : Str}
def tPeek (it : IT) : IT := fun _ st Q => it (fun _ _ => False) st.pk fun b _ => Q b st
def gInD (neg : Bool) : W → W → (W → Prop) → Prop := fun x y P => match y with
  | .lst ws => okD 60 x = true ∧ ws.all (okD 60) = true ∧ P (.bl (if neg then !inW x ws else inW x ws))
  | _ => False
end
section
variable {X : Cx}
end
section
variable {X : Cx} {F : Addr → Prop} {Wx : WX} {o e : Expr} {apos cpos px : Pos} {ia ib : IE} {x name : Str} {id : String}
end
section
variable {X : Cx} {F : Addr → Prop} {Wx : WX} {apos cpos px : Pos} {x name : Str} {id : String}
end
section
variable {X : Cx} {F : Addr → Prop} {Wx : WX} {e : Expr} {es : List Expr} {pos p : Pos} {i : IA} {n : Nat}
end
theorem pt_w {X : Cx} {e : Expr} {t : TT} (h : PW X e t) : PT X e t := h.pt
end Sh
namespace Sh
open PySem L2
open PyProof.Rows hiding St
section
variable {X : Cx} {F : Addr → Prop} {Wx : WX} {tg a b c : Expr} {pos p : Pos} {ia ib ic : IE}
end
section
variable {X : Cx} {F : Addr → Prop} {Wx : WX} {e : Expr} {es : List Expr} {pos p : Pos} {i : IA} {n : Nat}
def max3 (i j k : Int) : Int := if j > i then (if k > j then k else j) else (if k > i then k else i)
def gMax3 : List W → (W → Prop) → Prop := fun ws P => match ws with
  | [.int a, .int b, .int c] => P (.int (max3 a b c))
  | _ => False
end
end Sh
namespace Sh
open PySem L2
open PyProof.Rows hiding St
def okN : Nat → W → Bool
  | _, .non => true
  | _, .bl _ => true
  | _, .int _ => true
  | _, .str _ => true
  | n + 1, .tup ws => ws.all (okN n)
  | n + 1, .lst ws => ws.all (okN n)
  | n + 1, .dct kvs => kvs.all fun p => okN n p.2
  | _, _ => false
mutual
def toN : W → PyData
  | .bl b => .bool b
  | .int i => .int i
  | .str x => .str x
  | .tup ws => .tuple (toNs ws)
  | .lst ws => .list (toNs ws)
  | .dct kvs => .dict (toNk kvs)
  | _ => .none
def toNs : List W → List PyData
  | [] => []
  | w :: ws => toN w :: toNs ws
def toNk : List (Key × W) → List (PyData × PyData)
  | [] => []
  | (k, w) :: r => (keyD k, toN w) :: toNk r
end
mutual
inductive Dn (K : PySem.W.Frag) (H : Hp) : V → PyData → Prop
  | non : Dn K H .non .none
  | bl (b : Bool) : Dn K H (.bl b) (.bool b)
  | int (i : Int) : Dn K H (.int i) (.int i)
  | str (x : Str) : Dn K H (.str x) (.str x)
  | lst {a : Addr} {xs : List V} {ds : List PyData} : SqL K H a xs → DnAll K H xs ds → Dn K H (.ref a) (.list ds)
  | tup {a : Addr} {xs : List V} {ds : List PyData} : SqT K H a xs → DnAll K H xs ds → Dn K H (.ref a) (.tuple ds)
  | dct {a : Addr} {ks : List (Key × V)} {ds : List (PyData × PyData)} : H a = some (.dK ks) → DnKs K H ks ds → Dn K H (.ref a) (.dict ds)
inductive DnAll (K : PySem.W.Frag) (H : Hp) : List V → List PyData → Prop
  | nil : DnAll K H [] []
  | cons {v : V} {vs : List V} {d : PyData} {ds : List PyData} : Dn K H v d → DnAll K H vs ds → DnAll K H (v :: vs) (d :: ds)
inductive DnKs (K : PySem.W.Frag) (H : Hp) : List (Key × V) → List (PyData × PyData) → Prop
  | nil : DnKs K H [] []
  | cons {k : Key} {v : V} {vs : List (Key × V)} {d : PyData} {ds : List (PyData × PyData)} : Dn K H v d → DnKs K H vs ds → DnKs K H ((k, v) :: vs) ((keyD k, d) :: ds)
end
section
variable {K : PySem.W.Frag} {Lv : Addr → Prop} {H : Hp}
mutual
theorem dn_of : ∀ {n : Nat} (w : W) {v : V}, okN n w = true → RelW K Lv H w v → Dn K H v (toN w)
  | _, .non, _, _, .non => .non
  | _, .bl b, _, _, .bl _ => .bl b
  | _, .int i, _, _, .int _ => .int i
  | _, .str x, _, _, .str _ => .str x
  | n + 1, .tup ws, _, h, .tup f r => .tup f.sq (dns_of ws (show ws.all (okN n) = true from h) r)
  | n + 1, .lst ws, _, h, .lst f r => .lst f.sq (dns_of ws (show ws.all (okN n) = true from h) r)
  | n + 1, .dct kvs, _, h, .dct e _ r => .dct e (dnk_of kvs (show (kvs.all fun p => okN n p.2) = true from h) r)
  | 0, .tup ws, _, h, _ => by simp [okN] at h
  | 0, .lst ws, _, h, _ => by simp [okN] at h
  | 0, .dct ws, _, h, _ => by simp [okN] at h
  | n, .obj _ _, _, h, _ => by cases n <;> simp [okN] at h
  | n, .dcT _, _, h, _ => by cases n <;> simp [okN] at h
  | n, .exn _ _ _ _, _, h, _ => by cases n <;> simp [okN] at h
  | n, .ref _, _, h, _ => by cases n <;> simp [okN] at h
  | n, .ty _, _, h, _ => by cases n <;> simp [okN] at h
  | n, .scr _, _, h, _ => by cases n <;> simp [okN] at h
  | n, .glo _, _, h, _ => by cases n <;> simp [okN] at h
theorem dns_of : ∀ {n : Nat} (ws : List W) {vs : List V}, ws.all (okN n) = true → RelWs K Lv H ws vs → DnAll K H vs (toNs ws)
  | _, [], _, _, .nil => .nil
  | n, w :: ws, _, h, .cons r rs => by
    rw [List.all_cons, Bool.and_eq_true] at h
    exact .cons (dn_of w h.1 r) (dns_of ws h.2 rs)
theorem dnk_of : ∀ {n : Nat} (ws : List (Key × W)) {vs : List (Key × V)}, (ws.all fun p => okN n p.2) = true → RelKs K Lv H ws vs → DnKs K H vs (toNk ws)
  | _, [], _, _, .nil => .nil
  | n, (k, w) :: ws, _, h, .cons r rs => by
    rw [List.all_cons, Bool.and_eq_true] at h
    exact .cons (dn_of w h.1 r) (dnk_of ws h.2 rs)
end
end
/-- the interpreter's own dict is among what is looked at -/
def sysB (K : PySem.W.Frag) : Bool := match K.lookup sysModules with
  | some ⟨_, _, .dict _ _, _⟩ => true
  | _ => false
section
variable {X : Cx} {pins : List (Addr × Obj)} {σ : St} {H : Hp} {s : Shared}
theorem sys_at (I : Inv X pins σ H s) (h : sysB X.K = true) : ∃ o es n, s.heap.get? sysModules = some o ∧ o.data = .dict es n := by
  unfold sysB at h
  split at h
  · rename_i e
    exact ⟨_, _, _, I.kIn _ _ e, rfl⟩
  · cases h
mutual
theorem Dn.reads (I : Inv X pins σ H s) (hs : sysB X.K = true) : ∀ {d : PyData} {v : V} (u : Value), Dn X.K H v d → RelV v u → ∃ as, Reads s.heap u d as ∧ sysModules ∉ as
  | _, _, _, .non, r => by
    cases r
    exact ⟨_, Reads.none, by simp⟩
  | _, _, _, .bl b, r => by
    cases r
    exact ⟨_, Reads.bool b, by simp⟩
  | _, _, _, .int i, r => by
    obtain ⟨t, rfl⟩ := r
    exact ⟨_, Reads.int i t, by simp⟩
  | _, _, _, .str x, r => by
    obtain ⟨t, rfl⟩ := r
    exact ⟨_, Reads.str x t, by simp⟩
  | _, _, _, .lst (a := a) h1 h2, r => by
    cases r
    obtain ⟨its, rv, ⟨o, n, ho, hc, _, hd⟩, _⟩ := I.list h1
    obtain ⟨as, hr, hn⟩ := Dn.readsAll I hs its h2 rv
    refine ⟨_, Reads.list ho hc hd hr, fun z => ?_⟩
    rcases List.mem_cons.mp z with z | z
    · obtain ⟨o', _, _, e1, e2⟩ := sys_at I hs
      rw [z, ho] at e1
      cases e1
      rw [hd] at e2
      cases e2
    · exact hn z
  | _, _, _, .tup h1 h2, r => by
    cases r
    obtain ⟨its, rv, ⟨o, ho, hc, n, hd⟩, _⟩ := I.tuple h1
    obtain ⟨as, hr, hn⟩ := Dn.readsAll I hs its h2 rv
    exact ⟨_, Reads.tuple ho hc hd hr, hn⟩
  | _, _, _, .dct (a := a) (ks := ks) h1 h2, r => by
    cases r
    obtain ⟨_, ysm, va, kv, o, es, ep, ho, hex, hdat, _, pr, _⟩ := (show ObjOk X.prog X.w H s.heap a (.dK ks) from I.hok a _ h1)
    obtain ⟨bs, hk, hv, hn⟩ := Dn.readsKs I hs pr kv h2
    refine ⟨_, Reads.dict ho hex.1 hdat hk hv, fun z => ?_⟩
    simp only [List.append_nil, List.cons_append, List.nil_append, List.mem_cons] at z
    rcases z with z | z
    · rw [z] at ysm
      simp at ysm
    · exact hn z
theorem Dn.readsAll (I : Inv X pins σ H s) (hs : sysB X.K = true) : ∀ {ds : List PyData} {vs : List V} (us : List Value), DnAll X.K H vs ds → Vals vs us → ∃ as, ReadsAll s.heap us ds as ∧ sysModules ∉ as
  | _, _, _, .nil, r => by
    cases r
    exact ⟨_, ReadsAll.nil, by simp⟩
  | _, _, _, .cons h1 h2, r => by
    cases r with
    | cons r1 r2 =>
      obtain ⟨as, q1, n1⟩ := Dn.reads I hs _ h1 r1
      obtain ⟨bs, q2, n2⟩ := Dn.readsAll I hs _ h2 r2
      exact ⟨_, ReadsAll.cons q1 q2, fun z => (List.mem_append.mp z).elim n1 n2⟩
theorem Dn.readsKs (I : Inv X pins σ H s) (hs : sysB X.K = true) : ∀ {es : List DictEntry} {va : List (Key × Value)} {ks : List (Key × V)} {D : List (PyData × PyData)}, Pairs (mixKind X.prog X.w) es va → KV ks va → DnKs X.K H ks D →
    ∃ bs, ReadsAll s.heap (es.map (·.key)) (D.map (·.1)) [] ∧ ReadsAll s.heap (es.map (·.val)) (D.map (·.2)) bs ∧ sysModules ∉ bs
  | _, _, _, _, .nil, kv, .nil => ⟨_, .nil, .nil, by simp⟩
  | _, _, _, _, .cons h1 h2 r, kv, .cons d1 dr => by
    cases kv with
    | cons k1 kr =>
    obtain ⟨k1a, k1b⟩ := k1
    obtain ⟨as, q1, n1⟩ := Dn.reads I hs _ d1 k1b
    obtain ⟨bs, i1, i2, n2⟩ := Dn.readsKs I hs r kr dr
    refine ⟨as ++ bs, ?_, ?_, fun z => (List.mem_append.mp z).elim n1 n2⟩
    · rw [List.map_cons, List.map_cons]
      refine .cons (as := []) ?_ i1
      rw [← k1a] at h1
      rcases keyIs_shape h1 with ⟨i, t, e1, e2⟩ | ⟨x, t, e1, e2⟩
      · simp only at e1; subst e1; rw [e2]; exact Reads.int i t
      · simp only at e1; subst e1; rw [e2]; exact Reads.str x t
    · rw [List.map_cons, List.map_cons, h2]
      exact .cons q1 i2
end
end
mutual
theorem depth_of : ∀ {n : Nat} (w : W), okN n w = true → (toN w).depth ≤ n
  | _, .non, _ => Nat.zero_le _
  | _, .bl b, _ => Nat.zero_le _
  | _, .int i, _ => Nat.zero_le _
  | _, .str x, _ => Nat.zero_le _
  | n + 1, .tup ws, h => by
    have := depths_of ws (show ws.all (okN n) = true from h)
    show PyData.depthAll (toNs ws) + 1 ≤ n + 1
    omega
  | n + 1, .lst ws, h => by
    have := depths_of ws (show ws.all (okN n) = true from h)
    show PyData.depthAll (toNs ws) + 1 ≤ n + 1
    omega
  | n + 1, .dct ws, h => by
    have := depthk_of ws (show (ws.all fun p => okN n p.2) = true from h)
    show PyData.depthKv (toNk ws) + 1 ≤ n + 1
    omega
  | 0, .tup ws, h => by simp [okN] at h
  | 0, .lst ws, h => by simp [okN] at h
  | 0, .dct ws, h => by simp [okN] at h
  | n, .obj _ _, h => by cases n <;> simp [okN] at h
  | n, .dcT _, h => by cases n <;> simp [okN] at h
  | n, .exn _ _ _ _, h => by cases n <;> simp [okN] at h
  | n, .ref _, h => by cases n <;> simp [okN] at h
  | n, .ty _, h => by cases n <;> simp [okN] at h
  | n, .scr _, h => by cases n <;> simp [okN] at h
  | n, .glo _, h => by cases n <;> simp [okN] at h
theorem depths_of : ∀ {n : Nat} (ws : List W), ws.all (okN n) = true → PyData.depthAll (toNs ws) ≤ n
  | _, [], _ => Nat.zero_le _
  | n, w :: ws, h => by
    rw [List.all_cons, Bool.and_eq_true] at h
    have a := depth_of w h.1
    have b := depths_of ws h.2
    show max (toN w).depth (PyData.depthAll (toNs ws)) ≤ n
    omega
theorem depthk_of : ∀ {n : Nat} (ws : List (Key × W)), (ws.all fun p => okN n p.2) = true → PyData.depthKv (toNk ws) ≤ n
  | _, [], _ => Nat.zero_le _
  | n, (k, w) :: ws, h => by
    rw [List.all_cons, Bool.and_eq_true] at h
    have a := depth_of w h.1
    have b := depthk_of ws h.2
    show max (max (keyD k).depth (toN w).depth) (PyData.depthKv (toNk ws)) ≤ n
    rw [keyD_depth]
    omega
end
def RepN (w : W) : Prop := okN 60 w = true ∧ (toN w).showable = true ∧ (toN w).shown.length ≤ sizeLine
def refW : W → Bool
  | .tup _ => true
  | .lst _ => true
  | .dct _ => true
  | _ => false
theorem refW_tup (ws : List W) : refW (.tup ws) = true := rfl
theorem refW_lst (ws : List W) : refW (.lst ws) = true := rfl
theorem refW_dct (ws : List (Key × W)) : refW (.dct ws) = true := rfl
theorem refW_int (i : Int) : refW (.int i) = false := rfl
theorem refW_str (x : Str) : refW (.str x) = false := rfl
theorem refW_bl (b : Bool) : refW (.bl b) = false := rfl
theorem refW_non : refW .non = false := rfl
def gReprN : List W → (W → Prop) → Prop := fun ws P => match ws with
  | [w] => if refW w = true then RepN w ∧ P (.str (toN w).shown) else RepOk w ∧ P (.str (toD w).shown)
  | _ => False
def rReprN (K : PySem.W.Frag) : List V → Hp → VK → Prop := fun vs H Q => ∃ (a : Addr) (d : PyData), vs = [.ref a] ∧ Dn K H (.ref a) d ∧ d.showable = true ∧ d.shown.length ≤ sizeLine ∧ d.depth ≤ 60 ∧ Q (.str d.shown) H
def rReprNX (K : PySem.W.Frag) : List V → Hp → VK → Prop := fun vs H Q => rRepr K vs H Q ∨ rReprN K vs H Q
section
variable {X : Cx} {F : Addr → Prop} {Wx : WX} {a b c e : Expr} {es : List Expr} {pos p : Pos} {ia ib : IE} {n : Nat} {i : IA}
theorem cr_reprN (sys : sysB X.K = true) (hgd : X.A.guards = some []) (hu : X.A.units + 64 < cLine) : CallR X (.builtin "repr") (rReprN X.K) := by
  intro pins s σ H xs us Q I r h
  obtain ⟨a, d, rfl, hd, hs, hz, hdp, q⟩ := h
  obtain ⟨u, rfl, ru⟩ := vals1 r
  cases (show u = Value.ref a from ru)
  obtain ⟨as, rr, hn⟩ := Dn.reads I sys _ hd ru
  exact PySem.repr_of_reads' rr hs (fun _ => hn) hgd (by omega) (fun _ _ e => e) (fun h' u tk hk => ⟨.str _, H, I.kept hk, ⟨_, rfl⟩, q⟩) hz
theorem ref_of {K : PySem.W.Frag} {Lv : Addr → Prop} {H : Hp} {w : W} {v : V} (h : refW w = true) (r : RelW K Lv H w v) : ∃ a, v = .ref a := by
  cases r <;> first | exact ⟨_, rfl⟩ | cases h
theorem bt_reprN {K : PySem.W.Frag} : BtG K (rReprNX K) gReprN := by
  intro F st σ H ws vs P Q h l r k
  unfold gReprN at h
  split at h
  · rename_i _ w
    split at h
    · rename_i hr
      obtain ⟨⟨h1, h2, h3⟩, p⟩ := h
      cases r with
      | cons ra r1 =>
      cases r1
      obtain ⟨a, rfl⟩ := ref_of hr ra
      exact .inr ⟨a, _, rfl, dn_of w h1 ra, h2, h3, depth_of w h1, k _ _ H p l .refl (.str _)⟩
    · have h2 : gRepr [w] P := h
      exact .inl (bt_repr h2 l r k)
  · exact h.elim
theorem i_reprN (sys : sysB X.K = true) (hgd : X.A.guards = some []) (hu : X.A.units + 64 < cLine) (hm : X.mg "repr" = none) (ha : PA X (e :: es) (LA X.K F Wx n i)) (hg : Gl X "repr" := by rfl) (he : starEach (e :: es) X.env = (false, eval e X.env) :: starEach es X.env := by rfl) (hpl : (backTo pos (starEach es X.env)).any (·.1) = false := by rfl) :
    PE X (.Call (.Name "repr" p) (e :: es) [] pos) (LE X.K F Wx (iFn gReprN i)) := i_fn ((cr_repr hgd hu).or (cr_reprN sys hgd hu)) bt_reprN hm boot_repr' ha hg (by decide) (by decide) he hpl
end
/-- alike, of nesting below n -/
def EqN (K : PySem.W.Frag) (H : Hp) : Nat → V → V → Prop
  | 0 => fun _ _ => False
  | n + 1 => fun x y => (x = y ∧ flatB x = true) ∨ (∃ a b xs ys, x = .ref a ∧ y = .ref b ∧ SqL K H a xs ∧ SqL K H b ys ∧ Paired (EqN K H n) xs ys) ∨ (∃ a b xs ys, x = .ref a ∧ y = .ref b ∧ SqT K H a xs ∧ SqT K H b ys ∧ Paired (EqN K H n) xs ys) ∨
    ∃ a b ks ls, x = .ref a ∧ y = .ref b ∧ H a = some (.dK ks) ∧ H b = some (.dK ls) ∧ Paired (fun (p q : Key × V) => p.1 = q.1 ∧ EqN K H n p.2 q.2) ks ls
section
variable {K : PySem.W.Frag} {Lv Lv' : Addr → Prop} {H : Hp}
mutual
theorem eqN_of : ∀ {n : Nat} (w : W) {x y : V}, okN n w = true → RelW K Lv H w x → RelW K Lv H w y → EqN K H (n + 1) x y
  | _, .non, _, _, _, .non, .non => .inl ⟨rfl, rfl⟩
  | _, .bl b, _, _, _, .bl _, .bl _ => .inl ⟨rfl, rfl⟩
  | _, .int i, _, _, _, .int _, .int _ => .inl ⟨rfl, rfl⟩
  | _, .str x, _, _, _, .str _, .str _ => .inl ⟨rfl, rfl⟩
  | n + 1, .tup ws, _, _, h, .tup f r, .tup f' r' => .inr (.inr (.inl ⟨_, _, _, _, rfl, rfl, f.sq, f'.sq, eqNs_of ws (show ws.all (okN n) = true from h) r r'⟩))
  | n + 1, .lst ws, _, _, h, .lst f r, .lst f' r' => .inr (.inl ⟨_, _, _, _, rfl, rfl, f.sq, f'.sq, eqNs_of ws (show ws.all (okN n) = true from h) r r'⟩)
  | n + 1, .dct ws, _, _, h, .dct e _ r, .dct e' _ r' => .inr (.inr (.inr ⟨_, _, _, _, rfl, rfl, e, e', eqNk_of ws (show (ws.all fun p => okN n p.2) = true from h) r r'⟩))
  | 0, .tup ws, _, _, h, _, _ => by simp [okN] at h
  | 0, .lst ws, _, _, h, _, _ => by simp [okN] at h
  | 0, .dct ws, _, _, h, _, _ => by simp [okN] at h
  | n, .obj _ _, _, _, h, _, _ => by cases n <;> simp [okN] at h
  | n, .dcT _, _, _, h, _, _ => by cases n <;> simp [okN] at h
  | n, .exn _ _ _ _, _, _, h, _, _ => by cases n <;> simp [okN] at h
  | n, .ref _, _, _, h, _, _ => by cases n <;> simp [okN] at h
  | n, .ty _, _, _, h, _, _ => by cases n <;> simp [okN] at h
  | n, .scr _, _, _, h, _, _ => by cases n <;> simp [okN] at h
  | n, .glo _, _, _, h, _, _ => by cases n <;> simp [okN] at h
theorem eqNs_of : ∀ {n : Nat} (ws : List W) {xs ys : List V}, ws.all (okN n) = true → RelWs K Lv H ws xs → RelWs K Lv H ws ys → Paired (EqN K H (n + 1)) xs ys
  | _, [], _, _, _, .nil, .nil => .nil
  | n, w :: ws, _, _, h, .cons r rs, .cons r' rs' => by
    rw [List.all_cons, Bool.and_eq_true] at h
    exact .cons (eqN_of w h.1 r r') (eqNs_of ws h.2 rs rs')
theorem eqNk_of : ∀ {n : Nat} (ws : List (Key × W)) {xs ys : List (Key × V)}, (ws.all fun p => okN n p.2) = true → RelKs K Lv H ws xs → RelKs K Lv H ws ys → Paired (fun (p q : Key × V) => p.1 = q.1 ∧ EqN K H (n + 1) p.2 q.2) xs ys
  | _, [], _, _, _, .nil, .nil => .nil
  | n, (k, w) :: ws, _, _, h, .cons r rs, .cons r' rs' => by
    rw [List.all_cons, Bool.and_eq_true] at h
    exact .cons ⟨rfl, eqN_of w h.1 r r'⟩ (eqNk_of ws h.2 rs rs')
end
end
theorem paired_mem {α β : Type} {R : α → β → Prop} {xs : List α} {ys : List β} (h : Paired R xs ys) {p : α} (hp : p ∈ xs) : ∃ q ∈ ys, R p q := by
  induction h with
  | nil => cases hp
  | cons a _ ih =>
    rcases List.mem_cons.mp hp with rfl | hp
    · exact ⟨_, List.mem_cons_self .., a⟩
    · obtain ⟨q, hq, e⟩ := ih hp
      exact ⟨q, List.mem_cons_of_mem _ hq, e⟩
section
variable {X : Cx} {pins : List (Addr × Obj)} {σ : St} {H : Hp} {s : Shared}
theorem eqN_refs (I : Inv X pins σ H s) {n : Nat} {A : Around} (hu : A.units < cLine) (ih : ∀ x y v u, EqN X.K H n x y → RelV x v → RelV y u → SeqAt.EqP X.prog X.w A.in1 s v u true) {a b : Addr} (h : EqN X.K H (n + 1) (.ref a) (.ref b)) (E Q : Value → Shared → Prop) (q : Q (.bool true) s) :
    wpAny (model X.prog X.w) A (richCompare .Eq (.ref a) (.ref b)) Q E s := by
  rcases h with ⟨_, z⟩ | ⟨_, _, xs, ys, e1, e2, h1, h2, hp⟩ | ⟨_, _, xs, ys, e1, e2, h1, h2, hp⟩ | ⟨_, _, ks, ls, e1, e2, h1, h2, hp⟩
  · cases z
  · cases e1
    cases e2
    exact eqR_run I hu ih (.inl ⟨_, _, _, _, rfl, rfl, h1, h2, hp⟩) rfl rfl E Q q
  · cases e1
    cases e2
    obtain ⟨us, r1, p1, _⟩ := I.tuple h1
    obtain ⟨ws, r2, p2, _⟩ := I.tuple h2
    have hsz : us.toArray.size = ws.toArray.size := by
      rw [List.size_toArray, List.size_toArray, ← r1.length, ← r2.length]
      exact Paired.length hp
    refine GQ.rc_tupG hsz hu (fun _ s' => s' = s) p1 p2 (fun i h1 h2 s' e => ?_) (fun s' e => by subst e; exact q) rfl
    subst e
    have k := items_run ih hp r1 r2 i (by simpa using h1) (by simpa using h2)
    have k2 := k E (fun r s'' => r = true ∧ s'' = s') ⟨rfl, rfl⟩
    simpa using k2
  · cases e1
    cases e2
    have nd : (ls.map (·.1)).Nodup := kv_nodup (I.hok _ _ h2)
    refine eqR_run I hu ih (.inr ⟨_, _, _, _, rfl, rfl, h1, h2, Paired.length hp, fun p hm => ?_⟩) rfl rfl E Q q
    obtain ⟨z, hz, e1, e2⟩ := paired_mem hp hm
    exact ⟨z.2, by rw [e1]; exact valV_mem nd hz, e2⟩
theorem eqN_run (I : Inv X pins σ H s) : ∀ (n : Nat) (A : Around), A.units + n < cLine → ∀ (x y : V) (v u : Value), EqN X.K H n x y → RelV x v → RelV y u → SeqAt.EqP X.prog X.w A s v u true
  | 0, _, _, _, _, _, _, h, _, _ => (show False from h).elim
  | n + 1, A, hu, x, y, v, u, h, rx, ry => by
    by_cases hf : x = y ∧ flatB x = true
    · obtain ⟨rfl, f⟩ := hf
      exact (eqAt_same rx ry f).eqP
    · obtain ⟨a, b, rfl, rfl⟩ : ∃ a b, x = .ref a ∧ y = .ref b := by
        rcases h with z | ⟨a, b, _, _, e1, e2, _⟩ | ⟨a, b, _, _, e1, e2, _⟩ | ⟨a, b, _, _, e1, e2, _⟩
        · exact absurd z hf
        · exact ⟨a, b, e1, e2⟩
        · exact ⟨a, b, e1, e2⟩
        · exact ⟨a, b, e1, e2⟩
      cases (show v = Value.ref a from rx)
      cases (show u = Value.ref b from ry)
      by_cases e : a = b
      · subst e
        exact (SeqAt.EqAt.same _).eqP
      · exact SeqAt.eqP_refs e (eqN_refs I (by omega) (eqN_run I n A.in1 (by show A.units + 1 + n < cLine; omega)) h)
def rEqN (K : PySem.W.Frag) : R2 := fun x y H Q => ∃ (a b : Addr) (n : Nat), x = .ref a ∧ y = .ref b ∧ n ≤ 60 ∧ EqN K H (n + 1) x y ∧ Q (.bl true) H
theorem op_eqN (hu : X.A.units + 64 < cLine) : OpR X (compareOp .Eq) (rEqN X.K) := by
  intro pins s σ H x y v u Q I rx ry h
  obtain ⟨a, b, n, rfl, rfl, hn, h, q⟩ := h
  cases (show v = Value.ref a from rx)
  cases (show u = Value.ref b from ry)
  exact eqN_refs I (A := X.A) (by omega) (eqN_run I n X.A.in1 (by show X.A.units + 1 + n < cLine; omega)) h _ _ ⟨.bl true, H, I, rfl, q⟩
end
theorem eq_ne_meets {prog : Program} {w : World} (l b : Addr) (items items2 : Array Value) (n n2 : Nat) (dd dd2 : Option Addr) (sl sl2 : Array (Option Value)) (hsz : items.size ≠ items2.size) :
    MeetsIn prog w (Builtin.«list.__eq__» ⟨[.ref l, .ref b], []⟩)
      (fun A R s => s.heap.get? l = some { cls := .type "list", dict := dd, data := .seq items n, slots := sl } ∧ s.heap.get? b = some { cls := .type "list", dict := dd2, data := .seq items2 n2, slots := sl2 } ∧ R (.ok (.ret (.bool false))) s) := by
  intro A R s h
  obtain ⟨hp, g, d, tk, os⟩ := s; obtain ⟨hl, hb, h⟩ := h
  have f3 := AutoSeq1.sub_list_list
  have hne : (items.size != items2.size) = true := by simp [hsz]
  wp_walk using AutoSeq1.wpAny_loadPart' hl, AutoSeq1.wpAny_loadPart' hb
  exact h
theorem rc_lists_ne {prog : Program} {w : World} {A : Around} {s : Shared} {l b : Addr} {items items2 : Array Value} (hl : s.heap.IsList l items) (hb : s.heap.IsList b items2) (hsz : items.size ≠ items2.size) (hu : A.units < cLine)
    (E Q : Value → Shared → Prop) (h : Q (.bool false) s) : wpAny (model prog w) A (richCompare .Eq (.ref l) (.ref b)) Q E s := by
  obtain ⟨⟨cls, dd, data, sl⟩, ho, hc, n, hd⟩ := id hl
  obtain ⟨⟨cls2, dd2, data2, sl2⟩, ho2, hc2, n2, hd2⟩ := id hb
  simp only at hc hd hc2 hd2
  subst hc hd hc2 hd2
  have ta : s.TypeIs (.ref l) "list" := ⟨_, ho, rfl⟩
  have tb : s.TypeIs (.ref b) "list" := ⟨_, ho2, rfl⟩
  exact wpAny_richCompare_same_room (op := .Eq) ta tb F.slot_list_eq (PySem.call_meetsIn F.slot_list_eq ta F.entry_list_eq (F.args_list_eq_2 _ _) (eq_ne_meets l b items items2 n n2 dd dd2 sl sl2 hsz)
    ⟨ho, ho2, show Value.bool false ≠ Value.notImplemented ∧ Q (.bool false) s from ⟨(fun x => nomatch x), h⟩⟩) hu
def rEqL (K : PySem.W.Frag) : R2 := fun x y H Q => ∃ (a b : Addr) (xs ys : List V), x = .ref a ∧ y = .ref b ∧ SqL K H a xs ∧ SqL K H b ys ∧ xs.length ≠ ys.length ∧ Q (.bl false) H
theorem op_eqL {X : Cx} (hu : X.A.units + 64 < cLine) : OpR X (compareOp .Eq) (rEqL X.K) := by
  intro pins s σ H x y v u Q I rx ry h
  obtain ⟨a, b, xs, ys, rfl, rfl, h1, h2, hn, q⟩ := h
  cases (show v = Value.ref a from rx)
  cases (show u = Value.ref b from ry)
  obtain ⟨us, r1, p1, _⟩ := I.list h1
  obtain ⟨ws, r2, p2, _⟩ := I.list h2
  refine rc_lists_ne p1.isList p2.isList (fun z => hn ?_) (by omega) _ _ ⟨.bl false, H, I, rfl, q⟩
  rw [List.size_toArray, List.size_toArray, ← r1.length, ← r2.length] at z
  exact z
def gEqN : W → W → (W → Prop) → Prop := fun x y P => (x = y ∧ refW x = true ∧ okN 60 x = true ∧ P (.bl true)) ∨ (∃ us vs, x = .lst us ∧ y = .lst vs ∧ us.length ≠ vs.length ∧ P (.bl false)) ∨ gEq x y P
def rEqNX (K : PySem.W.Frag) : R2 := fun x y H Q => rEqS K x y H Q ∨ (rEqN K x y H Q ∨ rEqL K x y H Q)
section
variable {X : Cx} {F : Addr → Prop} {Wx : WX} {a b : Expr} {pos : Pos} {ia ib : IE}
theorem og_eqN {K : PySem.W.Frag} : OpG K (rEqNX K) gEqN := by
  intro F st σ H x y v u P Q h l rx ry k
  rcases h with ⟨rfl, hr, hok, p⟩ | ⟨us, vs, rfl, rfl, hn, p⟩ | h
  · obtain ⟨a, rfl⟩ := ref_of hr rx
    obtain ⟨b, rfl⟩ := ref_of hr ry
    exact .inr (.inl ⟨a, b, 60, rfl, rfl, Nat.le_refl _, eqN_of x hok rx ry, k _ _ H p l .refl (.bl _)⟩)
  · cases rx with
    | lst f r =>
    cases ry with
    | lst f' r' => exact .inr (.inr ⟨_, _, _, _, rfl, rfl, f.sq, f'.sq, fun z => hn (by rw [r.length, r'.length]; exact z), k _ _ H p l .refl (.bl _)⟩)
  · exact .inl (og_eq h l rx ry k)
end
end Sh
namespace Sh
open PySem L2
open PyProof.Rows hiding St
section
variable {X : Cx}
variable {o e : Expr} {es : List Expr} {to : TE} {t : TA} {apos cpos : Pos}
end
section
variable {X : Cx} {F : Addr → Prop} {Wx : WX} {a o e : Expr} {apos cpos pos p2 : Pos} {ia : IE}
def iIdxT (ia : IE) (lo hi : IO') (i : IA) : IE := fun EI st Q => ia EI st fun x st1 => lo EI st1 fun l st2 => hi EI st2 fun u st3 => match x with
  | .tup ws => ¬ (HT.sIx ws.length 0 l = 0 ∧ HT.sIx ws.length ws.length u = ws.length) ∧ i EI st3 fun as st4 => match as with
    | [.int k] => ∃ ns : List Int, cutW ws l u = ns.map W.int ∧ k ∈ ns ∧ Q (.int (ns.idxOf k : Nat)) st4
    | _ => False
  | _ => False
def iIdxL (ia : IE) (i : IA) : IE := fun EI st Q => ia EI st fun x st1 => match x with
  | .lst ws => i EI st1 fun as st2 => match as with
    | [.int k] => ∃ ns : List Int, ws = ns.map W.int ∧ k ∈ ns ∧ Q (.int (ns.idxOf k : Nat)) st2
    | _ => False
  | _ => False
end
end Sh
namespace Sh
open PySem L2
open PyProof.Rows hiding St
section
variable {X : Cx}
end
section
variable {X : Cx} {F : Addr → Prop} {Wx : WX} {a b c e o : Expr} {es : List Expr} {apos cpos pos p2 pos2 px : Pos} {ia ib : IE} {x name : Str} {id : String} {k' n : Nat} {i : IA} {nn : IN} {m : Str} {tb : List (Str × ISp)}
def iInRg (neg : Bool) (ia : IE) (i : IA) : IE := fun EI st Q => ia EI st fun x st1 => i EI st1 fun ws st2 => match x, ws with
  | .int k, [.int hi] => Q (.bl (if neg = true then !decide (0 ≤ k ∧ k < hi) else decide (0 ≤ k ∧ k < hi))) st2
  | .int k, [.int lo, .int hi] => Q (.bl (if neg = true then !decide (lo ≤ k ∧ k < hi) else decide (lo ≤ k ∧ k < hi))) st2
  | _, _ => False
def nSl (ia : IE) (lo hi : IO') : IN := fun EI st Q => ia EI st fun x st1 => lo EI st1 fun i st2 => hi EI st2 fun j st3 => match x with
  | .lst ws => Q (.lst (cutW ws i j)) st3
  | .scr ns => Q (.lst ((cutW ns i j).map .int)) st3
  | _ => False
def nAdd (ia ib : IE) : IN := fun EI st Q => ia EI st fun x st1 => ib EI st1 fun y st2 => match x, y with
  | .lst ws, .lst us => ws.length + us.length ≤ sizeLine ∧ Q (.lst (ws ++ us)) st2
  | _, _ => False
def nAddO (j : Nat) (ib : IE) : IN := fun EI st Q => ownL st j fun _ => ib EI st fun y st1 => ownL st1 j fun ws => match y with
  | .lst us => ws.length + us.length ≤ sizeLine ∧ Q (.lst (ws ++ us)) st1
  | _ => False
/-- an owned object is given away -/
def nOwn (j : Nat) : IN := fun _ st Q => match st.ρ[j]? with
  | some (.own o) => Q o ⟨st.ρ.set j .none, st.S⟩
  | _ => False
/-- a method of a new list that nobody holds: e.append(x) -/
def iMtN (nn : IN) (g : List W → List W → (List W → W → Prop) → Prop) (i : IA) : IE := fun EI st Q => nn EI st fun o st1 => match o with
  | .lst ws => i noX st1 fun as st2 => g ws as fun _ w => w = .non ∧ Q .non st2
  | _ => False
end
end Sh
namespace Sh
open PySem L2
open PyProof.Rows hiding St
section
variable {prog : Program} {w : World} {A : Around} {E : Value → Shared → Prop} {s : Shared}
end
section
variable {X : Cx}
end
section
variable {X : Cx} {F : Addr → Prop} {Wx : WX} {e : Expr} {es : List Expr} {pos p : Pos} {i : IA} {n : Nat}
end
end Sh
namespace Sh
open PySem L2
open PyProof.Rows hiding St
open He (ga ma)
section
variable {X : Cx} {pins : List (Addr × Obj)} {σ : L2.St} {H : Hp} {s : Shared}
theorem rd_upd {H : Hp} {t q : Addr} {o u : HO} (h : Rd H t o) (hq : H q = none) : Rd (upd H q u) t o := by
  rcases h with h | ⟨z, h⟩
  · exact .inl ((upd_ne (ne_of_none h hq)).trans h)
  · exact .inr ⟨z, (upd_ne (ne_of_none h hq)).trans h⟩
theorem SqB.upd {K : PySem.W.Frag} {H : Hp} {t q : Addr} {xs : List V} {b : Bool} {u : HO} (h : SqB K H t xs b) (hq : H q = none) : SqB K (upd H q u) t xs b := by
  cases b
  · rcases h with h | h
    · exact .inl (rd_upd h hq)
    · exact .inr h
  · rcases h with h | h
    · exact .inl (rd_upd h hq)
    · exact .inr h
end
section
variable {F : Addr → Prop}
end
def sqW : Option W → Option (List W)
  | some (.tup ws) => some ws
  | some (.lst ws) => some ws
  | _ => none
def lenP (P : Sto → Prop) (r : R) (S' : Sto) : Prop := match r with
  | .val (.int n) => 0 ≤ n ∧ n ≤ sizeLine ∧ P S'
  | _ => False
section
variable {X : Cx} {F : Addr → Prop} {Wx : WX} {a : Expr} {pos p : Pos} {ia : IE} {kI kL : Nat} {tbI : List (Str × Str)} {tbL : List (Str × ISp)}
def nListM (tbI : List (Str × Str)) (tbL : List (Str × ISp)) (ia : IE) : IN := fun EI st Q => ia EI st fun x st1 => objOf st1 x fun C fs => ∃ fld spec ws, tbI.lookup C = some fld ∧ tbL.lookup C = some spec ∧ sqW (fs.lookup fld) = some ws ∧
  spec [x] st1.S (lenP fun S' => Q (.lst ws) { st1 with S := S' }) fun _ _ => False
end
end Sh
namespace Sh
open PySem L2
open PyProof.Rows hiding St
mutual
def drW (S : Sto) : W → W
  | .ref a => (match S a with
    | some (.lst ws) => .lst ws
    | _ => .ref a)
  | .tup ws => .tup (drWs S ws)
  | w => w
def drWs (S : Sto) : List W → List W
  | [] => []
  | w :: ws => drW S w :: drWs S ws
end
section
variable {K : PySem.W.Frag} {F : Addr → Prop} {st : Stt} {σ : L2.St} {H : Hp}
theorem mv_pk : Mv (Live F st σ) H (Live F st.pk σ) H := mv_same fun a z => z.elim (fun z => (pk_wr z).elim) .inr
mutual
theorem drW_rel (l : Lk K F st σ H) : ∀ {w : W} {v : V}, RelW K (Live F st σ) H w v → RelW K (Live F st.pk σ) H (drW st.S w) v
  | .ref b, _, r => by
    cases r
    unfold drW
    cases e : st.S b with
    | none => exact .ref b
    | some o =>
      cases o with
      | lst ws =>
        obtain ⟨vs, hv, rs⟩ := l.sto b _ e
        refine .lst ⟨hv, fun z => z.elim (fun z => pk_wr z) fun z => ?_⟩ (rs.mono mv_pk)
        have := l.fdis b z
        rw [e] at this
        cases this
      | _ => exact .ref b
  | .tup ws, _, .tup f r => by
    unfold drW
    exact .tup (f.mono mv_pk) (drWs_rel l r)
  | .non, _, r => r.mono mv_pk
  | .bl _, _, r => r.mono mv_pk
  | .int _, _, r => r.mono mv_pk
  | .str _, _, r => r.mono mv_pk
  | .lst _, _, r => r.mono mv_pk
  | .dct _, _, r => r.mono mv_pk
  | .dcT _, _, r => r.mono mv_pk
  | .obj _ _, _, r => r.mono mv_pk
  | .exn _ _ _ _, _, r => r.mono mv_pk
  | .ty _, _, r => r.mono mv_pk
  | .scr _, _, r => r.mono mv_pk
  | .glo _, _, r => r.mono mv_pk
theorem drWs_rel (l : Lk K F st σ H) : ∀ {ws : List W} {vs : List V}, RelWs K (Live F st σ) H ws vs → RelWs K (Live F st.pk σ) H (drWs st.S ws) vs
  | [], _, .nil => .nil
  | _ :: _, _, .cons r rs => .cons (drW_rel l r) (drWs_rel l rs)
end
/-- back from the look -/
theorem pk_back {H' : Hp} (l : Lk K F st σ H) (s : Step st.pk σ H st.pk σ H') : Lk K F st σ H' ∧ Step st σ H st σ H' := by
  have ext : ∀ a u, H a = some u → H' a = some u := fun a u e => s.keep a u e pk_wr
  exact ⟨l.ext ext, ⟨fun a u e _ => ext a u e, fun _ z => .inl z⟩⟩
end
section
variable {X : Cx} {F : Addr → Prop} {Wx : WX} {a b c e o : Expr} {es : List Expr} {pos p apos cpos : Pos} {ia ib : IE} {i : IA} {nn : IN} {n : Nat} {x name : Str} {id : String}
def iBR (g : W → W → (W → Prop) → Prop) (ia ib : IE) : IE := fun EI st Q => ia EI st fun x st1 => ib EI st1 fun y st2 => g (drW st2.S x) (drW st2.S y) fun w => ∃ d, w = .bl d ∧ Q (.bl d) st2
def iFnR (g : List W → (W → Prop) → Prop) (i : IA) : IE := fun EI st Q => i EI st fun ws st1 => g (drWs st1.S ws) fun w => ∃ y, w = .str y ∧ Q (.str y) st1
/-- a new object that goes into the store -/
def iPub (nn : IN) : IE := fun EI st Q => nn EI st fun o st1 => ∀ a, st1.S a = none → Q (.ref a) (st1.puts a o)
theorem i_pub (h : PE X e (LN X.K F Wx nn)) : PE X e (LE X.K F Wx (iPub nn)) := pe_imp h fun σ H Q h => by
  obtain ⟨st, QI, EI, l, q, ux, k⟩ := h
  refine ⟨st, _, EI, l, q, ux, fun o st1 a H1 q1 l1 s1 r1 n1 => ?_⟩
  exact k (.ref a) (st1.puts a o) (.ref a) H1 (q1 a (l1.fdis a (.inr rfl))) (l1.publish r1 (NewAt.nf l n1)) (Step.publish s1 n1) (.ref a)
/-- a method that changes a list of the store -/
def iMtR (ie : IE) (g : List W → List W → (List W → W → Prop) → Prop) (i : IA) : IE := fun EI st Q => ie EI st fun x st1 => ∃ b ws0, x = .ref b ∧ st1.S b = some (.lst ws0) ∧ i EI st1 fun as st2 => ∃ ws, st2.S b = some (.lst ws) ∧ g ws as fun ws' w => Q w (st2.puts b (.lst ws'))
theorem i_mtR {r : V → List V → Hp → VK → Prop} {g : List W → List W → (List W → W → Prop) → Prop} (hg : MtG r g) (hm : MtR X id r) (slot : PySem.Slot "list" name id) (hty : typeOf (.builtin id) = pure (.type "method_descriptor")) (ho : PE X o (LE X.K F Wx ia)) (ha : PA X (e :: es) (LA X.K F Wx n i))
    (hbase : attributeBase o name X.env (eval o X.env) = eval o X.env := by rfl)
    (hfew : ((backTo cpos (starEach (e :: es) X.env)).all (fun x => !x.1) && (backToKw cpos (keywordEach [] X.env)).all (fun x => x.1.isSome) && decide ((e :: es).length + ([] : List Keyword).length + (if ([] : List Keyword).isEmpty then 0 else 1) < 30)) = true := by rfl)
    (hline : (apos.endLine == cpos.line) = true := by rfl) (hs : starEach (e :: es) X.env = (false, eval e X.env) :: starEach es X.env := by rfl) (hplain : (backTo cpos (starEach es X.env)).any (·.1) = false := by rfl) :
    PE X (.Call (.Attribute o name apos) (e :: es) [] cpos) (LE X.K F Wx (iMtR ia g i)) := by
  refine pe_imp (pe_bm PySem.F.plainAttrs_list slot hty hm ho ha hbase hfew hline hs hplain) fun σ H Q h => ?_
  obtain ⟨st, QI, EI, l, q, ux, k⟩ := h
  refine ⟨st, _, EI, l, q, ux, fun x st1 v H1 q1 l1 s1 r1 => ?_⟩
  obtain ⟨b, ws0, rfl, e0, q1⟩ := q1
  cases r1
  obtain ⟨vs0, hv0, r0⟩ := l1.sto b _ e0
  refine ⟨.inl ⟨rfl, _, SqL.of hv0⟩, st1, _, EI, l1, q1, ux.step s1, fun as st2 us H2 hn q2 l2 s2 r2 => ?_⟩
  obtain ⟨ws, e1, q2⟩ := q2
  obtain ⟨vs, hv1, rs⟩ := l2.sto b _ e1
  refine hg q2 hv1 rs r2 fun ws' w vs' v p r3 rw' => ?_
  have la : Live F st2 σ b := .inl (.inl (by rw [e1]; exact fun z => nomatch z))
  have m : Mv (Live F st2 σ) H2 (Live F st2 σ) (upd H2 b (.lst vs')) := Mv.write la fun _ z => z
  obtain ⟨l3, s3⟩ := l2.writeS (o' := .lst ws') (u := .lst vs') e1 ⟨vs', upd_same, r3.mono m⟩
  exact k w _ v _ p l3 ((s1.trans s2).trans s3) (rw'.mono s3.mv)
end
end Sh
namespace Sh
open PySem L2
open PyProof.Rows hiding St
section
variable {K : PySem.W.Frag} {Lv : Addr → Prop} {H : Hp}
def valT (ws : List (List Key × W)) (k : List Key) : Option W := (ws.find? fun kv => decide (kv.1 = k)).map (·.2)
def putKT (kvs : List (List Key × W)) (k : List Key) (v : W) : List (List Key × W) := if (kvs.any fun kv => decide (kv.1 = k)) = true then kvs.map (fun kv => if kv.1 = k then (kv.1, v) else kv) else kvs ++ [(k, v)]
theorem RelTs.any {k : List Key} : ∀ {ws : List (List Key × W)} {vs : List (List Key × V)}, RelTs K Lv H ws vs → (ws.any fun kv => decide (kv.1 = k)) = (vs.any fun kv => decide (kv.1 = k))
  | [], _, .nil => rfl
  | _ :: _, _, .cons _ rs => by rw [List.any_cons, List.any_cons, RelTs.any rs]
theorem RelTs.length : ∀ {ws : List (List Key × W)} {vs : List (List Key × V)}, RelTs K Lv H ws vs → ws.length = vs.length
  | [], _, .nil => rfl
  | _ :: _, _, .cons _ rs => by rw [List.length_cons, List.length_cons, RelTs.length rs]
theorem RelTs.set {k : List Key} {w : W} {v : V} (r : RelW K Lv H w v) : ∀ {ws : List (List Key × W)} {vs : List (List Key × V)}, RelTs K Lv H ws vs → RelTs K Lv H (ws.map fun kv => if kv.1 = k then (kv.1, w) else kv) (vs.map fun kv => if kv.1 = k then (kv.1, v) else kv)
  | [], _, .nil => .nil
  | (j, _) :: _, _, .cons h rs => by
    rw [List.map_cons, List.map_cons]
    by_cases z : j = k
    · simp only [z, if_true]; exact .cons r (RelTs.set r rs)
    · simp only [z, if_false]; exact .cons h (RelTs.set r rs)
theorem RelTs.app {ws' : List (List Key × W)} {vs' : List (List Key × V)} (r : RelTs K Lv H ws' vs') : ∀ {ws : List (List Key × W)} {vs : List (List Key × V)}, RelTs K Lv H ws vs → RelTs K Lv H (ws ++ ws') (vs ++ vs')
  | [], _, .nil => r
  | _ :: _, _, .cons h rs => .cons h (RelTs.app r rs)
theorem RelTs.put {k : List Key} {w : W} {v : V} {ws : List (List Key × W)} {vs : List (List Key × V)} (r : RelW K Lv H w v) (rs : RelTs K Lv H ws vs) : RelTs K Lv H (putKT ws k w) (putK vs k v) := by
  unfold putKT putK
  rw [rs.any]
  split
  · exact rs.set r
  · exact RelTs.app (.cons r .nil) rs
end
section
variable {X : Cx} {F : Addr → Prop} {Wx : WX} {a b c e f o : Expr} {es : List Expr} {pos apos cpos p px : Pos} {ia ib ic : IE} {x : Str}
end
end Sh
namespace Sh
open PySem L2
open PyProof.Rows hiding St
open He (ga ma)
section
variable {X : Cx} {F : Addr → Prop} {Wx : WX} {a b c e o : Expr} {es : List Expr} {pos apos p : Pos} {ia ib ic : IE} {C : Str} {k' n : Nat} {spec : ISp} {i : IA}
end
section
variable {K : PySem.W.Frag} {F : Addr → Prop} {Lv Lv' : Addr → Prop} {H : Hp}
end
section
variable {X : Cx} {F : Addr → Prop} {Wx : WX} {a c : Expr} {pos p p1 p2 p3 p4 p5 : Pos} {ia : IE} {it : IT} {C x : Str} {k' : Nat} {spec : ISp}
end
end Sh
namespace Sh
open PySem L2
open PyProof.Rows hiding St
section
variable {X : Cx}
end
def tupW (is : List Int) : W := .tup (is.map .int)
def gSortedG : List W → (W → Prop) → Prop := fun ws P => ∃ ss : List (List Int), ws = [.lst (ss.map tupW)] ∧ (∀ is ∈ ss, is ≠ []) ∧ ∀ ss' : List (List Int), ss'.Perm ss → ss'.Pairwise (· ≤ ·) → P (.lst (ss'.map tupW))
section
variable {X : Cx} {F : Addr → Prop} {Wx : WX} {e a : Expr} {es : List Expr} {pos p : Pos} {i : IA} {n : Nat} {ia : IE}
def sAugL (i : Nat) (ia : IE) : IS := fun EI D st => ownL st i fun _ => ia EI st fun y st1 => ownL st1 i fun ws => match y with
  | .lst us => ws.length + us.length ≤ sizeLine ∧ D.nx (st1.put i (.own (.lst (ws ++ us))))
  | _ => False
def tTruO (j : Nat) : IT := fun _ st Q => ownL st j fun ws => Q (!ws.isEmpty) st
end
end Sh
namespace Sh
open PySem L2
open PyProof.Rows hiding St
section
variable {X : Cx} {F : Addr → Prop} {Wx : WX} {vs : List Nat} {a b c e tg : Expr} {es : List Expr} {pos p : Pos} {ia ib ic : IE}
def zipW (xs ys : List W) : List W := List.zipWith (fun x y => W.tup [x, y]) xs ys
def lZip (i : IA) : IL := fun EI st Q => i EI st fun ws st1 => match ws with
  | [.lst xs, .lst ys] => Q (zipW xs ys) st1
  | _ => False
end
end Sh
namespace Sh
open PySem L2
open PyProof.Rows hiding St
def noOwn : Slot → Slot
  | .own _ => .none
  | x => x
def psI : W → Bool
  | .int _ => true
  | _ => false
mutual
def psW : W → Bool
  | .int _ => true
  | .str _ => true
  | .bl _ => true
  | .non => true
  | .ref _ => true
  | .scr _ => true
  | .tup ws => psWs ws
  | .lst ws => ws.all psI
  | _ => false
def psWs : List W → Bool
  | [] => true
  | w :: ws => psW w && psWs ws
end
def psO : SO → Prop
  | .lst ws => psWs ws = true
  | .tbl _ _ => True
  | _ => False
def Stt.ps (st : Stt) (j : Nat) (ws : List W) : Stt := ⟨(st.ρ.map noOwn).set j (.val (.lst ws)), st.S⟩
section
variable {K : PySem.W.Frag} {F : Addr → Prop} {st : Stt} {σ : L2.St} {H H' : Hp} {Lv Lv' : Addr → Prop}
end
section
variable {X : Cx} {F : Addr → Prop} {Wx : WX} {e : Expr} {ie : IE}
def iPeekS (j : Nat) (ie : IE) : IE := fun _ st Q => ∃ tp ws, st.ρ[j]? = some (.own (.lst (.tup tp :: ws))) ∧ ie (fun _ _ => False) (st.ps j (.tup tp :: ws)) fun w st1 =>
  plainW w = true ∧ st1.ρ = (st.ps j (.tup tp :: ws)).ρ ∧ (∀ a o, st1.S a = some o → psO o) ∧ Q w ⟨st.ρ, st1.S⟩
end
end Sh
namespace Sh
open PySem L2
open PyProof.Rows hiding St
section
variable {X : Cx} {F : Addr → Prop} {Wx : WX} {a b : Expr} {pos p : Pos} {ia ib : IE}
end
end Sh
namespace Sh
open PySem L2
open PyProof.Rows hiding St
section
variable {X : Cx} {F : Addr → Prop} {Wx : WX} {a b c e o : Expr} {es : List Expr} {pos p : Pos} {ia ib : IE} {i : IA} {nn : IN}
end
end Sh
namespace Sh
open PySem L2
open PyProof.Rows hiding St
section
variable {X : Cx} {F : Addr → Prop} {Wx : WX} {o e : Expr} {apos cpos : Pos} {ia : IE}
end
section
variable {X : Cx} {F : Addr → Prop} {Wx : WX} {vs : List Nat} {a b c e tg : Expr} {es : List Expr} {pos p : Pos} {ia ib ic : IE} {s : Stmt} {ss : List Stmt} {ip iq : IS} {nn : IN}
variable {elt iter : Expr} {ifs : List Expr} {scope : Scope} {il : IL} {g : IG} {t : IT} {ie : IE}
end
end Sh
namespace Sh
open PySem L2
open PyProof.Rows hiding St
open He (ga ma)
structure CalMH (P : Program) (w : World) (K : PySem.W.Frag) (mg : Str → Option Value) (base : Heap) (C m : Str) (k n : Nat) (spec : ISp) : Prop where
  ex : ∃ fd ps, Cls K (ga K C) ∧ Meth K (ga K C) m (ma K (ga K C) m) ∧ FnHG P w K mg base k (ma K (ga K C) m) fd ps (spI K (n + 1) spec) ∧ Binds K fd ps []
theorem CalMH.spec {P : Program} {w : World} {K : PySem.W.Frag} {mg : Str → Option Value} {base : Heap} {C m : Str} {k n : Nat} {sp sp' : ISp} (M : CalMH P w K mg base C m k n sp) (h : ∀ ws S Q E, sp' ws S Q E → sp ws S Q E) : CalMH P w K mg base C m k n sp' := by
  obtain ⟨fd, ps, c, hm, G, b⟩ := M.ex
  exact ⟨fd, ps, c, hm, ⟨fun q => G.len (spI.imp h q), fun p a b c d e v q => G.go p a b c d e v (spI.imp h q)⟩, b⟩
section
variable {X : Cx} {F : Addr → Prop} {Wx : WX} {a b : Expr} {pos : Pos} {ia ib : IE} {C : Str} {k' : Nat} {spec : ISp} {p : Addr × Obj}
end
end Sh
namespace Sh
open PySem L2
open PyProof.Rows hiding St
section
variable {K : PySem.W.Frag} {F : Addr → Prop} {st : Stt} {σ : L2.St} {H : Hp}
theorem Lk.frz {j : Nat} {ws : List W} (l : Lk K F st σ H) (e : st.ρ[j]? = some (.own (.lst ws))) :
    Lk K F ⟨st.ρ.set j (.val (.lst ws)), st.S⟩ σ H ∧ Step st σ H ⟨st.ρ.set j (.val (.lst ws)), st.S⟩ σ H := by
  have get : ∀ i x, (st.ρ.set j (Slot.val (.lst ws)))[i]? = some x → (i = j ∧ x = .val (.lst ws)) ∨ (i ≠ j ∧ st.ρ[i]? = some x) := fun i x h => by
    rw [List.getElem?_set] at h
    by_cases q : j = i
    · rw [if_pos q] at h
      split at h
      · cases h; exact .inl ⟨q.symm, rfl⟩
      · cases h
    · rw [if_neg q] at h
      exact .inr ⟨fun z => q z.symm, h⟩
  have wr : ∀ a, Wr ⟨st.ρ.set j (.val (.lst ws)), st.S⟩ σ a → Wr st σ a := fun a z => z.imp id fun ⟨i, o, e1, e2⟩ => by
    rcases get i _ e1 with ⟨_, z⟩ | ⟨_, z⟩
    · cases z
    · exact ⟨i, o, z, e2⟩
  have nx : ∀ a, Live F ⟨st.ρ.set j (.val (.lst ws)), st.S⟩ σ a → Live F st σ a := fun a z => z.imp (wr a) id
  refine ⟨⟨by simpa using l.len, fun i w h => ?_, fun i o h => ?_, fun i i' o o' a h h' => ?_, fun a o h => (l.sto a o h).move (fun _ q => q) (mv_same nx), l.ftr, l.fdis⟩, ⟨fun _ _ e _ => e, fun a z => .inl (wr a z)⟩⟩
  · rcases get i _ h with ⟨rfl, z⟩ | ⟨_, z⟩
    · cases z
      obtain ⟨a, e1, ⟨vs, e2, r⟩, n1, n2⟩ := l.own _ _ e
      refine ⟨.ref a, e1, .lst ⟨e2, fun z => ?_⟩ (r.mono (mv_same nx))⟩
      rcases z with (z | ⟨k, o, z1, z2⟩) | z
      · exact z n1
      · rcases get k _ z1 with ⟨_, z⟩ | ⟨n, z⟩
        · cases z
        · exact n (l.inj _ _ _ _ a z e z2 e1)
      · exact n2 z
    · obtain ⟨v, e1, r⟩ := l.val i w z
      exact ⟨v, e1, r.mono (mv_same nx)⟩
  · rcases get i _ h with ⟨_, z⟩ | ⟨_, z⟩
    · cases z
    · obtain ⟨a, e1, r, n1, n2⟩ := l.own i o z
      exact ⟨a, e1, r.move (fun _ q => q) (mv_same nx), n1, n2⟩
  · rcases get i _ h with ⟨_, z⟩ | ⟨_, z⟩
    · cases z
    · rcases get i' _ h' with ⟨_, z'⟩ | ⟨_, z'⟩
      · cases z'
      · exact l.inj i i' o o' a z z'
end
section
variable {X : Cx} {F : Addr → Prop} {Wx : WX} {s : Stmt} {ib : IS}
end
end Sh
namespace Sh
open PySem L2
open PyProof.Rows hiding St
section
variable {X : Cx} {F : Addr → Prop} {Wx : WX} {e : Expr} {es : List Expr} {pos p : Pos} {i : IA} {n : Nat}
end
end Sh
namespace Sh
open PySem L2
open PyProof.Rows hiding St
theorem RelKs.length {K : PySem.W.Frag} {Lv : Addr → Prop} {H : Hp} : ∀ {ws : List (Key × W)} {vs : List (Key × V)}, RelKs K Lv H ws vs → ws.length = vs.length
  | [], _, .nil => rfl
  | _ :: _, _, .cons _ rs => by rw [List.length_cons, List.length_cons, RelKs.length rs]
section
variable {X : Cx} {F : Addr → Prop} {Wx : WX} {a b c e f o : Expr} {es : List Expr} {pos apos cpos p px : Pos} {ia ib ic : IE} {x : Str}
end
end Sh
namespace Sh
open PySem L2
open PyProof.Rows hiding St
section
variable {X : Cx} {F : Addr → Prop} {Wx : WX} {e : Expr} {es : List Expr} {pos p : Pos} {i : IA} {n : Nat}
end
end Sh
namespace Sh
open PySem PySem.W PySem.Calls PyProof.Rows HandSHeadRun
end Sh
namespace Sh
open PySem L2
open PyProof.Rows hiding St
section
variable {X : Cx}
end
section
variable {X : Cx} {F : Addr → Prop} {Wx : WX} {e : Expr} {es : List Expr} {pos p : Pos} {i : IA} {n : Nat}
end
end Sh
namespace Sh
open PySem L2
open PyProof.Rows hiding St
section
variable {X : Cx}
variable {kx vx tg iter : Expr} {ifs : List Expr} {scope : Scope} {own : List (Str × Nat)} {pos : Pos} {wi : TI} {g : TG} {tt : TT} {tk tv : TE}
end
section
variable {X : Cx} {F : Addr → Prop} {Wx : WX} {kx vx tg iter : Expr} {ifs : List Expr} {scope : Scope} {pos : Pos} {il : IL} {g : IG} {t : IT} {ik iv : IE}
end
end Sh
namespace Sh
open PySem L2
open PyProof.Rows hiding St
def mergeT (kvs more : List (List Key × V)) : List (List Key × V) := more.foldl (fun acc kv => putK acc kv.1 kv.2) kvs
theorem KT.mergeT {H : Hp} : ∀ {ms : List (List Key × V)} {ps : List (List Key × Addr × Value)} {kvs : List (List Key × V)} {xs : List (List Key × Addr × Value)}, KT H ms ps → KT H kvs xs → KT H (Sh.mergeT kvs ms) (PySem.storedAllH xs ps)
  | _, _, _, _, .nil, r => r
  | _, _, _, _, .cons (a := m) (b := p) ⟨h1, h2, h3⟩ t, r => by
    have r1 := KT.put r m.1 h2 h3
    have := KT.mergeT t r1
    show KT H (Sh.mergeT (putK _ m.1 m.2) _) (PySem.storedAllH (storedH _ p.1 p.2.1 p.2.2) _)
    rw [← h1]
    exact this
section
variable {X : Cx}
end
def mergeWT (kvs more : List (List Key × W)) : List (List Key × W) := more.foldl (fun acc kv => putKT acc kv.1 kv.2) kvs
theorem RelTs.merge {K : PySem.W.Frag} {Lv : Addr → Prop} {H : Hp} : ∀ {ms : List (List Key × W)} {ns : List (List Key × V)} {ws : List (List Key × W)} {vs : List (List Key × V)}, RelTs K Lv H ms ns → RelTs K Lv H ws vs → RelTs K Lv H (mergeWT ws ms) (mergeT vs ns)
  | [], _, _, _, .nil, rs => rs
  | (k, w) :: ms, _, _, _, .cons h r, rs => by
    show RelTs K Lv H (mergeWT (putKT _ k w) ms) (mergeT (putK _ k _) _)
    exact RelTs.merge r (rs.put h)
section
variable {X : Cx} {F : Addr → Prop} {Wx : WX} {a b e : Expr} {es : List Expr} {pos p : Pos} {i : IA} {n : Nat}
end
end Sh
namespace Sh
open PySem L2
open PyProof.Rows hiding St
section
variable {X : Cx} {F : Addr → Prop} {Wx : WX} {a b : Expr} {pos p : Pos} {ia ib : IE}
end
end Sh
namespace Sh
open PySem L2
open PyProof.Rows hiding St
open He (ga ma)
section
open PySem.SeqAt AutoSeq1
end
section
variable {X : Cx} {F : Addr → Prop} {Wx : WX} {a b : Expr} {pos : Pos} {ia ib : IE} {C : Str} {k' : Nat} {spec : ISp}
end
end Sh
namespace Sh
open PySem L2
open PyProof.Rows hiding St
inductive Cvs (P : Program) (w : World) (K : PySem.W.Frag) (mg : Str → Option Value) (base : Heap) (k n : Nat) : List (Str × ISp) → Prop
  | nil : Cvs P w K mg base k n []
  | cons {x : Str} {k' : Nat} {spec : ISp} {l : List (Str × ISp)} (C : Cal P w K mg base x k' n spec) (h : k' ≤ k) (g : mg x = some (.ref (He.ga K x))) (r : Cvs P w K mg base k n l) : Cvs P w K mg base k n ((x, spec) :: l)
theorem Cvs.get {P : Program} {w : World} {K : PySem.W.Frag} {mg : Str → Option Value} {base : Heap} {k n : Nat} {x : Str} {spec : ISp} : ∀ {l : List (Str × ISp)}, Cvs P w K mg base k n l → l.lookup x = some spec → Cal P w K mg base x k n spec ∧ mg x = some (.ref (He.ga K x))
  | _, .nil, e => by cases e
  | _, .cons (x := y) C h g r, e => by
    rw [List.lookup_cons] at e
    split at e
    · rename_i z
      cases e
      cases eq_of_beq z
      exact ⟨C.up h, g⟩
    · exact r.get e
section
variable {X : Cx} {F : Addr → Prop} {Wx : WX} {e : Expr} {es : List Expr} {pos p : Pos} {n k' i : Nat} {ia : IA} {x : Str} {cs : List (Str × ISp)}
end
end Sh
namespace Sh
open PySem L2
open PyProof.Rows hiding St
section
variable {X : Cx} {F : Addr → Prop} {Wx : WX} {e c0 c1 : Expr} {es : List Expr} {pos p : Pos} {n k' : Nat} {ic : IE} {ia : IA} {cs : List (Str × ISp)}
end
end Sh
namespace Sh
open PySem L2
open PyProof.Rows hiding St
section
open PySem.SeqAt
variable {X : Cx} {F : Addr → Prop} {Wx : WX} {a b : Expr} {pos : Pos} {ia ib : IE}
end
end Sh
namespace Sh
open PySem L2
open PyProof.Rows hiding St
open He (ga ma)
section
variable {X : Cx} {F : Addr → Prop} {Wx : WX} {e : Expr} {es : List Expr} {pos p : Pos} {cs : List Str} {i : IA} {n : Nat} {x : Str}
end
end Sh
namespace Sh
open PySem L2
open PyProof.Rows hiding St
end Sh
namespace Sh
open PySem L2
open PyProof.Rows hiding St
section
variable {X : Cx} {F : Addr → Prop} {Wx : WX} {a b c e o : Expr} {es : List Expr} {pos p apos cpos : Pos} {ia ib : IE} {i : IA} {nn : IN} {n : Nat} {x name : Str} {id : String}
variable {tg : Expr} {vs : List Nat} {ip : IS}
end
end Sh
namespace Sh
open PySem L2
open PyProof.Rows hiding St
open He (ga ma)
abbrev sup2Body (self x y : Str) (p0 p1 p2 p3 p4 p5 p6 p7 p8 p9 q3 q6 q7 q8 q9 : Pos) : List Stmt := [.Expr (.Call (.Attribute (.Call (.Name "super" p0) [] [] p1) "__init__" p2) [.Name x p3, .Name y q3] [] p4) p5, .Assign [.Attribute (.Name self p6) x p7] (.Name x p8) p9, .Assign [.Attribute (.Name self q6) y q7] (.Name y q8) q9]
structure SupF2 (P : Program) (K : PySem.W.Frag) (C fI : Addr) (x y : Str) : Prop where
  ex : ∃ (self name qual : Str) (params : Arguments) (a1 a2 a3 : Arg) (p0 p1 p2 p3 p4 p5 p6 p7 p8 p9 q3 q6 q7 q8 q9 : Pos) (scope : Scope) (dV kV doc pm : Value) (an : Option Addr) (cda : Addr) (ct : Value) (cc : Addr) (oc : Value) (od : Option Addr) (osl : Array (Option Value))
      (ccl : Value) (cdd : Option Addr) (vs : Array Value) (ccs : Array (Option Value)) (file : Str) (tf : Tok) (cl : Value) (cld : Option Addr) (csl : Array (Option Value)) (cdC : ClassData),
    K.lookup fI = some ⟨oc, od, .func (PySem.W.ksFn name qual params (sup2Body self x y p0 p1 p2 p3 p4 p5 p6 p7 p8 p9 q3 q6 q7 q8 q9) scope dV kV doc pm an (.ref cda) ct cc), osl⟩ ∧
    PySem.W.codeIn K (.ref cda) qual = true ∧ params.posonlyargs = [] ∧ params.args = [a1, a2, a3] ∧ a1.arg = self ∧ a2.arg = x ∧ a3.arg = y ∧
    (∀ us : List Value, us.length = 3 → bindArgs (PySem.W.ksFn name qual params (sup2Body self x y p0 p1 p2 p3 p4 p5 p6 p7 p8 p9 q3 q6 q7 q8 q9) scope dV kV doc pm an (.ref cda) ct cc) ⟨us, []⟩ = pure ([self, x, y].zip us)) ∧
    K.lookup cda = some ⟨ccl, cdd, .fields vs, ccs⟩ ∧ vs[2]? = some (.str file tf) ∧ ((P.main.file : Str) == file) = true ∧ K.lookup cc = some ⟨cl, cld, .cell (some (.ref C)), csl⟩ ∧ PySem.W.clsIn K C = some cdC ∧
    (∀ n ∈ scope.names, n.2 ≠ .cell) ∧ scope.names.lookup self = some .local ∧ scope.names.lookup x = some .local ∧ scope.names.lookup y = some .local ∧ scope.names.lookup ("super" : Str) = some .globalImplicit ∧ scope.names.lookup ("__class__" : Str) = some .free ∧
    scope.isCoroutine = false ∧ scope.isGenerator = false ∧ scope.kind = .function ∧ self ≠ x ∧ self ≠ y ∧ x ≠ y ∧ (self == ("__debug__" : Str)) = false ∧ (x == ("__debug__" : Str)) = false ∧ (y == ("__debug__" : Str)) = false ∧ (p2.endLine == p4.line) = true
  sub : PySem.W.mroIn K C (.ref C) = some true
  init : PySem.W.ks_superIn K C C "__init__" = some (some (.builtin "ValueError.__init__"))
  sve : PySem.W.subIn K (.ref C) (.type "ValueError") = some true
  any : PySem.W.nsIn K cStatics "thirdparty.any" = some none
  noat : PySem.W.findIn K (.ref C) x = some none
  noat2 : PySem.W.findIn K (.ref C) y = some none
  top : (P.main.scope.names.lookup ("super" : Str)).isSome = false
  xi : PySem.W.excInitIn K C [.type "ValueError", .type "Exception", .type "BaseException", .type "object"] "ValueError.__new__" = true
section
open PySem.W PySem.Calls
variable {prog : Program} {w : World} {A : Around} {R : Result → Shared → Prop} {hp : Heap} {g : Array GenState} {d : Drawn} {t : Nat} {os : OsState} {K : Frag} {mg mb : Str → Option Value} {C e t0 fI : Addr} {u v : Value} {x y : Str}
theorem method_call2 {o : Expr} {name : Str} {apos pos : Pos} {a b : Expr} {env : Env} (hl : (apos.endLine == pos.line) = true) (hs : starEach [a, b] env = (false, eval a env) :: (false, eval b env) :: starEach [] env) : eval (.Call (.Attribute o name apos) [a, b] [] pos) env = (do
      let ov ← attributeBase o name env (eval o env)
      standAt apos.atName
      let (f, first) ← holding [ov] (getMethod ov name (do return (← importBound o env).getD true))
      callWith pos f first (backTo pos (starEach [a, b] env)) []) := by
  have e1 : methodCallPos true o env apos pos = pure pos := by
    unfold methodCallPos
    rw [hl]
    rfl
  have e2 : methodCallForm 2 (backTo pos (starEach [a, b] env)) [] = true := by
    rw [hs]
    rfl
  rw [arm_eval_Call]
  show (attributeBase o name env (eval o env) >>= fun ov => standAt apos.atName >>= fun _ => (holding [ov] (calleeOf (methodCallForm 2 (backTo pos (starEach [a, b] env)) []) o env ov name) >>= fun x => methodCallPos (methodCallForm 2 (backTo pos (starEach [a, b] env)) []) o env apos pos >>= fun cp => callWith cp x.1 x.2 (backTo pos (starEach [a, b] env)) [])) = _
  rw [e2, e1]
  rfl
theorem sup_init2 (X : K.In hp) (G : hp.Ns mainGlobals mg) (B : hp.Ns builtinsNs mb) (lim : hp.NoLimit) (hb : mb "super" = bootBuiltins "super") (hm : mg "super" = none) (S : SupF2 prog K C fI x y) (T : OexC K C)
    (he : hp.get? e = some (HandSPX.excO C t0)) (hKe : K.lookup e = none) (room : A.depth < recursionLimit)
    (hq : ∀ h' tk' t1 dx, (∀ b o, b ≠ e → hp.get? b = some o → h'.get? b = some o) → hp.objs.size ≤ dx → dx ≠ e → h'.get? e = some ({ cls := .ref C, dict := some dx, data := .fields #[.ref t1, .none, .none, .none, .bool false, .none] } : Obj) →
      h'.Ns1 dx (fun z => if z = y then some v else if z = x then some u else none) → R (.ok (.ret .none)) ⟨h', g, d, tk', os⟩) :
    codeAny (model prog w) A (.call (.ref fI) ⟨[.ref e, u, v], []⟩) R ⟨hp, g, d, t, os⟩ := by
  obtain ⟨self, name, qual, params, a1, a2, a3, p0, p1, p2, p3, p4, p5, p6, p7, p8, p9, q3, q6, q7, q8, q9, scope, dV, kV, doc, pm, an, cda, ct, cc, oc, od, osl, ccl, cdd, vs, ccs, file, tf, cl, cld, csl, cdC, lk, hcd, hpo, hpa, ha1, ha2, ha3, hbind, hcda, hvs, hfile, hcc, hcC, hcell, hself, hx, hy, hsup, hcls, hco, hgen, hk, hsx, hsy, hxy, hsd, hxd, hyd, hline⟩ := S.ex
  obtain ⟨k1, k2, k3, k4⟩ := hide1 (h := hp) (e := e)
  refine ks_codeAny_call_defAt (fd := ksFn name qual params _ scope dV kV doc pm an (.ref cda) ct cc) (binds := [self, x, y].zip [.ref e, u, v]) room (X _ _ lk) rfl lim (codeRec_of X hcd) rfl (BindsTo.of_eq (hbind _ rfl)) hcell ?_ (fun h1 hns hk1 => ?_) hco hgen hk
  · intro z hz
    simp only [List.zip_cons_cons, List.zip_nil_right, List.mem_cons, List.not_mem_nil, or_false] at hz
    rcases hz with rfl | rfl | rfl
    · exact hself
    · exact hx
    · exact hy
  have F1 : Fr (hideAll hp [e]) hp.objs.size h1 (fun z => ([self, x, y].zip [.ref e, u, v]).reverse.lookup z) := ⟨hns, fun b o q => hk1 b o (k2 b o q), by rw [k4]; exact Nat.le_refl _⟩
  have N1 : News (hideAll hp [e]) hp.objs.size h1 [(e, excObj C t0 none .none)] := fun p hp' => by
    rw [List.mem_singleton.mp hp']
    exact ⟨hk1 _ _ he, Nat.ne_of_lt (Heap.lt_size he), k3⟩
  have X0 : K.In (hideAll hp [e]) := fun b o q => k1 b o (fun z => by rw [z, hKe] at q; cases q) (X b o q)
  have hmb : mb "super" = some (.type "super") := hb.trans (by decide +kernel)
  have z1 : (self == x) = false := beq_eq_false_iff_ne.mpr hsx
  have z2 : (self == y) = false := beq_eq_false_iff_ne.mpr hsy
  have z3 : (x == y) = false := beq_eq_false_iff_ne.mpr hxy
  have ms : ([self, x, y].zip [.ref e, u, v]).reverse.lookup self = some (.ref e) := by simp [List.lookup, z1, z2]
  have mx : ([self, x, y].zip [.ref e, u, v]).reverse.lookup x = some u := by simp [List.lookup, z3]
  have my : ([self, x, y].zip [.ref e, u, v]).reverse.lookup y = some v := by simp [List.lookup]
  refine ks_wpAt_execs_cons (ks_wpAt_Expr_any (ks_wpAt_MethodCall ?_ (method_call2 hline rfl)) (by unfold interactive; simp [callEnv, newEnv, hk]) rfl)
  refine sup_node (ar := a1) F1 X0 N1 (G.keeps hk1) (B.keeps hk1) hm hmb lk (by rw [hpo, hpa]; rfl) (by rw [ha1]; exact ms) (InstAt.of_exc0 (t := t0) (c2 := .none) N1 (by simp)) hcda hvs hfile hcc hcC S.sub (by decide) hsup hcls (by rw [ha1]; exact hself) hk S.top fun so h2 F2 N2 l2 kk2 => ?_
  have kk2' : ∀ b o, hp.get? b = some o → h2.get? b = some o := fun b o q => kk2 b o (hk1 b o q)
  refine kxs_method (so := so) (x := e) (C := C) (D := C) kxs_ValueError F2 X0 N2 (by simp) (InstAt.of_exc0 (t := t0) (c2 := .none) N2 (by simp)) S.any S.init S.sve (by decide) fun q h3 F3 N3 l3 => ?_
  refine kxs_callWith1 (i := "ValueError.__init__") (x := e) N3 (by simp) (Calls.spliced_cons (ESX.ldL F3.ns mx (Calls.spliced_cons (ESX.ldL F3.ns my (Calls.spliced_nil ⟨(N3 (q, kxs_mw "ValueError.__init__" e) (by simp)).1, ?_⟩) hk hy hyd)) hk hx hxd)) rfl rfl
  have nq : q ≠ e := Nat.ne_of_gt (l3 (e, excObj C t0 none .none) (by simp))
  have ns : so ≠ e := Nat.ne_of_gt (l2 (e, excObj C t0 none .none) (by simp))
  refine kxs_call (t := t0) (dv := none) (c2 := .none) F3 X0 N3 PySem.F.excBase_ValueError S.xi (by simp) (.tail nq (.tail ns (.head (by simp)))) (by rw [sizeLine_eq]; show 2 ≤ _; omega) fun t1 h4 F4 N4 l4 => ?_
  -- self.x = x
  obtain ⟨nm, q', N', bs, bm, sn, sub, ab, col, dd, j0, j1, j2, j3, j5, hC, hbm⟩ := T.cls
  have hcl : clsIn K C = some { name := nm, bases := bs, mro := .ref C :: bm, ns := N', qualname := q', hasDict := true, slotNames := sn, subclasses := sub, abstract := ab, collection := col, hasDel := false } := by unfold clsIn; rw [hC] <;> rfl
  have X4 : K.In h4 := X0.keeps F4.keep
  have e4 : h4.get? e = some (excObj C t1 none .none) := (N4 (e, excObj C t1 none .none) (by simp)).1
  have eL : e ≠ hp.objs.size := (N4 (e, excObj C t1 none .none) (by simp)).2.1
  refine ks_wpAt_execs_cons (_root_.PySem.wpAt_of_wpAny (plainObj_wpAny_Assign_Attribute (ESX.ldL F4.ns mx (ESX.ldL F4.ns ms ?_ hk hself hsd) hk hx hxd) rfl))
  refine set_plain X4 (ox := excObj C t1 none .none) (od := none) ⟨e4, rfl, rfl, trivial⟩ T.sa ?_
  refine HandSPX.exc_osa X4 e4 hcl (show HandSPX.refsVE (.ref C :: bm) = true from hbm) rfl S.noat fun h5 tk5 dx k dn dne hx5 hn5 => ?_
  have sz : hp.objs.size < h4.objs.size := by
    obtain ⟨o, _, _, ho, _⟩ := F4.ns
    exact Heap.lt_size ho
  have dL : dx ≠ hp.objs.size := fun z => by rw [z] at dn; exact absurd sz (Nat.not_lt_of_le dn)
  have ns5 : h5.Ns hp.objs.size (fun z => ([self, x, y].zip [.ref e, u, v]).reverse.lookup z) := by
    obtain ⟨oL, es, ep, hL, r⟩ := F4.ns
    exact ⟨oL, es, ep, k _ _ (fun z => eL z.symm) hL, r⟩
  have X5 : K.In h5 := fun b o z => k b o (fun z' => by rw [z', hKe] at z; cases z) (X4 b o z)
  obtain ⟨oD, esD, epD, hoD, hdD, _⟩ := hn5.count (Within.cons x u Within.nil)
  refine ks_wpAt_execs_cons (_root_.PySem.wpAt_of_wpAny (plainObj_wpAny_Assign_Attribute (ESX.ldL ns5 my (ESX.ldL ns5 ms ?_ hk hself hsd) hk hy hyd) rfl))
  refine set_plain X5 (od := some oD) ⟨hx5, rfl, rfl, hoD⟩ T.sa ?_
  refine OEX.osa_old X5 hx5 hn5 (Within.cons x u Within.nil) (by simp) hcl (show HandSPX.refsVE (.ref C :: bm) = true from hbm) rfl S.noat2 fun h' tk' kd hn => ?_
  refine _root_.PySem.wpAt_of_wpAny (wpAny_execs_nil ?_)
  exact hq h' tk' t1 dx (fun b o n z => kd b o (fun zb => by
    have z4 : h4.get? b = some o := F4.keep b o (k1 b o n z)
    have := Heap.lt_size z4
    rw [zb] at this
    exact absurd this (Nat.not_lt_of_le dn)) (k b o n (F4.keep b o (k1 b o n z)))) (Nat.le_trans (Nat.le_of_lt sz) dn) dne (kd _ _ (fun z => dne z.symm) hx5) hn
end
def tMkS2 (C : Addr) (f g : Str) (ta : TA) : L2.St → Hp → XK → Prop := fun σ H Q => ta σ H fun vs H1 => ∃ v w, vs = [v, w] ∧ ∀ d, H1 d = none → Q (.ref C) (some d) (upd H1 d (.xd [(g, w), (f, v)]))
section
variable {X : Cx} {F : Addr → Prop} {Wx : WX} {a b c e e2 : Expr} {es : List Expr} {pos p p' : Pos} {ta : TA} {x : Str} {C fI : Addr} {f g : Str}
theorem pmk_sup2 (T : OexC X.K C) (S : SupF2 X.prog X.K C fI f g) (iC : PySem.W.findIn X.K (.ref C) "__init__" = some (some (.ref fI))) (tI : PySem.W.typeIn X.K (.ref fI) = some (.type "function")) (hs : X.mg "super" = none) (hr : Room 1 X.A) (hg : Gl X x) (hm : X.mg x = some (.ref C)) (ha : PA X [e, e2] ta)
    (hdb : (x == ("__debug__" : Str)) = false := by decide) (he : starEach [e, e2] X.env = (false, eval e X.env) :: starEach [e2] X.env := by rfl) (hpl : (backTo pos (starEach [e2] X.env)).any (·.1) = false := by rfl) :
    PMk X (.Call (.Name x p) [e, e2] [] pos) (tMkS2 C f g ta) := by
  intro pins s σ H Q I h
  obtain ⟨nm, q, N, bs, bm, sn, sub, ab, col, dd, k0, k1, k2, k3, k5, hC, hbm⟩ := T.cls
  refine wpAny_Call_Name_kw (ld_glob I hg hm ?_ hdb)
  refine PySem.W.callWith_K (h₀ := X.base) I.ok.mod.kin T.kC (thn (ha.run pos pins s σ H _ I h) fun us s1 ⟨vs, H1, I1, r1, v, w, ev, q1⟩ => ⟨I1.kIn, ?_⟩) he hpl
  subst ev
  obtain ⟨u, z, rfl, ru, rz⟩ : ∃ u z, us = [u, z] ∧ RelV v u ∧ RelV w z := by
    cases r1 with
    | cons r rr =>
      cases rr with
      | cons r2 rr => cases rr; exact ⟨_, _, rfl, r, r2⟩
  show wpAny _ _ (call (.ref C) [u, z]) _ _ _
  obtain ⟨hp, g', dr, tk, os⟩ := s1
  have kk : ∀ b o, hp.get? b = some o → ((hp.push (PySem.W.kdv_tup [u, z])).push (PySem.HandSPX.excO C hp.objs.size)).get? b = some o := fun b o e => Heap.get?_push_of_some _ (Heap.get?_push_of_some _ e)
  have hget : ((hp.push (PySem.W.kdv_tup [u, z])).push (PySem.HandSPX.excO C hp.objs.size)).get? (hp.objs.size + 1) = some (PySem.HandSPX.excO C hp.objs.size) := by heap_get
  have kb : ∀ b o, X.base.get? b = some o → hp.get? b = some o := fun b o e => (I1.env0.bs b o e).1
  obtain ⟨mb, hmb, hbo⟩ := I1.ok.mod.blt
  refine wpAny_call (PySem.HandSPX.call_own F.excBase_ValueError (fun Y => PySem.HandSPX.refsVE_contains Y bm hbm) (I1.kIn _ _ hC) (PySem.W.looks_findIn I1.kIn iC) (fun self => PySem.W.bind_fn I1.kIn self tI) (by rw [sizeLine_eq]; show 2 ≤ _; omega) ?_)
  have KX := I1.kIn
  have hKe : X.K.lookup (hp.objs.size + 1) = none := by
    cases z : X.K.lookup (hp.objs.size + 1) with
    | none => rfl
    | some o => exact absurd (Heap.lt_size (KX _ _ z)) (by show ¬ (hp.objs.size + 1 < hp.objs.size); omega)
  refine sup_init2 (mg := X.mg) (mb := mb) (fun b o z => kk b o (KX b o z)) (((I1.ok.mod.glob).keeps kb).keeps kk) ((hmb.keeps kb).keeps kk) ((I1.ok.mod.nolimit.keeps kb).keeps kk) (hbo "super" (by decide)) hs S T hget hKe (hr.make C [u, z] []).depth fun h' tk' t1 dx k dn dne hx hn => ?_
  obtain ⟨k1', k2', k3', k4'⟩ := hide1 (h := h') (e := hp.objs.size + 1)
  have na : ∀ {b : Addr} {o : Obj}, hp.get? b = some o → b ≠ hp.objs.size + 1 := fun {b o} z => Nat.ne_of_lt (Nat.lt_succ_of_lt (Heap.lt_size z))
  have sz : hp.objs.size ≤ dx := Nat.le_trans (by simp [Heap.push]; omega) dn
  have hnd : H1 dx = none := I1.hok.fresh sz
  have J : Inv X pins σ (upd H1 dx (.xd [(g, w), (f, v)])) ⟨PySem.W.hideAll h' [hp.objs.size + 1], g', dr, tk', os⟩ := by
    refine I1.laid (a := dx) (o := .xd [(g, w), (f, v)]) (t' := tk') (fun b o z => k1' b o (na z) (k b o (na z) (kk b o z))) sz ?_
    exact ⟨_, hn.at fun o y => k1' dx o dne y, relO_put (fs := [(f, v)]) rz (relO_put (fs := []) ru fun g => True.intro)⟩
  refine ⟨rfl, hp.objs.size + 1, _, _, ⟨PySem.W.hideAll h' [hp.objs.size + 1], g', dr, tk', os⟩, _, .ref C, some dx, rfl, J, k2', k3', hx, ⟨rfl, rfl⟩, rfl, rfl, ?_, rfl, I1.bare, raises_own T.exC T.tyC, q1 dx hnd⟩
  rw [upd_ne (Ne.symm dne)]
  exact I1.hok.fresh (Nat.le_succ _)
/-- all that a raise of two fields asks -/
structure ErrC2 (P : Program) (K : PySem.W.Frag) (mg : Str → Option Value) (C f g : Str) : Prop where
  T : OexC K (ga K C)
  S : SupF2 P K (ga K C) (ma K (ga K C) "__init__") f g
  i : PySem.W.findIn K (.ref (ga K C)) "__init__" = some (some (.ref (ma K (ga K C) "__init__")))
  t : PySem.W.typeIn K (.ref (ma K (ga K C) "__init__")) = some (.type "function")
  s : mg "super" = none
  m : mg C = some (.ref (ga K C))
theorem SupD.errC2 {P : Program} {K : PySem.W.Frag} {mg : Str → Option Value} {d : SupD} {self y : Str} {a1 a2 a3 : Arg} {p0 p1 p2 p3 p4 p5 p6 p7 p8 p9 q3 q6 q7 q8 q9 : Pos} (e : fnE K (ma K (ga K d.cls) "__init__") = d.val) (c : d.ok K = true) (hP : ((P.main.file : Str) == d.file) = true) (hT : (P.main.scope.names.lookup ("super" : Str)).isSome = false) (hs : mg "super" = none) (hm : mg d.cls = some (.ref (ga K d.cls)))
    (no2 : PySem.W.findIn K (.ref (ga K d.cls)) y = some none)
    (hb : d.body = sup2Body self d.fld y p0 p1 p2 p3 p4 p5 p6 p7 p8 p9 q3 q6 q7 q8 q9)
    (hpo : d.params.posonlyargs = []) (hpa : d.params.args = [a1, a2, a3]) (h1 : a1.arg = self) (h2 : a2.arg = d.fld) (h3 : a3.arg = y)
    (bd : ∀ (kV doc pm : Value) (an : Option Addr) (cdv ct : Value) (cc : Addr) (us : List Value), us.length = 3 → bindArgs (PySem.W.ksFn "__init__" d.qual d.params d.body d.scope .none kV doc pm an cdv ct cc) ⟨us, []⟩ = pure ([self, d.fld, y].zip us))
    (k1 : ∀ n ∈ d.scope.names, n.2 ≠ .cell) (k2 : d.scope.names.lookup self = some .local) (k3 : d.scope.names.lookup d.fld = some .local) (k3' : d.scope.names.lookup y = some .local) (k4 : d.scope.names.lookup ("super" : Str) = some .globalImplicit) (k5 : d.scope.names.lookup ("__class__" : Str) = some .free)
    (k6 : d.scope.isCoroutine = false) (k7 : d.scope.isGenerator = false) (k8 : d.scope.kind = .function) (k9 : self ≠ d.fld) (k9' : self ≠ y) (k9'' : d.fld ≠ y) (k10 : (self == ("__debug__" : Str)) = false) (k11 : (d.fld == ("__debug__" : Str)) = false) (k11' : (y == ("__debug__" : Str)) = false) (k12 : (p2.endLine == p4.line) = true) : ErrC2 P K mg d.cls d.fld y := by
  obtain ⟨c1, c⟩ := He.ba c
  obtain ⟨c2, c⟩ := He.ba c
  obtain ⟨c3, c⟩ := He.ba c
  obtain ⟨c4, c⟩ := He.ba c
  obtain ⟨c5, c⟩ := He.ba c
  obtain ⟨c6, c⟩ := He.ba c
  obtain ⟨c7, c⟩ := He.ba c
  obtain ⟨c8, c⟩ := He.ba c
  obtain ⟨c9, c10⟩ := He.ba c
  have T := oexB_ok c2
  refine ⟨T, ⟨?_, of_decide_eq_true c5, He.eqO_ok c6, of_decide_eq_true c7, He.eqO_ok c8, He.eqO_ok c9, no2, hT, c10⟩, He.eqO_ok c3, of_decide_eq_true c4, hs, hm⟩
  obtain ⟨nm, q, N, bs, bm, sn, sub, ab, col, dd, j0, j1, j2, j3, j5, hC, hbm⟩ := T.cls
  have hcl : ∃ cdC, PySem.W.clsIn K (ga K d.cls) = some cdC := ⟨_, by unfold PySem.W.clsIn; rw [hC]⟩
  obtain ⟨cdC, hcl⟩ := hcl
  cases lk : K.lookup (ma K (ga K d.cls) "__init__") with
  | none => rw [lk] at c1; cases c1
  | some o =>
    obtain ⟨oc, od, dt, osl⟩ := o
    unfold fnE at e
    rw [lk] at c1 e
    cases dt with
    | func fd =>
      obtain ⟨n1, n2, n3, n4, n5, n6, n7, n8, n9, n10, n11, n12, n13, n14, n15⟩ := fd
      have e2 : (some (n1, n2, n3, n4, n5, n6, [], n15) : He.FnW) = some (("__init__" : Str), d.qual, d.params, FuncBody.stmts d.body, d.scope, mainGlobals, [], builtinsNs) := e
      injection e2 with e2
      injection e2 with h1' e2
      injection e2 with h2' e2
      injection e2 with h3' e2
      injection e2 with h4' e2
      injection e2 with h5' e2
      injection e2 with h6' e2
      injection e2 with h7' h8'
      subst h1' h2' h3' h4' h5' h6' h8'
      have c1 : supFn K (ga K d.cls) d.qual d.file _ = true := c1
      obtain ⟨cc, cl, cld, csl, cda, ccl, cdd, vs, ccs, tf, e1, lkc, e2, s6, lkd, hv, e3⟩ := supFn_ok c1
      dsimp only at e1 e2 e3
      subst e1 e2 e3
      rw [hb] at bd
      exact ⟨self, "__init__", d.qual, d.params, a1, a2, a3, p0, p1, p2, p3, p4, p5, p6, p7, p8, p9, q3, q6, q7, q8, q9, d.scope, .none, n9, n10, n11, n12, cda, n14, cc, oc, od, osl, ccl, cdd, vs, ccs, d.file, tf, cl, cld, csl, cdC,
        by rw [hb], s6, hpo, hpa, h1, h2, h3, fun us hl => bd _ _ _ _ _ _ _ us hl, lkd, hv, hP, lkc, hcl, k1, k2, k3, k3', k4, k5, k6, k7, k8, k9, k9', k9'', k10, k11, k11', k12⟩
    | _ => cases c1
end
section
variable {X : Cx} {F : Addr → Prop} {Wx : WX} {e e2 : Expr} {pos p p' : Pos} {i : IA} {C f g : Str}
def sRaise2 (C f g : Str) (i : IA) : IS := fun EI _ st => i EI st fun ws st1 => ∃ w z, ws = [w, z] ∧ EI ⟨C, [(g, z), (f, w)]⟩ st1
theorem s_raise2 (T : ErrC2 X.prog X.K X.mg C f g) (hr : Room 1 X.A) (tk : Takes X Wx) (ha : PA X [e, e2] (LA X.K F Wx 2 i)) (hc : X.calm = true := by rfl) (hg : Gl X C := by rfl)
    (hdb : (C == ("__debug__" : Str)) = false := by decide) (he : starEach [e, e2] X.env = (false, eval e X.env) :: starEach [e2] X.env := by rfl) (hpl : (backTo pos (starEach [e2] X.env)).any (·.1) = false := by rfl) :
    PS X (.Raise (some (.Call (.Name C p) [e, e2] [] pos)) none p') (LS X.K F Wx (sRaise2 C f g i)) := by
  refine ps_imp (ps_raise hc tk (pmk_sup2 T.T T.S T.i T.t T.s hr hg T.m ha hdb he hpl)) fun D σ H h => ?_
  obtain ⟨st, DI, EI, l, q, u⟩ := h
  refine ⟨st, _, EI, l, q, u.x, fun ws st1 vs H1 hn q1 l1 s1 r1 => ?_⟩
  obtain ⟨w, z, rfl, q1⟩ := q1
  cases r1 with
  | cons r rr =>
  cases rr with
  | cons r2 rr =>
  cases rr
  refine ⟨_, _, rfl, fun d hd => ?_⟩
  rename_i v v2
  have s2 : Step st1 σ H1 st1 σ (upd H1 d (.xd [(g, v2), (f, v)])) := Step.laid l1 hd
  exact u.x _ st1 _ _ _ q1 (l1.laid hd) (s1.trans s2) ⟨rfl, .inr ⟨d, _, rfl, upd_same, l1.fresh hd, .cons (r2.mono s2.mv) (.cons (r.mono s2.mv) .nil)⟩⟩
end
end Sh
namespace Sh
open PySem L2
open PyProof.Rows hiding St
section
open PySem.SeqAt PySem.AutoSeq1 PySem.MeetsSeq
theorem dict_eq_declines_tuple (l b : Addr) (es : Array DictEntry) (items2 : Array Value) (n n2 : Nat) (dd dd2 : Option Addr) (sl sl2 : Array (Option Value)) :
    Meets (Builtin.«dict.__eq__» ⟨[.ref l, .ref b], []⟩) (fun _ R s => s.heap.get? l = some { cls := .type "dict", dict := dd, data := .dict es n, slots := sl } ∧ s.heap.get? b = some { cls := .type "tuple", dict := dd2, data := .seq items2 n2, slots := sl2 } ∧ R (.ok (.ret .notImplemented)) s) :=
  .of_wp fun prog w A R s h => by obtain ⟨hp, g, d, tk, os⟩ := s; obtain ⟨hl, hb, h⟩ := h; have f1 := F.sub_tuple_dict; wp_walk using wpAny_loadPart' hl, wpAny_loadPart' hb; exact ⟨_, rfl, h⟩
theorem tuple_eq_declines_dict (l b : Addr) (es : Array DictEntry) (items2 : Array Value) (n n2 : Nat) (dd dd2 : Option Addr) (sl sl2 : Array (Option Value)) :
    Meets (Builtin.«tuple.__eq__» ⟨[.ref b, .ref l], []⟩) (fun _ R s => s.heap.get? l = some { cls := .type "dict", dict := dd, data := .dict es n, slots := sl } ∧ s.heap.get? b = some { cls := .type "tuple", dict := dd2, data := .seq items2 n2, slots := sl2 } ∧ R (.ok (.ret .notImplemented)) s) :=
  .of_wp fun prog w A R s h => by obtain ⟨hp, g, d, tk, os⟩ := s; obtain ⟨hl, hb, h⟩ := h; have f1 := F.sub_dict_tuple; wp_walk using wpAny_loadPart' hl, wpAny_loadPart' hb; exact ⟨_, rfl, h⟩
theorem rc_dict_tuple {prog : Program} {w : World} {A : Around} {s : Shared} {l b : Addr} {o : Obj} {es : Array DictEntry} {n : Nat} {items2 : Array Value} (ho : s.heap.get? l = some o) (hc : o.cls = .type "dict") (hd : o.data = .dict es n) (hb : s.heap.IsTuple b items2) (hu : A.units < cLine)
    (E Q : Value → Shared → Prop) (h : Q (.bool false) s) : wpAny (model prog w) A (richCompare .Eq (.ref l) (.ref b)) Q E s := by
  obtain ⟨cls, dd, data, sl⟩ := o
  obtain ⟨⟨cls2, dd2, data2, sl2⟩, ho2, hc2, n2, hd2⟩ := id hb
  simp only at hc hd hc2 hd2
  subst hc hd hc2 hd2
  have hne : l ≠ b := fun z => by
    rw [z, ho2] at ho
    injection ho with ho
    injection ho with h1
    exact absurd h1 (by simp)
  exact (rc_eq_decline_or (k := false) ⟨_, ho, rfl⟩ ⟨_, ho2, rfl⟩ (by decide) F.sub_tuple_dict F.slot_dict_eq F.slot_tuple_eq_refl
    (fun _ hq => call_meets F.slot_dict_eq ⟨_, ho, rfl⟩ F.entry_dict_eq (F.args_dict_eq_2 _ _) (dict_eq_declines_tuple l b es items2 n n2 dd dd2 sl sl2) ⟨ho, ho2, hq⟩)
    (fun _ hq => call_meets F.slot_tuple_eq_refl ⟨_, ho2, rfl⟩ F.entry_tuple_eq (F.args_tuple_eq_2 _ _) (tuple_eq_declines_dict l b es items2 n n2 dd dd2 sl sl2) ⟨ho, ho2, hq⟩)
    (fun _ hq => wpAny_isSame_ref_other hne ho ho2 (by simp) hq) (.inr hu) h)
end
def rEqT (K : PySem.W.Frag) : R2 := fun x y H Q => ∃ (a b : Addr) (ks : List (Key × V)) (ys : List V), x = .ref a ∧ y = .ref b ∧ H a = some (.dK ks) ∧ SqT K H b ys ∧ Q (.bl false) H
theorem op_eqT {X : Cx} (hu : X.A.units + 64 < cLine) : OpR X (compareOp .Eq) (rEqT X.K) := by
  intro pins s σ H x y v u Q I rx ry h
  obtain ⟨a, b, ks, ys, rfl, rfl, h1, h2, q⟩ := h
  cases (show v = Value.ref a from rx)
  cases (show u = Value.ref b from ry)
  obtain ⟨ws, r2, p2, _⟩ := I.tuple h2
  obtain ⟨_, ysm, va, kv, o, es, ep, ho, hex, hdat, _⟩ := (show ObjOk X.prog X.w H s.heap a (.dK ks) from I.hok a _ h1)
  exact rc_dict_tuple ho hex.1 hdat p2 (by omega) _ _ ⟨.bl false, H, I, rfl, q⟩
def gEqK : W → W → (W → Prop) → Prop := fun x y P => (∃ kvs ws, x = .dct kvs ∧ y = .tup ws ∧ P (.bl false)) ∨ gEqN x y P
def rEqKX (K : PySem.W.Frag) : R2 := fun x y H Q => rEqNX K x y H Q ∨ rEqT K x y H Q
theorem og_eqK {K : PySem.W.Frag} : OpG K (rEqKX K) gEqK := by
  intro F st σ H x y v u P Q h l rx ry k
  rcases h with ⟨kvs, ws, rfl, rfl, p⟩ | h
  · cases rx with
    | dct ea na ra =>
    cases ry with
    | tup f r => exact .inr ⟨_, _, _, _, rfl, rfl, ea, f.sq, k _ _ H p l .refl (.bl _)⟩
  · exact .inl (og_eqN h l rx ry k)
section
variable {X : Cx} {F : Addr → Prop} {Wx : WX} {a b e : Expr} {es : List Expr} {pos p : Pos} {ia ib : IE} {n : Nat} {i : IA}
theorem op_eqKX (hu : X.A.units + 64 < cLine) : OpR X (compareOp .Eq) (rEqKX X.K) := ((op_eqS hu).or ((op_eqN hu).or (op_eqL hu))).or (op_eqT hu)
theorem i_eqRK (hu : X.A.units + 64 < cLine) (ha : PE X a (LE X.K F Wx ia)) (hb : PE X b (LE X.K F Wx ib)) : PE X (.Compare a [.Eq] [b] pos) (LE X.K F Wx (iBR gEqK ia ib)) := by
  refine pe_imp (pe_cmpR (op_eqKX hu) ha hb (nomark _)) fun σ H Q h => ?_
  obtain ⟨st, QI, EI, l, q, ux, k⟩ := h
  refine ⟨st, _, EI, l, q, ux, fun x st1 v H1 q1 l1 s1 r1 => ⟨st1, _, EI, l1, q1, ux.step s1, fun y st2 u H2 q2 l2 s2 r2 => ?_⟩⟩
  refine og_eqK q2 l2.pk (drW_rel l2 (r1.mono s2.mv)) (drW_rel l2 r2) fun w z H3 p l3 s3 r3 => ?_
  obtain ⟨d, rfl, p⟩ := p
  cases r3
  obtain ⟨l4, s4⟩ := pk_back l2 s3
  exact k _ st2 _ H3 p l4 ((s1.trans s2).trans s4) (.bl d)
theorem i_reprRN (sys : sysB X.K = true) (hgd : X.A.guards = some []) (hu : X.A.units + 64 < cLine) (hm : X.mg "repr" = none) (ha : PA X (e :: es) (LA X.K F Wx n i)) (hg : Gl X "repr" := by rfl) (he : starEach (e :: es) X.env = (false, eval e X.env) :: starEach es X.env := by rfl) (hpl : (backTo pos (starEach es X.env)).any (·.1) = false := by rfl) :
    PE X (.Call (.Name "repr" p) (e :: es) [] pos) (LE X.K F Wx (iFnR gReprN i)) := pe_imp (pe_callB ((cr_repr hgd hu).or (cr_reprN sys hgd hu)) hg hm boot_repr' ha (by decide) (by decide) he hpl) fun σ H Q h => by
  obtain ⟨st, QI, EI, l, q, ux, k⟩ := h
  refine ⟨st, _, EI, l, q, ux, fun ws st1 vs H1 hn q1 l1 s1 r1 => ?_⟩
  refine bt_reprN q1 l1.pk (drWs_rel l1 r1) fun w z H2 p l2 s2 r2 => ?_
  obtain ⟨y, rfl, p⟩ := p
  cases r2
  obtain ⟨l3, s3⟩ := pk_back l1 s2
  exact k _ st1 _ H2 p l3 (s1.trans s3) (.str y)
end
end Sh
namespace LawC
open PySem PySem.Spec L2 Sh
open PyProof.Rows hiding St
end LawC
namespace Law0
open PySem PySem.Spec L2 Sh
open PyProof.Rows hiding St
open LawC
def top (i : Nat) : Stmt := PySem.Challenge.pw_pupilpairs_k84_orders_with_their_primes.main.body.getD i (.Pass ⟨0, 0, 0, 0⟩)
abbrev s_l_bag : Stmt := top 13
abbrev s_l_take : Stmt := top 14
abbrev s_l_one : Stmt := top 15
abbrev s_l7_divisor : Stmt := top 19
abbrev s_lk_alike : Stmt := top 16
abbrev s_p_common : Stmt := top 6
abbrev s_p_order_of : Stmt := top 9
abbrev s_p_primes_of : Stmt := top 8
abbrev s_pr_order_paper : Stmt := top 10
abbrev s_l7_told : Stmt := top 23
abbrev s_p_is_integer : Stmt := top 4
abbrev s_p_is_order_paper : Stmt := top 11
abbrev s_l7_order : Stmt := top 22
abbrev s_l7_is_prime : Stmt := top 21
abbrev s_l7_primes : Stmt := top 20
abbrev s_l7_odd : Stmt := top 18
abbrev s_l7_bent : Stmt := top 24
abbrev s_l7_truth : Stmt := top 17
abbrev s_law : Stmt := top 25
abbrev s_k_NoOrder : Stmt := clsBody (top 2) 0
abbrev R : PySem.W.OpenRow := PySem.W.OpenLaw.row PySem.Challenge.rw_pupilpairs_k84_orders_with_their_primes
def dd_l_bag : He.DefD := ⟨("_law_bag", none), "_law_bag", "_law_bag", defArgs s_l_bag, defBody s_l_bag, defScope s_l_bag, [], []⟩
def dd_l_take : He.DefD := ⟨("_law_take", none), "_law_take", "_law_take", defArgs s_l_take, defBody s_l_take, defScope s_l_take, [], []⟩
def dd_l_one : He.DefD := ⟨("_law_one", none), "_law_one", "_law_one", defArgs s_l_one, defBody s_l_one, defScope s_l_one, [], []⟩
def dd_l7_divisor : He.DefD := ⟨("_law_divisor", none), "_law_divisor", "_law_divisor", defArgs s_l7_divisor, defBody s_l7_divisor, defScope s_l7_divisor, [], []⟩
def dd_lk_alike : He.DefD := ⟨("_law_alike", none), "_law_alike", "_law_alike", defArgs s_lk_alike, defBody s_lk_alike, defScope s_lk_alike, [], []⟩
def dd_p_common : He.DefD := ⟨("common", none), "common", "common", defArgs s_p_common, defBody s_p_common, defScope s_p_common, [], []⟩
def dd_p_order_of : He.DefD := ⟨("order_of", none), "order_of", "order_of", defArgs s_p_order_of, defBody s_p_order_of, defScope s_p_order_of, [], []⟩
def dd_p_primes_of : He.DefD := ⟨("primes_of", none), "primes_of", "primes_of", defArgs s_p_primes_of, defBody s_p_primes_of, defScope s_p_primes_of, [], []⟩
def dd_pr_order_paper : He.DefD := ⟨("order_paper", none), "order_paper", "order_paper", defArgs s_pr_order_paper, defBody s_pr_order_paper, defScope s_pr_order_paper, [], []⟩
def dd_l7_told : He.DefD := ⟨("_law_told", none), "_law_told", "_law_told", defArgs s_l7_told, defBody s_l7_told, defScope s_l7_told, [], []⟩
def dd_p_is_integer : He.DefD := ⟨("is_integer", none), "is_integer", "is_integer", defArgs s_p_is_integer, defBody s_p_is_integer, defScope s_p_is_integer, [], []⟩
def dd_p_is_order_paper : He.DefD := ⟨("is_order_paper", none), "is_order_paper", "is_order_paper", defArgs s_p_is_order_paper, defBody s_p_is_order_paper, defScope s_p_is_order_paper, [], []⟩
def dd_l7_order : He.DefD := ⟨("_law_order", none), "_law_order", "_law_order", defArgs s_l7_order, defBody s_l7_order, defScope s_l7_order, [], []⟩
def dd_l7_is_prime : He.DefD := ⟨("_law_is_prime", none), "_law_is_prime", "_law_is_prime", defArgs s_l7_is_prime, defBody s_l7_is_prime, defScope s_l7_is_prime, [], []⟩
def dd_l7_primes : He.DefD := ⟨("_law_primes", none), "_law_primes", "_law_primes", defArgs s_l7_primes, defBody s_l7_primes, defScope s_l7_primes, [], []⟩
def dd_l7_odd : He.DefD := ⟨("_law_odd", none), "_law_odd", "_law_odd", defArgs s_l7_odd, defBody s_l7_odd, defScope s_l7_odd, [], []⟩
def dd_l7_bent : He.DefD := ⟨("_law_bent", none), "_law_bent", "_law_bent", defArgs s_l7_bent, defBody s_l7_bent, defScope s_l7_bent, [], []⟩
def dd_l7_truth : He.DefD := ⟨("_law_truth", none), "_law_truth", "_law_truth", defArgs s_l7_truth, defBody s_l7_truth, defScope s_l7_truth, [], []⟩
def dd_law : He.DefD := ⟨("law", none), "law", "law", defArgs s_law, defBody s_law, defScope s_law, [], []⟩
def fnA : List He.DefD := [dd_l_bag, dd_l_take, dd_l_one, dd_l7_divisor, dd_lk_alike, dd_p_common, dd_p_order_of, dd_p_primes_of, dd_pr_order_paper, dd_l7_told]
def fnB : List He.DefD := [dd_p_is_integer, dd_p_is_order_paper, dd_l7_order, dd_l7_is_prime, dd_l7_primes, dd_l7_odd, dd_l7_bent, dd_l7_truth, dd_law]
def fn : List He.DefD := fnA ++ fnB
def prL : List PrD := []
def sd_NoOrder : SupD := ⟨"NoOrder", "base", "NoOrder.__init__", defArgs s_k_NoOrder, defBody s_k_NoOrder, defScope s_k_NoOrder, PySem.Challenge.pw_pupilpairs_k84_orders_with_their_primes.main.file⟩
def spL : List SupD := [sd_NoOrder]
def fa0 : List He.Fa := [.glo "_law_bag", .glo "_law_take", .glo "_law_one", .glo "_law_divisor", .glo "_law_alike", .glo "common", .glo "order_of", .glo "primes_of", .glo "order_paper", .glo "_law_told", .glo "is_integer", .glo "is_order_paper", .glo "_law_order", .glo "_law_is_prime", .glo "_law_primes", .glo "_law_odd", .glo "_law_bent", .glo "_law_truth", .glo "law", .free "abs", .free "len", .free "int", .free "repr", .free "super", .free "isinstance", .free "bool", .free "tuple", .free "list", .free "all", .free "range", .free "enumerate", .glo "NoOrder", .glo "PupilError"]
def faA : List He.Fa := fa0
def faB : List He.Fa := []
def fa : List He.Fa := faA ++ faB
def lo0 : List Str := ["__name__", "PupilError", "NoOrder", "is_integer", "common", "primes_of", "order_of", "order_paper", "is_order_paper", "_law_bag", "_law_take", "_law_one", "_law_alike", "_law_truth", "_law_odd", "_law_divisor", "_law_primes", "_law_is_prime", "_law_order", "_law_told", "_law_bent"]
def loose : List Str := lo0
def tsL : List He.Tab := []
def exL (K : PySem.W.Frag) : Bool := sysB K && He.eqO (PySem.W.findIn K (.ref (He.ga K "NoOrder")) "modulus") (some none) && catFB K ["NoOrder"] "PupilError" && isEFB K ["NoOrder"] ["NoOrder"] && xfFB K ["NoOrder"] "modulus" && xfFB K ["NoOrder"] "base" && true
abbrev hkL : PySem.W.Hook := hookS 4 fa fn tsL [] exL prL spL
def obL (s : PySem.W.SharedT) : AlS := obsS 4 fa fn tsL [] exL prL spL (HandSHeadRun.getT s)
theorem obL_eq (s : PySem.W.SharedT) : obL s = hkL.obs s.abs := obsS_eq (HandSHeadRun.getT_eq s)
theorem runF (w : World) : HandSHeadRun.RunEq R (PySem.W.view R.prog [25]) hkL obL 8000 loose (w.withFollow "special-get-raises" false) := by
  intro os
  kernel_rfl
theorem runT (w : World) : HandSHeadRun.RunEq R (PySem.W.view R.prog [25]) hkL obL 8000 loose (w.withFollow "special-get-raises" true) := by
  intro os
  kernel_rfl
theorem run (w : World) : HandSHeadRun.RunEq R (PySem.W.view R.prog [25]) hkL obL 8000 loose w :=
  PySem.W.byRow2 "special-get-raises" (P := fun w => HandSHeadRun.RunEq R (PySem.W.view R.prog [25]) hkL obL 8000 loose w) runF runT w
end Law0
namespace Sh
open PySem L2
open PyProof.Rows hiding St
theorem Sto.put_put {S : Sto} {a : Addr} {o o' : SO} : (S.put a o).put a o' = S.put a o' := by
  funext b
  unfold Sto.put
  split <;> rfl
theorem atI_0 {α : Type} {x : α} {xs : List α} : atI (x :: xs) 0 = some x := by
  unfold atI ixN
  rw [if_pos (by omega), if_pos (by rw [List.length_cons]; omega)]
  rfl
theorem atI_nat {α : Type} {xs : List α} {i : Nat} (h : i < xs.length) : atI xs (i : Int) = some xs[i] := by
  unfold atI ixN
  rw [if_pos (by omega), if_pos (by omega)]
  simp [h]
theorem atI_pos {α : Type} {xs : List α} {i : Int} (h0 : 0 ≤ i) (h : i < xs.length) : atI xs i = some (xs[i.toNat]'(by omega)) := by
  have e := atI_nat (xs := xs) (i := i.toNat) (by omega)
  rw [Int.toNat_of_nonneg h0] at e
  exact e
theorem atI_1 {α : Type} {x y : α} {xs : List α} : atI (x :: y :: xs) 1 = some y := by
  unfold atI ixN
  rw [if_pos (by omega), if_pos (by simp only [List.length_cons]; omega)]
  rfl
theorem atI_2 {α : Type} {x y z : α} {xs : List α} : atI (x :: y :: z :: xs) 2 = some z := by
  unfold atI ixN
  rw [if_pos (by omega), if_pos (by simp only [List.length_cons]; omega)]
  rfl
theorem atI_3 {α : Type} {x y z u : α} {xs : List α} : atI (x :: y :: z :: u :: xs) 3 = some u := by
  unfold atI ixN
  rw [if_pos (by omega), if_pos (by simp only [List.length_cons]; omega)]
  rfl
theorem ixN_4_0 : ixN (0 + 1 + 1 + 1 + 1) 0 = some 0 := rfl
theorem ixN_4_1 : ixN (0 + 1 + 1 + 1 + 1) 1 = some 1 := rfl
theorem ixN_4_2 : ixN (0 + 1 + 1 + 1 + 1) 2 = some 2 := rfl
theorem ixN_4_3 : ixN (0 + 1 + 1 + 1 + 1) 3 = some 3 := rfl
theorem toNat_2 : Int.toNat 2 = 2 := rfl
section
variable {α : Type} {a b c d : α}
theorem cut_13 : cutW [a, b, c, d] (some 1) (some 3) = [b, c] := rfl
theorem cut_1_2 : cutW [a, b] (some 1) none = [b] := rfl
theorem cut_1_3 : cutW [a, b, c] (some 1) none = [b, c] := rfl
theorem cut_m2 : cutW [a, b] none (some (-1)) = [a] := rfl
theorem cut_m3 : cutW [a, b, c] none (some (-1)) = [a, b] := rfl
theorem cut_m4 : cutW [a, b, c, d] none (some (-1)) = [a, b, c] := rfl
theorem atI_m2 : atI [a, b] (-1) = some b := rfl
theorem atI_m3 : atI [a, b, c] (-1) = some c := rfl
theorem atI_m4 : atI [a, b, c, d] (-1) = some d := rfl
end
theorem fz_val (w : W) : (R.val w).fz = w := rfl
theorem fz_new (o : SO) : (R.new o).fz = o.fz := rfl
theorem so_lst (ws : List W) : (SO.lst ws).fz = .lst ws := rfl
theorem so_dct (ws : List (Key × W)) : (SO.dct ws).fz = .dct ws := rfl
theorem so_ins (C) (ws : List (Str × W)) : (SO.ins C ws).fz = .obj C ws := rfl
section
variable {i j : Int} {x y : Str} {ws vs : List W} {v w : W} {a b : Bool} {n : Nat}
theorem eqW_ii : eqW (.int i) (.int j) = (i == j) := rfl
theorem eqW_ss : eqW (.str x) (.str y) = (x == y) := rfl
theorem eqW_tt : eqW (.tup ws) (.tup vs) = eqWs ws vs := rfl
theorem eqW_ll : eqW (.lst ws) (.lst vs) = eqWs ws vs := rfl
theorem eqW_nn : eqW .non .non = true := rfl
theorem eqW_bb : eqW (.bl a) (.bl b) = (a == b) := rfl
theorem eqW_ni : eqW .non (.int j) = false := rfl
theorem eqW_in : eqW (.int j) .non = false := rfl
theorem eqW_nt : eqW .non (.tup ws) = false := rfl
theorem eqW_tn : eqW (.tup ws) .non = false := rfl
theorem eqW_nl : eqW .non (.lst ws) = false := rfl
theorem eqW_ln : eqW (.lst ws) .non = false := rfl
theorem eqW_is : eqW (.int i) (.str x) = false := rfl
theorem eqW_si : eqW (.str x) (.int i) = false := rfl
theorem eqWs_nil : eqWs [] [] = true := rfl
theorem eqWs_cons : eqWs (v :: vs) (w :: ws) = (eqW v w && eqWs vs ws) := rfl
theorem eqWs_nc : eqWs [] (w :: ws) = false := rfl
theorem eqWs_cn : eqWs (w :: ws) [] = false := rfl
theorem okD_int : okD n (.int i) = true := by cases n <;> rfl
theorem okD_str : okD n (.str x) = PyData.strOk x := by cases n <;> rfl
theorem okD_bl : okD n (.bl a) = true := by cases n <;> rfl
theorem okD_non : okD n .non = true := by cases n <;> rfl
theorem okD_tup : okD (n + 1) (.tup ws) = ws.all (okD n) := rfl
theorem okD_lst : okD (n + 1) (.lst ws) = ws.all (okD n) := rfl
theorem eqOk_ii : eqOk (.int i) (.int j) = true := rfl
theorem eqOk_ss : eqOk (.str x) (.str y) = true := rfl
theorem eqOk_nn : eqOk .non .non = true := rfl
theorem eqOk_bb : eqOk (.bl a) (.bl b) = true := rfl
theorem eqOk_in : eqOk (.int i) .non = true := rfl
theorem eqOk_ni : eqOk .non (.int i) = true := rfl
theorem eqOk_tt : eqOk (.tup ws) (.tup vs) = (okD 64 (.tup ws) && okD 64 (.tup vs)) := rfl
theorem eqOk_ll : eqOk (.lst ws) (.lst vs) = (okD 64 (.lst ws) && okD 64 (.lst vs)) := rfl
theorem flatW_int : flatW (.int i) = true := rfl
theorem flatW_str : flatW (.str x) = true := rfl
theorem flatW_bl : flatW (.bl a) = true := rfl
theorem flatW_non : flatW .non = true := rfl
end
/-- a statement, then the rest, by name -/
theorem seq_go {p q : IS} {EI : XI} {D : IEnds} {st : Stt} (h : ∀ nx : Stt → Prop, nx = q EI D → p EI { D with nx := nx } st) : sSeq p q EI D st := h _ rfl
theorem lk_self {α : Type} (x : Str) (v : α) (r : List (Str × α)) : List.lookup x ((x, v) :: r) = some v := by rw [List.lookup_cons, beq_self_eq_true]
theorem lk_ne {α : Type} {x y : Str} (v : α) (r : List (Str × α)) (h : (x == y) = false) : List.lookup x ((y, v) :: r) = List.lookup x r := by rw [List.lookup_cons, h]
def IsBag (o : SO) : Prop := ∃ (n0 n1 n2 : Int) (cs : List Int), o = .lst [.int n0, .int n1, .int n2, .lst (cs.map .int)] ∧ 0 ≤ n0 ∧ 0 ≤ n1 ∧ n1 < 2147483647 ∧ 0 ≤ n2 ∧ ∀ c ∈ cs, 0 ≤ c
theorem Sto.put_eta {S : Sto} {a : Addr} {o : SO} (h : S a = some o) : S.put a o = S := by
  funext b
  unfold Sto.put
  split
  · rename_i e; rw [e, h]
  · rfl
theorem ifb {c : Bool} {P Q : Prop} (h1 : c = true → P) (h2 : c = false → Q) : if c = true then P else Q := by
  cases c
  · rw [if_neg Bool.false_ne_true]; exact h2 rfl
  · rw [if_pos rfl]; exact h1 rfl
theorem ifT {c : Bool} {P Q : Prop} (h : c = true) (p : P) : if c = true then P else Q := ifb (fun _ => p) fun z => by rw [h] at z; cases z
theorem ifF {c : Bool} {P Q : Prop} (h : c = false) (p : Q) : if c = true then P else Q := ifb (fun z => by rw [h] at z; cases z) fun _ => p
theorem seq_cut {p q : IS} {EI : XI} {D : IEnds} {st : Stt} (M : Stt → Prop) (h1 : ∀ nx : Stt → Prop, (∀ st, M st → nx st) → p EI { D with nx := nx } st) (h2 : ∀ st, M st → q EI D st) : sSeq p q EI D st := h1 _ h2
theorem seq_step {p q : IS} {EI : XI} {D : IEnds} {st : Stt} (st' : Stt) (h1 : ∀ nx : Stt → Prop, nx st' → p EI { D with nx := nx } st) (h2 : q EI D st') : sSeq p q EI D st := h1 _ h2
theorem for_same {g : IG} {body : IS} {EI : XI} {D : IEnds} (I : Stt → Prop) : ∀ (ws : List W) (st : Stt), I st → (∀ st, I st → D.nx st) →
    (∀ w ∈ ws, ∀ st (nx : Stt → Prop), I st → (∀ st', I st' → nx st') → g w st fun st1 => body EI { nx := nx, ct := nx, bk := D.nx, rt := D.rt } st1) → forGo g body EI D ws st
  | [], st, h0, hd, _ => hd st h0
  | w :: ws, st, h0, hd, hs => hs w (List.mem_cons_self ..) st (forGo g body EI D ws) h0 fun st' h' => for_same I ws st' h' hd fun w' hw => hs w' (List.mem_cons_of_mem _ hw)
def sp_l_take : ISp := fun ws S Q E => ∃ a n o, ws = [.ref a, .int n] ∧ 0 < n ∧ Bd n ∧ S a = some o ∧ IsBag o ∧ ∀ r o', 0 ≤ r → r < n → IsBag o' → Q (.val (.int r)) (S.put a o')
def ib_l_take : IS := (sSeq (sIf (tBl (iB gEq (iIx (iVar 0) (iC (.int 0))) (iC (.int 0)))) (sSeq (sSet 2 (iC (.int 0)))
    (sSeq (sIf (tBl (iB gLt (iIx (iVar 0) (iC (.int 2))) (iFn gLen (iCons (iIx (iVar 0) (iC (.int 3))) iNil)))) (sSet 2 (iIx (iIx (iVar 0) (iC (.int 3))) (iIx (iVar 0) (iC (.int 2))))) sNext)
    (sSeq (sAugS 0 (· + ·) (iC (.int 2)) (iC (.int 1)))
    (sSeq (sIf (tBl (iB gGe (iVar 2) (iC (.int 1000000000000000000)))) (sIxS 0 (iC (.int 0)) (iVar 2)) sNext)
    (sSeq (sSet 3 (iB gAdd (iB gAdd (iB gMul (iIx (iVar 0) (iC (.int 1))) (iC (.int 48271))) (iB gMod (iFn gInt (iCons (iVar 2) iNil)) (iC (.int 2147483647)))) (iB gMul (iC (.int 7919)) (iIx (iVar 0) (iC (.int 2))))))
    (sIxS 0 (iC (.int 1)) (iB gMod (iFn gInt (iCons (iVar 3) iNil)) (iC (.int 2147483647))))))))) sNext)
  (sSeq (sIf (tBl (iB gGt (iIx (iVar 0) (iC (.int 0))) (iC (.int 0)))) (sSeq (sSet 4 (iB gMod (iFn gInt (iCons (iIx (iVar 0) (iC (.int 0))) iNil)) (iVar 1)))
    (sSeq (sIxS 0 (iC (.int 0)) (iB gDiv (iFn gInt (iCons (iIx (iVar 0) (iC (.int 0))) iNil)) (iVar 1)))
    (sRet (iVar 4)))) sNext)
  (sSeq (sSet 5 (iB gMod (iFn gInt (iCons (iB gMul (iB gAdd (iIx (iVar 0) (iC (.int 1))) (iC (.int 1))) (iC (.int 39373))) iNil)) (iC (.int 1000000007))))
  (sSeq (sSet 6 (iB gMod (iFn gInt (iCons (iB gMul (iB gMod (iFn gInt (iCons (iB gMul (iVar 5) (iVar 5)) iNil)) (iC (.int 998244353))) (iC (.int 30011))) iNil)) (iC (.int 998244353))))
  (sRet (iB gMod (iFn gInt (iCons (iB gDiv (iVar 6) (iC (.int 7))) iNil)) (iVar 1)))))))
abbrev bagO (n0 n1 n2 : Int) (cs : List Int) : SO := .lst [.int n0, .int n1, .int n2, .lst (cs.map .int)]
theorem ok_l_take (ws : List W) (S : Sto) (Q : R → Sto → Prop) (E : Exn → Sto → Prop) (h : sp_l_take ws S Q E) : bodyI 7 ib_l_take ws S Q E := by
  obtain ⟨a, n, o, rfl, hn, bn, ha, ⟨n0, n1, n2, cs, rfl, h0, h1, h2, h3, h4⟩, q⟩ := h
  unfold ib_l_take
  show sSeq _ _ _ _ ⟨[.val (.ref a), .val (.int n), .none, .none, .none, .none, .none], S⟩
  refine seq_cut (fun st => ∃ n0 n1 n2 x2 x3, st = ⟨[.val (.ref a), .val (.int n), x2, x3, .none, .none, .none], S.put a (bagO n0 n1 n2 cs)⟩ ∧ 0 ≤ n0 ∧ 0 ≤ n1 ∧ n1 < 2147483647 ∧ 0 ≤ n2) (fun nx k => ?_) (fun st ⟨n0, n1, n2, x2, x3, e, h0, h1, h2, h3⟩ => ?_)
  · simp only [sIf, tBl, iB, iIx, iVar, iC, gIx, ha, atI_0, gEq, okD, eqOk, Bool.and_true, eqW, atW, List.getElem?_cons_zero, true_and]
    refine ifb (fun c => ?_) (fun c => ?_)
    · refine seq_step _ (fun nx h => h) ?_
      refine seq_cut (fun st => ∃ c : Int, 0 ≤ c ∧ st = ⟨[.val (.ref a), .val (.int n), .val (.int c), .none, .none, .none, .none], S⟩) (fun nx k => ?_) (fun st ⟨c, hc, e⟩ => ?_)
      · simp only [bodyI, start0, sSeq, sNext, sNever, sCont, sBreak, sDrop, sRet, sRetN, sRet0, sRetO, sIf, sSet, sSetN, sSetP, sPar, sParEN, sParNE, sPar3, sAsg, gNm, gsNil, gsCons, gTp, sAugI, sIxO, sIxS, sAugS, stoL, setW, iVar, iC, iNil, iCons, iTup, iLst, nLst, iFz, iB, gAdd, gI, gIC, gSub, gMul, gDiv, gMod, gPow, gLt, gLe, gGt, gGe, gEq, gNe, gIn, gIsN, isN, iNeg, tTru', gTru, tBl, iChain, tAnd', tOr', tNot', tYes', iIf, iAnd, iOr, iNot, iIx, gIx, atW, iIxO, ownL, oNone, oSome, iSl, gSl, iRevL, iCall, nCall, iFn, Sh.R.fz, SO.fz, Stt.put, Stt.puts, iMtO, gAppend, gInsert, gExtend, gLen, iLenO, gAbs, gInt, gMinMax, gList, gTuple, iListRg, gIsi, tyN, gRepr, flatW, eqW, okD, eqOk, cut_13, cut_1_2, cut_1_3, cut_m2, cut_m3, cut_m4, atI_m2, atI_m3, atI_m4, iOfT, tKdIn, iKdIx, atI_0, atI_1, atI_2, atI_3, ixN_4_0, ixN_4_1, ixN_4_2, ixN_4_3, Sto.put_same, Sto.put_put, toNat_2, List.map, List.replicate, List.length_cons, List.length_nil, List.getElem?_cons_zero, List.getElem?_cons_succ, List.getElem?_nil, List.set_cons_zero, List.set_cons_succ, List.set_nil, List.cons_append, List.nil_append, List.append_nil, if_true, if_false, ha]
        refine ifb (fun z => ?_) (fun z => ?_)
        · have z2 : n2 < (cs.length : Int) := by simpa using z
          have e : atI (cs.map W.int) n2 = some (.int (cs[n2.toNat]'(by omega))) := by
            rw [atI_pos h3 (by simpa using z2)]
            simp
          simp only [atW, e]
          exact k _ ⟨_, h4 _ (List.getElem_mem _), rfl⟩
        · exact k _ ⟨0, by omega, rfl⟩
      · subst e
        refine seq_step ⟨[.val (.ref a), .val (.int n), .val (.int c), .none, .none, .none, .none], S.put a (bagO n0 n1 (n2 + 1) cs)⟩ (fun nx h => ?_) ?_
        · simp only [bodyI, start0, sSeq, sNext, sNever, sCont, sBreak, sDrop, sRet, sRetN, sRet0, sRetO, sIf, sSet, sSetN, sSetP, sPar, sParEN, sParNE, sPar3, sAsg, gNm, gsNil, gsCons, gTp, sAugI, sIxO, sIxS, sAugS, stoL, setW, iVar, iC, iNil, iCons, iTup, iLst, nLst, iFz, iB, gAdd, gI, gIC, gSub, gMul, gDiv, gMod, gPow, gLt, gLe, gGt, gGe, gEq, gNe, gIn, gIsN, isN, iNeg, tTru', gTru, tBl, iChain, tAnd', tOr', tNot', tYes', iIf, iAnd, iOr, iNot, iIx, gIx, atW, iIxO, ownL, oNone, oSome, iSl, gSl, iRevL, iCall, nCall, iFn, Sh.R.fz, SO.fz, Stt.put, Stt.puts, iMtO, gAppend, gInsert, gExtend, gLen, iLenO, gAbs, gInt, gMinMax, gList, gTuple, iListRg, gIsi, tyN, gRepr, flatW, eqW, okD, eqOk, cut_13, cut_1_2, cut_1_3, cut_m2, cut_m3, cut_m4, atI_m2, atI_m3, atI_m4, iOfT, tKdIn, iKdIx, atI_0, atI_1, atI_2, atI_3, ixN_4_0, ixN_4_1, ixN_4_2, ixN_4_3, Sto.put_same, Sto.put_put, toNat_2, List.map, List.replicate, List.length_cons, List.length_nil, List.getElem?_cons_zero, List.getElem?_cons_succ, List.getElem?_nil, List.set_cons_zero, List.set_cons_succ, List.set_nil, List.cons_append, List.nil_append, List.append_nil, if_true, if_false, ha]
          exact ⟨by decide, by decide, h⟩
        · refine seq_cut (fun st => ∃ n0, 0 ≤ n0 ∧ st = ⟨[.val (.ref a), .val (.int n), .val (.int c), .none, .none, .none, .none], S.put a (bagO n0 n1 (n2 + 1) cs)⟩) (fun nx k => ?_) (fun st ⟨n0, hc, e⟩ => ?_)
          · simp only [bodyI, start0, sSeq, sNext, sNever, sCont, sBreak, sDrop, sRet, sRetN, sRet0, sRetO, sIf, sSet, sSetN, sSetP, sPar, sParEN, sParNE, sPar3, sAsg, gNm, gsNil, gsCons, gTp, sAugI, sIxO, sIxS, sAugS, stoL, setW, iVar, iC, iNil, iCons, iTup, iLst, nLst, iFz, iB, gAdd, gI, gIC, gSub, gMul, gDiv, gMod, gPow, gLt, gLe, gGt, gGe, gEq, gNe, gIn, gIsN, isN, iNeg, tTru', gTru, tBl, iChain, tAnd', tOr', tNot', tYes', iIf, iAnd, iOr, iNot, iIx, gIx, atW, iIxO, ownL, oNone, oSome, iSl, gSl, iRevL, iCall, nCall, iFn, Sh.R.fz, SO.fz, Stt.put, Stt.puts, iMtO, gAppend, gInsert, gExtend, gLen, iLenO, gAbs, gInt, gMinMax, gList, gTuple, iListRg, gIsi, tyN, gRepr, flatW, eqW, okD, eqOk, cut_13, cut_1_2, cut_1_3, cut_m2, cut_m3, cut_m4, atI_m2, atI_m3, atI_m4, iOfT, tKdIn, iKdIx, atI_0, atI_1, atI_2, atI_3, ixN_4_0, ixN_4_1, ixN_4_2, ixN_4_3, Sto.put_same, Sto.put_put, toNat_2, List.map, List.replicate, List.length_cons, List.length_nil, List.getElem?_cons_zero, List.getElem?_cons_succ, List.getElem?_nil, List.set_cons_zero, List.set_cons_succ, List.set_nil, List.cons_append, List.nil_append, List.append_nil, if_true, if_false]
            refine ifb (fun z => ?_) (fun z => ?_)
            · exact k _ ⟨c, hc, rfl⟩
            · exact k _ ⟨n0, h0, rfl⟩
          · subst e
            refine seq_step ?s (fun nx h => ?a) ?b
            case a =>
              simp only [bodyI, start0, sSeq, sNext, sNever, sCont, sBreak, sDrop, sRet, sRetN, sRet0, sRetO, sIf, sSet, sSetN, sSetP, sPar, sParEN, sParNE, sPar3, sAsg, gNm, gsNil, gsCons, gTp, sAugI, sIxO, sIxS, sAugS, stoL, setW, iVar, iC, iNil, iCons, iTup, iLst, nLst, iFz, iB, gAdd, gI, gIC, gSub, gMul, gDiv, gMod, gPow, gLt, gLe, gGt, gGe, gEq, gNe, gIn, gIsN, isN, iNeg, tTru', gTru, tBl, iChain, tAnd', tOr', tNot', tYes', iIf, iAnd, iOr, iNot, iIx, gIx, atW, iIxO, ownL, oNone, oSome, iSl, gSl, iRevL, iCall, nCall, iFn, Sh.R.fz, SO.fz, Stt.put, Stt.puts, iMtO, gAppend, gInsert, gExtend, gLen, iLenO, gAbs, gInt, gMinMax, gList, gTuple, iListRg, gIsi, tyN, gRepr, flatW, eqW, okD, eqOk, cut_13, cut_1_2, cut_1_3, cut_m2, cut_m3, cut_m4, atI_m2, atI_m3, atI_m4, iOfT, tKdIn, iKdIx, atI_0, atI_1, atI_2, atI_3, ixN_4_0, ixN_4_1, ixN_4_2, ixN_4_3, Sto.put_same, Sto.put_put, toNat_2, List.map, List.replicate, List.length_cons, List.length_nil, List.getElem?_cons_zero, List.getElem?_cons_succ, List.getElem?_nil, List.set_cons_zero, List.set_cons_succ, List.set_nil, List.cons_append, List.nil_append, List.append_nil, if_true, if_false]
              refine ⟨.inr (.inr (by omega)), by omega, .inr (.inl (by omega)), ?_⟩
              exact h
            case b =>
              simp only [bodyI, start0, sSeq, sNext, sNever, sCont, sBreak, sDrop, sRet, sRetN, sRet0, sRetO, sIf, sSet, sSetN, sSetP, sPar, sParEN, sParNE, sPar3, sAsg, gNm, gsNil, gsCons, gTp, sAugI, sIxO, sIxS, sAugS, stoL, setW, iVar, iC, iNil, iCons, iTup, iLst, nLst, iFz, iB, gAdd, gI, gIC, gSub, gMul, gDiv, gMod, gPow, gLt, gLe, gGt, gGe, gEq, gNe, gIn, gIsN, isN, iNeg, tTru', gTru, tBl, iChain, tAnd', tOr', tNot', tYes', iIf, iAnd, iOr, iNot, iIx, gIx, atW, iIxO, ownL, oNone, oSome, iSl, gSl, iRevL, iCall, nCall, iFn, Sh.R.fz, SO.fz, Stt.put, Stt.puts, iMtO, gAppend, gInsert, gExtend, gLen, iLenO, gAbs, gInt, gMinMax, gList, gTuple, iListRg, gIsi, tyN, gRepr, flatW, eqW, okD, eqOk, cut_13, cut_1_2, cut_1_3, cut_m2, cut_m3, cut_m4, atI_m2, atI_m3, atI_m4, iOfT, tKdIn, iKdIx, atI_0, atI_1, atI_2, atI_3, ixN_4_0, ixN_4_1, ixN_4_2, ixN_4_3, Sto.put_same, Sto.put_put, toNat_2, List.map, List.replicate, List.length_cons, List.length_nil, List.getElem?_cons_zero, List.getElem?_cons_succ, List.getElem?_nil, List.set_cons_zero, List.set_cons_succ, List.set_nil, List.cons_append, List.nil_append, List.append_nil, if_true, if_false]
              refine ⟨by omega, k _ ⟨_, _, _, _, _, rfl, hc, Int.emod_nonneg _ (by omega), Int.emod_lt_of_pos _ (by omega), by omega⟩⟩
    · exact k _ ⟨n0, n1, n2, .none, .none, by rw [Sto.put_eta ha], h0, h1, h2, h3⟩
  · subst e
    refine seq_cut (fun st => st = ⟨[.val (.ref a), .val (.int n), x2, x3, .none, .none, .none], S.put a (bagO n0 n1 n2 cs)⟩) (fun nx k => ?_) (fun st e => ?_)
    · simp only [bodyI, start0, sSeq, sNext, sNever, sCont, sBreak, sDrop, sRet, sRetN, sRet0, sRetO, sIf, sSet, sSetN, sSetP, sPar, sParEN, sParNE, sPar3, sAsg, gNm, gsNil, gsCons, gTp, sAugI, sIxO, sIxS, sAugS, stoL, setW, iVar, iC, iNil, iCons, iTup, iLst, nLst, iFz, iB, gAdd, gI, gIC, gSub, gMul, gDiv, gMod, gPow, gLt, gLe, gGt, gGe, gEq, gNe, gIn, gIsN, isN, iNeg, tTru', gTru, tBl, iChain, tAnd', tOr', tNot', tYes', iIf, iAnd, iOr, iNot, iIx, gIx, atW, iIxO, ownL, oNone, oSome, iSl, gSl, iRevL, iCall, nCall, iFn, Sh.R.fz, SO.fz, Stt.put, Stt.puts, iMtO, gAppend, gInsert, gExtend, gLen, iLenO, gAbs, gInt, gMinMax, gList, gTuple, iListRg, gIsi, tyN, gRepr, flatW, eqW, okD, eqOk, cut_13, cut_1_2, cut_1_3, cut_m2, cut_m3, cut_m4, atI_m2, atI_m3, atI_m4, iOfT, tKdIn, iKdIx, atI_0, atI_1, atI_2, atI_3, ixN_4_0, ixN_4_1, ixN_4_2, ixN_4_3, Sto.put_same, Sto.put_put, toNat_2, List.map, List.replicate, List.length_cons, List.length_nil, List.getElem?_cons_zero, List.getElem?_cons_succ, List.getElem?_nil, List.set_cons_zero, List.set_cons_succ, List.set_nil, List.cons_append, List.nil_append, List.append_nil, if_true, if_false]
      refine ifb (fun z => ?_) (fun z => k _ rfl)
      refine ⟨hn, ⟨hn, bn⟩, q _ _ (Int.emod_nonneg _ (by omega)) (Int.emod_lt_of_pos _ hn) ⟨_, _, _, _, rfl, Int.ediv_nonneg h0 (by omega), h1, h2, h3, h4⟩⟩
    · subst e
      simp only [bodyI, start0, sSeq, sNext, sNever, sCont, sBreak, sDrop, sRet, sRetN, sRet0, sRetO, sIf, sSet, sSetN, sSetP, sPar, sParEN, sParNE, sPar3, sAsg, gNm, gsNil, gsCons, gTp, sAugI, sIxO, sIxS, sAugS, stoL, setW, iVar, iC, iNil, iCons, iTup, iLst, nLst, iFz, iB, gAdd, gI, gIC, gSub, gMul, gDiv, gMod, gPow, gLt, gLe, gGt, gGe, gEq, gNe, gIn, gIsN, isN, iNeg, tTru', gTru, tBl, iChain, tAnd', tOr', tNot', tYes', iIf, iAnd, iOr, iNot, iIx, gIx, atW, iIxO, ownL, oNone, oSome, iSl, gSl, iRevL, iCall, nCall, iFn, Sh.R.fz, SO.fz, Stt.put, Stt.puts, iMtO, gAppend, gInsert, gExtend, gLen, iLenO, gAbs, gInt, gMinMax, gList, gTuple, iListRg, gIsi, tyN, gRepr, flatW, eqW, okD, eqOk, cut_13, cut_1_2, cut_1_3, cut_m2, cut_m3, cut_m4, atI_m2, atI_m3, atI_m4, iOfT, tKdIn, iKdIx, atI_0, atI_1, atI_2, atI_3, ixN_4_0, ixN_4_1, ixN_4_2, ixN_4_3, Sto.put_same, Sto.put_put, toNat_2, List.map, List.replicate, List.length_cons, List.length_nil, List.getElem?_cons_zero, List.getElem?_cons_succ, List.getElem?_nil, List.set_cons_zero, List.set_cons_succ, List.set_nil, List.cons_append, List.nil_append, List.append_nil, if_true, if_false]
      refine ⟨.inr (.inr (by omega)), by omega, .inr (.inl ⟨?_, ?_⟩), by omega, .inr (.inr (by omega)), by omega, ⟨by omega, by unfold Bd lim; omega⟩, hn, ?_⟩
      · have := Int.emod_nonneg ((n1 + 1) * 39373) (show (1000000007 : Int) ≠ 0 by omega); omega
      · have := Int.emod_lt_of_pos ((n1 + 1) * 39373) (show (0 : Int) < 1000000007 by omega); omega
      · exact q _ _ (Int.emod_nonneg _ (by omega)) (Int.emod_lt_of_pos _ hn) ⟨_, _, _, _, rfl, h0, h1, h2, h3, h4⟩
def stepQ (g : IG) (t : IT) (ie : IE) (st : Stt) (w : W) (Y : W → Stt → Prop) (Nn : Stt → Prop) : Prop := g w st fun st1 => t noX st1 fun b st2 => if b = true then ie noX st2 Y else Nn st2
theorem lc_map {g : IG} {t : IT} {ie : IE} {vs : List Nat} {Q : SO → Stt → Prop} (st0 : Stt) (f : W → Option W) : ∀ (ws acc : List W) (st : Stt),
    (∀ w ∈ ws, ∀ Y Nn, (∀ y st', f w = some y → st'.wipe vs = st0 → Y y st') → (∀ st', f w = none → st'.wipe vs = st0 → Nn st') → stepQ g t ie st0 w Y Nn) →
    st.wipe vs = st0 → acc.length + ws.length ≤ sizeLine → (∀ st', st'.wipe vs = st0 → Q (.lst (acc ++ ws.filterMap f)) st') → lcGo g t ie vs Q ws acc st
  | [], acc, st, _, e, _, q => by
    have := q st e
    rw [List.filterMap_nil, List.append_nil] at this
    exact this
  | w :: ws, acc, st, h, e, hl, q => by
    show stepQ g t ie (st.wipe vs) w (fun y st3 => acc.length < sizeLine ∧ lcGo g t ie vs Q ws (acc ++ [y]) st3) (fun st2 => lcGo g t ie vs Q ws acc st2)
    rw [List.length_cons] at hl
    rw [e]
    refine h w (List.mem_cons_self ..) _ _ (fun y st' ef es => ⟨by omega, lc_map st0 f ws _ _ (fun w' hw => h w' (List.mem_cons_of_mem _ hw)) es (by rw [List.length_append, List.length_singleton]; omega) fun st2 e2 => ?_⟩) (fun st' ef es => lc_map st0 f ws _ _ (fun w' hw => h w' (List.mem_cons_of_mem _ hw)) es (by omega) fun st2 e2 => ?_)
    · have := q st2 e2
      rw [List.filterMap_cons_some ef] at this
      rw [List.append_assoc]
      exact this
    · have := q st2 e2
      rw [List.filterMap_cons_none ef] at this
      exact this
theorem okD_mono : ∀ {d d' : Nat}, d ≤ d' → ∀ w : W, okD d w = true → okD d' w = true
  | 0, d', _, w, h => by
    cases w <;> first | (cases d' <;> first | rfl | exact h) | (exfalso; simp [okD] at h; done)
  | d + 1, 0, hd, _, _ => by omega
  | d + 1, d' + 1, hd, w, h => by
    cases w with
    | tup ws =>
      show ws.all (okD d') = true
      rw [List.all_eq_true]
      exact fun x hx => okD_mono (Nat.le_of_succ_le_succ hd) x (List.all_eq_true.mp (show ws.all (okD d) = true from h) x hx)
    | lst ws =>
      show ws.all (okD d') = true
      rw [List.all_eq_true]
      exact fun x hx => okD_mono (Nat.le_of_succ_le_succ hd) x (List.all_eq_true.mp (show ws.all (okD d) = true from h) x hx)
    | _ => exact h
def Rep (d n : Nat) (w : W) : Prop := okD d w = true ∧ (toD w).showable = true ∧ (toD w).shown.length ≤ n
theorem Rep.ok {d n : Nat} {w : W} (h : Rep d n w) (hd : d ≤ 60 := by decide) (hn : n ≤ sizeLine := by decide) : RepOk w := ⟨okD_mono hd w h.1, h.2.1, Nat.le_trans h.2.2 hn⟩
theorem Rep.up {d d' n n' : Nat} {w : W} (h : Rep d n w) (hd : d ≤ d') (hn : n ≤ n') : Rep d' n' w := ⟨okD_mono hd w h.1, h.2.1, Nat.le_trans h.2.2 hn⟩
theorem rep_int {d : Nat} {i : Int} (h : Bd i) : Rep d 201 (.int i) := by
  have hn : i.natAbs < 10 ^ 200 := by unfold Bd lim at h; omega
  refine ⟨by cases d <;> rfl, ?_, ?_⟩
  · have h7 := h.abs
    show decide (i.natAbs.log2 < 1920) = true
    refine decide_eq_true ?_
    by_cases z : i.natAbs = 0
    · rw [z]; decide
    · have := (Nat.log2_lt z).mpr h7
      omega
  · show (Str.ofString (toString i)).length ≤ 201
    rw [PySem.ofString_length]
    exact int_text_length_le10 (k := 200) (by decide) hn
theorem rep_bl {d : Nat} (b : Bool) : Rep d 5 (.bl b) := ⟨by cases d <;> rfl, rfl, by cases b <;> decide⟩
theorem rep_non {d : Nat} : Rep d 4 .non := ⟨by cases d <;> rfl, rfl, by decide⟩
theorem shown_sum {n : Nat} : ∀ (ws : List W), (∀ w ∈ ws, (toD w).shown.length ≤ n) → ((PyData.shownAll (toDs ws)).map (·.length)).sum ≤ n * ws.length ∧ (PyData.shownAll (toDs ws)).length = ws.length
  | [], _ => ⟨Nat.zero_le _, rfl⟩
  | w :: ws, h => by
    have a := shown_sum ws fun x hx => h x (List.mem_cons_of_mem _ hx)
    have b := h w (List.mem_cons_self ..)
    have e : PyData.shownAll (toDs (w :: ws)) = (toD w).shown :: PyData.shownAll (toDs ws) := rfl
    rw [e, List.map_cons, List.sum_cons, List.length_cons, List.length_cons, Nat.mul_succ]
    exact ⟨by omega, by omega⟩
theorem show_all : ∀ (ws : List W), (∀ w ∈ ws, (toD w).showable = true) → PyData.showableAll (toDs ws) = true
  | [], _ => rfl
  | w :: ws, h => by
    show ((toD w).showable && PyData.showableAll (toDs ws)) = true
    rw [h w (List.mem_cons_self ..), show_all ws fun x hx => h x (List.mem_cons_of_mem _ hx)]
    rfl
theorem rep_tup {d n : Nat} {ws : List W} (h : ∀ w ∈ ws, Rep d n w) : Rep (d + 1) (n * ws.length + 2 * ws.length + 3) (.tup ws) := by
  refine ⟨List.all_eq_true.mpr fun x hx => (h x hx).1, show_all ws fun x hx => (h x hx).2.1, ?_⟩
  obtain ⟨a, b⟩ := shown_sum ws fun x hx => (h x hx).2.2
  have := tupleText_len_le (PyData.shownAll (toDs ws))
  rw [b] at this
  exact Nat.le_trans this (by omega)
theorem rep_lst {d n : Nat} {ws : List W} (h : ∀ w ∈ ws, Rep d n w) : Rep (d + 1) (n * ws.length + 2 * ws.length + 3) (.lst ws) := by
  refine ⟨List.all_eq_true.mpr fun x hx => (h x hx).1, show_all ws fun x hx => (h x hx).2.1, ?_⟩
  obtain ⟨a, b⟩ := shown_sum ws fun x hx => (h x hx).2.2
  have := listText_len_le (PyData.shownAll (toDs ws))
  rw [b] at this
  exact Nat.le_trans this (by omega)
def ib_l_bag : IS := (sRetN (nLst (iCons (iC (.int 0)) (iCons (iC (.int 1234567891)) (iCons (iC (.int 0)) (iCons (iFz (nLc (lSeq (iSl (iVar 0) oNone (oSome (iC (.int 63))))) (gNm 1) tYes' (iFn gAbs (iCons (iVar 1) iNil)) [1])) iNil))))))
def sp_l_bag : ISp := fun ws S Q E => ∃ ns : List Int, ws = [.scr ns] ∧ ns.length ≤ 63 ∧ ∀ o, IsBag o → Q (.new o) S
def absI (j : Int) : Int := if j < 0 then -j else j
theorem ok_l_bag (ws : List W) (S : Sto) (Q : R → Sto → Prop) (E : Exn → Sto → Prop) (h : sp_l_bag ws S Q E) : bodyI 2 ib_l_bag ws S Q E := by
  obtain ⟨ns, rfl, hn, q⟩ := h
  unfold ib_l_bag
  simp only [bodyI, start0, sSeq, sNext, sNever, sCont, sBreak, sDrop, sRet, sRetN, sRet0, sRetO, sIf, sSet, sSetN, sSetP, sPar, sParEN, sParNE, sPar3, sAsg, gNm, gsNil, gsCons, gTp, sAugI, sIxO, sIxS, sAugS, stoL, setW, iVar, iC, iNil, iCons, iTup, iLst, nLst, iFz, iB, gAdd, gI, gIC, gSub, gMul, gDiv, gMod, gPow, gLt, gLe, gGt, gGe, gEq, gNe, gIn, gIsN, isN, iNeg, tTru', gTru, tBl, iChain, tAnd', tOr', tNot', tYes', iIf, iAnd, iOr, iNot, iIx, gIx, atW, iIxO, ownL, oNone, oSome, iSl, gSl, iRevL, iCall, nCall, iFn, Sh.R.fz, SO.fz, Stt.put, Stt.puts, iMtO, gAppend, gInsert, gExtend, gLen, iLenO, gAbs, gInt, gMinMax, gList, gTuple, iListRg, gIsi, tyN, gRepr, flatW, eqW, okD, eqOk, cut_13, cut_1_2, cut_1_3, cut_m2, cut_m3, cut_m4, atI_m2, atI_m3, atI_m4, iOfT, tKdIn, iKdIx, atI_0, atI_1, atI_2, atI_3, ixN_4_0, ixN_4_1, ixN_4_2, ixN_4_3, Sto.put_same, Sto.put_put, toNat_2, List.map, List.replicate, List.length_cons, List.length_nil, List.getElem?_cons_zero, List.getElem?_cons_succ, List.getElem?_nil, List.set_cons_zero, List.set_cons_succ, List.set_nil, List.cons_append, List.nil_append, List.append_nil, if_true, if_false, nLc, lSeq, gItems]
  have hc : (cutW ns none (some 63)).length ≤ 63 := by
    unfold cutW
    rw [List.length_take, List.length_drop]
    omega
  refine lc_map ⟨[.val (.scr ns), .none], S⟩ (fun w => match w with | .int i => some (.int (absI i)) | _ => none) _ _ _ (fun w hw Y Nn hY _ => ?_) rfl (by rw [List.length_map, List.length_nil, sizeLine_eq]; omega) fun st' e => ?_
  · obtain ⟨i, _, rfl⟩ := List.mem_map.mp hw
    exact hY _ _ rfl rfl
  · rw [e]
    refine q _ ⟨0, 1234567891, 0, (cutW ns none (some 63)).map absI, ?_, by omega, by omega, by omega, by omega, fun c hc => ?_⟩
    · rw [List.nil_append, List.filterMap_map, List.map_map]
      have : ((fun w : W => match w with | .int i => some (W.int (absI i)) | _ => none) ∘ W.int) = some ∘ (W.int ∘ absI) := rfl
      rw [this, List.filterMap_eq_map]
    · obtain ⟨i, _, rfl⟩ := List.mem_map.mp hc
      unfold absI
      split <;> omega
def ib_l_one : IS := (sRet (iIx (iVar 1) (iCall sp_l_take (iCons (iVar 0) (iCons (iFn gLen (iCons (iVar 1) iNil)) iNil)))))
def sp_l_one : ISp := fun ws S Q E => ∃ a xs o, ws = [.ref a, .lst xs] ∧ xs ≠ [] ∧ xs.length < 1000000000 ∧ S a = some o ∧ IsBag o ∧ ∀ x o', x ∈ xs → IsBag o' → Q (.val x) (S.put a o')
theorem ok_l_one (ws : List W) (S : Sto) (Q : R → Sto → Prop) (E : Exn → Sto → Prop) (h : sp_l_one ws S Q E) : bodyI 2 ib_l_one ws S Q E := by
  obtain ⟨a, xs, o, rfl, hx, hl, ha, hb, q⟩ := h
  unfold ib_l_one
  simp only [bodyI, start0, sSeq, sNext, sNever, sCont, sBreak, sDrop, sRet, sRetN, sRet0, sRetO, sIf, sSet, sSetN, sSetP, sPar, sParEN, sParNE, sPar3, sAsg, gNm, gsNil, gsCons, gTp, sAugI, sIxO, sIxS, sAugS, stoL, setW, iVar, iC, iNil, iCons, iTup, iLst, nLst, iFz, iB, gAdd, gI, gIC, gSub, gMul, gDiv, gMod, gPow, gLt, gLe, gGt, gGe, gEq, gNe, gIn, gIsN, isN, iNeg, tTru', gTru, tBl, iChain, tAnd', tOr', tNot', tYes', iIf, iAnd, iOr, iNot, iIx, gIx, atW, iIxO, ownL, oNone, oSome, iSl, gSl, iRevL, iCall, nCall, iFn, Sh.R.fz, SO.fz, Stt.put, Stt.puts, iMtO, gAppend, gInsert, gExtend, gLen, iLenO, gAbs, gInt, gMinMax, gList, gTuple, iListRg, gIsi, tyN, gRepr, flatW, eqW, okD, eqOk, cut_13, cut_1_2, cut_1_3, cut_m2, cut_m3, cut_m4, atI_m2, atI_m3, atI_m4, iOfT, tKdIn, iKdIx, atI_0, atI_1, atI_2, atI_3, ixN_4_0, ixN_4_1, ixN_4_2, ixN_4_3, Sto.put_same, Sto.put_put, toNat_2, List.map, List.replicate, List.length_cons, List.length_nil, List.getElem?_cons_zero, List.getElem?_cons_succ, List.getElem?_nil, List.set_cons_zero, List.set_cons_succ, List.set_nil, List.cons_append, List.nil_append, List.append_nil, if_true, if_false]
  have hp : 0 < xs.length := List.length_pos_iff.mpr hx
  refine ⟨a, xs.length, o, rfl, by omega, by unfold Bd lim; omega, ha, hb, fun r o' h0 h1 hb' => ?_⟩
  simp only [bodyI, start0, sSeq, sNext, sNever, sCont, sBreak, sDrop, sRet, sRetN, sRet0, sRetO, sIf, sSet, sSetN, sSetP, sPar, sParEN, sParNE, sPar3, sAsg, gNm, gsNil, gsCons, gTp, sAugI, sIxO, sIxS, sAugS, stoL, setW, iVar, iC, iNil, iCons, iTup, iLst, nLst, iFz, iB, gAdd, gI, gIC, gSub, gMul, gDiv, gMod, gPow, gLt, gLe, gGt, gGe, gEq, gNe, gIn, gIsN, isN, iNeg, tTru', gTru, tBl, iChain, tAnd', tOr', tNot', tYes', iIf, iAnd, iOr, iNot, iIx, gIx, atW, iIxO, ownL, oNone, oSome, iSl, gSl, iRevL, iCall, nCall, iFn, Sh.R.fz, SO.fz, Stt.put, Stt.puts, iMtO, gAppend, gInsert, gExtend, gLen, iLenO, gAbs, gInt, gMinMax, gList, gTuple, iListRg, gIsi, tyN, gRepr, flatW, eqW, okD, eqOk, cut_13, cut_1_2, cut_1_3, cut_m2, cut_m3, cut_m4, atI_m2, atI_m3, atI_m4, iOfT, tKdIn, iKdIx, atI_0, atI_1, atI_2, atI_3, ixN_4_0, ixN_4_1, ixN_4_2, ixN_4_3, Sto.put_same, Sto.put_put, toNat_2, List.map, List.replicate, List.length_cons, List.length_nil, List.getElem?_cons_zero, List.getElem?_cons_succ, List.getElem?_nil, List.set_cons_zero, List.set_cons_succ, List.set_nil, List.cons_append, List.nil_append, List.append_nil, if_true, if_false, atI_pos h0 h1]
  exact q _ _ (List.getElem_mem _) hb'
theorem eqW_refl : ∀ (d : Nat) (w : W), okD d w = true → eqW w w = true
  | _, .non, _ => rfl
  | _, .bl b, _ => by simp [eqW]
  | _, .int i, _ => by simp [eqW]
  | _, .str x, _ => by simp [eqW]
  | d + 1, .tup ws, h => by
    show eqWs ws ws = true
    have h2 : ws.all (okD d) = true := h
    clear h
    induction ws with
    | nil => rfl
    | cons w ws ih =>
      rw [List.all_cons, Bool.and_eq_true] at h2
      show (eqW w w && eqWs ws ws) = true
      rw [eqW_refl d w h2.1, ih h2.2]; rfl
  | d + 1, .lst ws, h => by
    show eqWs ws ws = true
    have h2 : ws.all (okD d) = true := h
    clear h
    induction ws with
    | nil => rfl
    | cons w ws ih =>
      rw [List.all_cons, Bool.and_eq_true] at h2
      show (eqW w w && eqWs ws ws) = true
      rw [eqW_refl d w h2.1, ih h2.2]; rfl
  | 0, .tup ws, h => by simp [okD] at h
  | 0, .lst ws, h => by simp [okD] at h
  | d, .dct _, h => by cases d <;> simp [okD] at h
  | d, .dcT _, h => by cases d <;> simp [okD] at h
  | d, .exn _ _ _ _, h => by cases d <;> simp [okD] at h
  | d, .obj _ _, h => by cases d <;> simp [okD] at h
  | d, .ref _, h => by cases d <;> simp [okD] at h
  | d, .ty _, h => by cases d <;> simp [okD] at h
  | d, .scr _, h => by cases d <;> simp [okD] at h
  | d, .glo _, h => by cases d <;> simp [okD] at h
theorem eqOk_of {x y : W} (hx : okD 64 x = true) (hy : okD 64 y = true) : eqOk x y = true := by
  unfold eqOk
  split
  · rfl
  · rw [hx, hy]; rfl
def isI : W → Bool
  | .int _ => true
  | _ => false
def ib_p_is_integer : IS := (sRet (iAnd (iFn gIsi (iCons (iVar 0) (iCons (iC (.ty "int")) iNil))) (iNot (iFn gIsi (iCons (iVar 0) (iCons (iC (.ty "bool")) iNil))))))
def sp_p_is_integer : ISp := fun ws S Q E => ∃ x, ws = [x] ∧ tyN x ≠ none ∧ Q (.val (.bl (isI x))) S
theorem ok_p_is_integer (ws : List W) (S : Sto) (Q : R → Sto → Prop) (E : Exn → Sto → Prop) (h : sp_p_is_integer ws S Q E) : bodyI 1 ib_p_is_integer ws S Q E := by
  obtain ⟨x, rfl, hx, q⟩ := h
  cases x <;> first | exact absurd rfl hx | exact q
def Cg (m a b : Int) : Prop := m ∣ a - b
theorem Cg.refl {m : Int} (a : Int) : Cg m a a := ⟨0, by grind⟩
theorem Cg.symm {m a b : Int} (h : Cg m a b) : Cg m b a := by
  obtain ⟨k, e⟩ := h
  exact ⟨-k, by grind⟩
theorem Cg.trans {m a b c : Int} (h : Cg m a b) (h2 : Cg m b c) : Cg m a c := by
  obtain ⟨k, e⟩ := h
  obtain ⟨l, e2⟩ := h2
  exact ⟨k + l, by grind⟩
theorem Cg.mul {m a b c d : Int} (h : Cg m a b) (h2 : Cg m c d) : Cg m (a * c) (b * d) := by
  obtain ⟨k, e⟩ := h
  obtain ⟨l, e2⟩ := h2
  exact ⟨k * c + b * l, by grind⟩
theorem Cg.add {m a b c d : Int} (h : Cg m a b) (h2 : Cg m c d) : Cg m (a + c) (b + d) := by
  obtain ⟨k, e⟩ := h
  obtain ⟨l, e2⟩ := h2
  exact ⟨k + l, by grind⟩
theorem Cg.pow {m a b : Int} (h : Cg m a b) : ∀ n : Nat, Cg m (a ^ n) (b ^ n)
  | 0 => by rw [Int.pow_zero, Int.pow_zero]; exact .refl _
  | n + 1 => by rw [Int.pow_succ, Int.pow_succ]; exact (Cg.pow h n).mul h
theorem cg_mod (m a : Int) : Cg m (a % m) a := ⟨-(a / m), by have := Int.mul_ediv_add_emod a m; grind⟩
theorem Cg.eq {m a b : Int} (h : Cg m a b) (h0 : 0 ≤ a) (h1 : a < m) (h2 : 0 ≤ b) (h3 : b < m) : a = b := by
  obtain ⟨k, e⟩ := h
  have hk : k = 0 := by
    by_cases z : k = 0
    · exact z
    · exfalso
      rcases Int.lt_or_gt_of_ne z with z | z
      · have : m * k ≤ m * (-1) := Int.mul_le_mul_of_nonneg_left (by omega) (by omega)
        omega
      · have : m * 1 ≤ m * k := Int.mul_le_mul_of_nonneg_left (by omega) (by omega)
        omega
  subst hk
  omega
theorem Cg.mod {m a b : Int} (h : Cg m a b) (hm : 0 < m) : a % m = b % m :=
  Cg.eq (((cg_mod m a).trans h).trans (cg_mod m b).symm) (Int.emod_nonneg _ (by omega)) (Int.emod_lt_of_pos _ hm) (Int.emod_nonneg _ (by omega)) (Int.emod_lt_of_pos _ hm)
theorem bd_lt {a m : Int} (hm : Bd m) (h0 : 0 ≤ a) (h1 : a < m) : Bd a := by unfold Bd lim at *; omega
def ib_p_common_1 : IS := (sPar 0 1 (iVar 1) (iB gMod (iVar 0) (iVar 1)))
def ib_p_common : IS := (sSeq (sWhile (tTru' (iVar 1)) ib_p_common_1)
  (sRet (iVar 0)))
def sp_p_common : ISp := fun ws S Q E => ∃ a b : Nat, ws = [.int a, .int b] ∧ Q (.val (.int (Nat.gcd a b))) S
theorem ok_p_common (ws : List W) (S : Sto) (Q : R → Sto → Prop) (E : Exn → Sto → Prop) (h : sp_p_common ws S Q E) : bodyI 2 ib_p_common ws S Q E := by
  obtain ⟨a, b, rfl, q⟩ := h
  unfold ib_p_common
  refine seq_cut (fun st => st = ⟨[.val (.int (Nat.gcd a b)), .val (.int 0)], S⟩) (fun nx k => ?_) (fun st es => ?_)
  · refine ⟨fun n st => ∃ c : Nat, st = ⟨[.val (.int c), .val (.int (n : Nat))], S⟩ ∧ Nat.gcd c n = Nat.gcd a b, ⟨b, a, rfl, rfl⟩, ?_⟩
    rintro n st ⟨c, rfl, hg⟩
    unfold ib_p_common_1
    simp only [bodyI, start0, sSeq, sNext, sNever, sCont, sBreak, sDrop, sRet, sRetN, sRet0, sRetO, sIf, sSet, sSetN, sSetP, sPar, sParEN, sParNE, sPar3, sAsg, gNm, gsNil, gsCons, gTp, sAugI, sIxO, sIxS, sAugS, stoL, setW, iVar, iC, iNil, iCons, iTup, iLst, nLst, iFz, iB, gAdd, gI, gIC, gSub, gMul, gDiv, gMod, gPow, gLt, gLe, gGt, gGe, gEq, gNe, gIn, gIsN, isN, iNeg, tTru', gTru, tBl, iChain, tAnd', tOr', tNot', tYes', iIf, iAnd, iOr, iNot, iIx, gIx, atW, iIxO, ownL, oNone, oSome, iSl, gSl, iRevL, iCall, nCall, iFn, Sh.R.fz, SO.fz, Stt.put, Stt.puts, iMtO, gAppend, gInsert, gExtend, gLen, iLenO, gAbs, gInt, gMinMax, gList, gTuple, iListRg, gIsi, tyN, gRepr, flatW, eqW, okD, eqOk, cut_13, cut_1_2, cut_1_3, cut_m2, cut_m3, cut_m4, atI_m2, atI_m3, atI_m4, iOfT, tKdIn, iKdIx, atI_0, atI_1, atI_2, atI_3, ixN_4_0, ixN_4_1, ixN_4_2, ixN_4_3, Sto.put_same, Sto.put_put, toNat_2, List.map, List.replicate, List.length_cons, List.length_nil, List.getElem?_cons_zero, List.getElem?_cons_succ, List.getElem?_nil, List.set_cons_zero, List.set_cons_succ, List.set_nil, List.cons_append, List.nil_append, List.append_nil, if_true, if_false]
    refine ifb (fun z => ?_) (fun z => ?_)
    · have hn : n ≠ 0 := by intro e; subst e; simp at z
      refine ⟨by omega, c % n, Nat.mod_lt _ (by omega), n, rfl, ?_⟩
      rw [← hg, Nat.gcd_comm c n, Nat.gcd_rec n c, Nat.gcd_comm]
    · have hn : n = 0 := by
        have : ((n : Int) != 0) = false := z
        simpa using this
      subst hn
      rw [Nat.gcd_zero_right] at hg
      subst hg
      exact k _ rfl
  · subst es
    exact q
def IsOrd (m b : Int) (r : Nat) : Prop := 1 ≤ r ∧ Cg m (b ^ r) 1 ∧ ∀ s, 1 ≤ s → s < r → ¬ Cg m (b ^ s) 1
def ib_p_order_of_1 : IS := (sPar 2 3 (iB gAdd (iVar 2) (iC (.int 1))) (iB gMod (iB gMul (iVar 3) (iVar 0)) (iVar 1)))
def ib_p_order_of : IS := (sSeq (sPar 2 3 (iC (.int 1)) (iB gMod (iVar 0) (iVar 1)))
  (sSeq (sWhile (tBl (iB gNe (iVar 3) (iB gMod (iC (.int 1)) (iVar 1)))) ib_p_order_of_1)
  (sRet (iVar 2))))
def sp_p_order_of : ISp := fun ws S Q E => ∃ (b m : Int) (r0 : Nat), ws = [.int b, .int m] ∧ 0 < m ∧ Bd m ∧ Bd b ∧ 1 ≤ r0 ∧ Cg m (b ^ r0) 1 ∧ ∀ r : Nat, IsOrd m b r → Q (.val (.int r)) S
theorem ok_p_order_of (ws : List W) (S : Sto) (Q : R → Sto → Prop) (E : Exn → Sto → Prop) (h : sp_p_order_of ws S Q E) : bodyI 4 ib_p_order_of ws S Q E := by
  obtain ⟨b, m, r0, rfl, hm, bm, bb, hr, hc, q⟩ := h
  unfold ib_p_order_of
  refine seq_step ⟨[.val (.int b), .val (.int m), .val (.int 1), .val (.int (b % m))], S⟩ (fun nx h => ?_) ?_
  · simp only [bodyI, start0, sSeq, sNext, sNever, sCont, sBreak, sDrop, sRet, sRetN, sRet0, sRetO, sIf, sSet, sSetN, sSetP, sPar, sParEN, sParNE, sPar3, sAsg, gNm, gsNil, gsCons, gTp, sAugI, sIxO, sIxS, sAugS, stoL, setW, iVar, iC, iNil, iCons, iTup, iLst, nLst, iFz, iB, gAdd, gI, gIC, gSub, gMul, gDiv, gMod, gPow, gLt, gLe, gGt, gGe, gEq, gNe, gIn, gIsN, isN, iNeg, tTru', gTru, tBl, iChain, tAnd', tOr', tNot', tYes', iIf, iAnd, iOr, iNot, iIx, gIx, atW, iIxO, ownL, oNone, oSome, iSl, gSl, iRevL, iCall, nCall, iFn, Sh.R.fz, SO.fz, Stt.put, Stt.puts, iMtO, gAppend, gInsert, gExtend, gLen, iLenO, gAbs, gInt, gMinMax, gList, gTuple, iListRg, gIsi, tyN, gRepr, flatW, eqW, okD, eqOk, cut_13, cut_1_2, cut_1_3, cut_m2, cut_m3, cut_m4, atI_m2, atI_m3, atI_m4, iOfT, tKdIn, iKdIx, atI_0, atI_1, atI_2, atI_3, ixN_4_0, ixN_4_1, ixN_4_2, ixN_4_3, Sto.put_same, Sto.put_put, toNat_2, List.map, List.replicate, List.length_cons, List.length_nil, List.getElem?_cons_zero, List.getElem?_cons_succ, List.getElem?_nil, List.set_cons_zero, List.set_cons_succ, List.set_nil, List.cons_append, List.nil_append, List.append_nil, if_true, if_false]
    exact ⟨hm, h⟩
  refine seq_cut (fun st => ∃ (r : Nat) (x : Slot), st = ⟨[.val (.int b), .val (.int m), .val (.int r), x], S⟩ ∧ IsOrd m b r) (fun nx k => ?_) (fun st ⟨r, x, es, ho⟩ => ?_)
  · refine ⟨fun n st => ∃ r : Nat, n + r = r0 ∧ 1 ≤ r ∧ (∀ s, 1 ≤ s → s < r → ¬ Cg m (b ^ s) 1) ∧ st = ⟨[.val (.int b), .val (.int m), .val (.int r), .val (.int (b ^ r % m))], S⟩, ⟨r0 - 1, 1, by omega, by omega, fun s h1 h2 => by omega, by rw [Int.pow_succ, Int.pow_zero, Int.one_mul]; rfl⟩, ?_⟩
    rintro n st ⟨r, hn, h1, hmin, rfl⟩
    unfold ib_p_order_of_1
    simp only [bodyI, start0, sSeq, sNext, sNever, sCont, sBreak, sDrop, sRet, sRetN, sRet0, sRetO, sIf, sSet, sSetN, sSetP, sPar, sParEN, sParNE, sPar3, sAsg, gNm, gsNil, gsCons, gTp, sAugI, sIxO, sIxS, sAugS, stoL, setW, iVar, iC, iNil, iCons, iTup, iLst, nLst, iFz, iB, gAdd, gI, gIC, gSub, gMul, gDiv, gMod, gPow, gLt, gLe, gGt, gGe, gEq, gNe, gIn, gIsN, isN, iNeg, tTru', gTru, tBl, iChain, tAnd', tOr', tNot', tYes', iIf, iAnd, iOr, iNot, iIx, gIx, atW, iIxO, ownL, oNone, oSome, iSl, gSl, iRevL, iCall, nCall, iFn, Sh.R.fz, SO.fz, Stt.put, Stt.puts, iMtO, gAppend, gInsert, gExtend, gLen, iLenO, gAbs, gInt, gMinMax, gList, gTuple, iListRg, gIsi, tyN, gRepr, flatW, eqW, okD, eqOk, cut_13, cut_1_2, cut_1_3, cut_m2, cut_m3, cut_m4, atI_m2, atI_m3, atI_m4, iOfT, tKdIn, iKdIx, atI_0, atI_1, atI_2, atI_3, ixN_4_0, ixN_4_1, ixN_4_2, ixN_4_3, Sto.put_same, Sto.put_put, toNat_2, List.map, List.replicate, List.length_cons, List.length_nil, List.getElem?_cons_zero, List.getElem?_cons_succ, List.getElem?_nil, List.set_cons_zero, List.set_cons_succ, List.set_nil, List.cons_append, List.nil_append, List.append_nil, if_true, if_false]
    refine ⟨hm, rfl, ifb (fun z => ?_) (fun z => ?_)⟩
    · have ne : ¬ Cg m (b ^ r) 1 := fun c => by
        have := c.mod hm
        rw [this] at z
        simp at z
      have hn0 : n ≠ 0 := fun e => by
        rw [e, Nat.zero_add] at hn
        subst hn
        exact ne hc
      refine ⟨.inl ⟨bd_lt bm (Int.emod_nonneg _ (by omega)) (Int.emod_lt_of_pos _ hm), bb⟩, hm, n - 1, by omega, r + 1, by omega, by omega, fun s g1 g2 => ?_, ?_⟩
      · by_cases e : s = r
        · rw [e]; exact ne
        · exact hmin s g1 (by omega)
      · have e : b ^ r % m * b % m = b ^ (r + 1) % m := by
          rw [Int.pow_succ]
          exact ((cg_mod m _).mul (.refl b)).mod hm
        rw [e]
        rfl
    · have c : Cg m (b ^ r) 1 := by
        have e : b ^ r % m = 1 % m := by simpa using z
        have := (cg_mod m (b ^ r)).symm
        rw [e] at this
        exact this.trans (cg_mod m 1)
      exact k _ ⟨r, _, rfl, h1, c, hmin⟩
  · subst es
    exact q r ho
def Pr (d : Nat) : Prop := 2 ≤ d ∧ ∀ e, 2 ≤ e → e < d → ¬ e ∣ d
open Classical in
/-- the prime divisors of n below k -/
noncomputable def prims (n : Nat) (k : Nat) : List Nat := (List.range k).filter fun d => decide (Pr d ∧ d ∣ n)
theorem prims_mem {n k d : Nat} : d ∈ prims n k ↔ d < k ∧ Pr d ∧ d ∣ n := by
  unfold prims
  rw [List.mem_filter, List.mem_range]
  simp
theorem prims_yes {n k : Nat} (h : Pr k ∧ k ∣ n) : prims n (k + 1) = prims n k ++ [k] := by
  unfold prims
  rw [List.range_succ, List.filter_append]
  simp [h]
theorem prims_no {n k : Nat} (h : ¬ (Pr k ∧ k ∣ n)) : prims n (k + 1) = prims n k := by
  unfold prims
  rw [List.range_succ, List.filter_append]
  simp [h]
theorem prims_two {n : Nat} : prims n 2 = [] := by
  have e0 : ¬ (Pr 0 ∧ 0 ∣ n) := fun h => by have := h.1.1; omega
  have e1 : ¬ (Pr 1 ∧ 1 ∣ n) := fun h => by have := h.1.1; omega
  rw [prims_no e1, prims_no e0]
  rfl
/-- all of them -/
noncomputable def primes (n : Nat) : List Nat := prims n (n + 1)
theorem prims_far {n k : Nat} (hn : 0 < n) : ∀ j, prims n (n + 1 + j) = primes n
  | 0 => rfl
  | j + 1 => by
    have e : n + 1 + (j + 1) = (n + 1 + j) + 1 := rfl
    rw [e, prims_no fun h => by have := Nat.le_of_dvd hn h.2; omega]
    exact prims_far hn (k := k) j
theorem prims_less {n k : Nat} (h : ∀ d, k ≤ d → Pr d → ¬ d ∣ n) : ∀ j, prims n (k + j) = prims n k
  | 0 => rfl
  | j + 1 => by
    have e : k + (j + 1) = (k + j) + 1 := rfl
    rw [e, prims_no fun z => h (k + j) (by omega) z.1 z.2]
    exact prims_less h j
theorem prims_all {n k : Nat} (hn : 0 < n) (h : ∀ d, k ≤ d → Pr d → ¬ d ∣ n) : prims n k = primes n := by
  rw [← prims_less h (n + 1), ← prims_far hn (k := k) k]
  congr 1
  omega
theorem Pr.coprime {p q : Nat} (hp : Pr p) (hq : Pr q) (h : p ≠ q) : Nat.Coprime p q := by
  have d1 := Nat.gcd_dvd_left p q
  have d2 := Nat.gcd_dvd_right p q
  have p1 : 0 < Nat.gcd p q := Nat.gcd_pos_of_pos_left _ (by have := hp.1; omega)
  have l1 := Nat.le_of_dvd (by have := hp.1; omega) d1
  have l2 := Nat.le_of_dvd (by have := hq.1; omega) d2
  unfold Nat.Coprime
  by_cases z : Nat.gcd p q = 1
  · exact z
  · exfalso
    have e1 : Nat.gcd p q = p := by
      by_cases w : Nat.gcd p q < p
      · exact absurd d1 (hp.2 _ (by omega) w)
      · omega
    have e2 : Nat.gcd p q = q := by
      by_cases w : Nat.gcd p q < q
      · exact absurd d2 (hq.2 _ (by omega) w)
      · omega
    omega
def ib_p_primes_of_1 : IS := (sSet 0 (iB gDiv (iVar 0) (iVar 2)))
def ib_p_primes_of_2 : IS := (sSeq (sIf (tBl (iB gEq (iB gMod (iVar 0) (iVar 2)) (iC (.int 0)))) (sSeq (sDrop (iMtO 1 gAppend (iCons (iVar 2) iNil)))
      (sWhile (tBl (iB gEq (iB gMod (iVar 0) (iVar 2)) (iC (.int 0)))) ib_p_primes_of_1)) sNext)
    (sAugI 2 (· + ·) (iC (.int 1))))
def ib_p_primes_of : IS := (sSeq (sParNE 1 2 (nLst iNil) (iC (.int 2)))
  (sSeq (sWhile (tBl (iB gGt (iVar 0) (iC (.int 1)))) ib_p_primes_of_2)
  (sRetO 1)))
def natW (ps : List Nat) : List W := ps.map fun (p : Nat) => W.int (p : Int)
def sp_p_primes_of : ISp := fun ws S Q E => ∃ n : Nat, ws = [.int n] ∧ 0 < n ∧ n ≤ 10000000 ∧ Q (.new (.lst (natW (primes n)))) S
theorem prims_len (n k : Nat) : (prims n k).length ≤ k := by
  unfold prims
  refine Nat.le_trans (List.length_filter_le _ _) ?_
  rw [List.length_range]
  omega
/-- where the walk stands -/
def PrAt (n0 n d : Nat) : Prop := 0 < n ∧ n ∣ n0 ∧ 2 ≤ d ∧ (∀ e, 2 ≤ e → e < d → ¬ e ∣ n) ∧ ∀ p, d ≤ p → Pr p → p ∣ n0 → p ∣ n
theorem PrAt.prime {n0 n d : Nat} (h : PrAt n0 n d) (hd : d ∣ n) : Pr d := ⟨h.2.2.1, fun e e1 e2 e3 => h.2.2.2.1 e e1 e2 (Nat.dvd_trans e3 hd)⟩
theorem PrAt.next {n0 n d : Nat} (h : PrAt n0 n d) (hd : ¬ d ∣ n) : PrAt n0 n (d + 1) := by
  obtain ⟨h1, h2, h3, h4, h5⟩ := h
  refine ⟨h1, h2, by omega, fun e e1 e2 => ?_, fun p p1 => h5 p (by omega)⟩
  by_cases z : e = d
  · rw [z]; exact hd
  · exact h4 e e1 (by omega)
/-- what is left behind a factor -/
def PrIn (n0 n d : Nat) : Prop := 0 < n ∧ n ∣ n0 ∧ (∀ e, 2 ≤ e → e < d → ¬ e ∣ n) ∧ ∀ p, d + 1 ≤ p → Pr p → p ∣ n0 → p ∣ n
theorem PrIn.less {n0 n d : Nat} (h : PrIn n0 n d) (pd : Pr d) (hd : d ∣ n) : PrIn n0 (n / d) d := by
  obtain ⟨h1, h2, h4, h5⟩ := h
  have dp : 0 < d := by have := pd.1; omega
  have e : n = d * (n / d) := (Nat.mul_div_cancel' hd).symm
  have dv : n / d ∣ n := ⟨d, by rw [Nat.mul_comm]; exact e⟩
  refine ⟨Nat.div_pos (Nat.le_of_dvd h1 hd) dp, Nat.dvd_trans dv h2, fun x x1 x2 x3 => h4 x x1 x2 (Nat.dvd_trans x3 dv), fun p p1 p2 p3 => ?_⟩
  have := h5 p p1 p2 p3
  rw [e, Nat.mul_comm] at this
  exact Nat.Coprime.dvd_of_dvd_mul_right (p2.coprime pd (by omega)) this
theorem ok_p_primes_of (ws : List W) (S : Sto) (Q : R → Sto → Prop) (E : Exn → Sto → Prop) (h : sp_p_primes_of ws S Q E) : bodyI 3 ib_p_primes_of ws S Q E := by
  obtain ⟨n0, rfl, hn, hb, q⟩ := h
  unfold ib_p_primes_of
  refine seq_step ⟨[.val (.int n0), .own (.lst []), .val (.int 2)], S⟩ (fun nx h => h) ?_
  refine seq_cut (fun st => ∃ x0 x2 : Slot, st = ⟨[x0, .own (.lst (natW (primes n0))), x2], S⟩) (fun nx k => ?_) (fun st ⟨x0, x2, es⟩ => ?_)
  · refine ⟨fun j st => ∃ n d : Nat, j = n + 1 - d ∧ PrAt n0 n d ∧ st = ⟨[.val (.int n), .own (.lst (natW (prims n0 d))), .val (.int d)], S⟩, ⟨n0 + 1 - 2, n0, 2, rfl, ⟨hn, Nat.dvd_refl _, by omega, fun e e1 e2 => by omega, fun _ _ _ h => h⟩, by rw [prims_two]; rfl⟩, ?_⟩
    rintro j st ⟨n, d, rfl, at', rfl⟩
    have hd2 := at'.2.2.1
    have ndv : (n : Int) % d = ((n % d : Nat) : Int) := rfl
    unfold ib_p_primes_of_2
    simp only [sIf, tBl, iB, iVar, iC, gGt, gI, List.getElem?_cons_zero]
    refine ifb (fun z => ?_) (fun z => ?_)
    · have n1 : 1 < n := by have := of_decide_eq_true z; omega
      have dn : d ≤ n := by
        by_cases w : d ≤ n
        · exact w
        · exact absurd (Nat.dvd_refl n) (at'.2.2.2.1 n (by omega) (by omega))
      have bdd : Bd (d : Int) := by
        have l0 := Nat.le_of_dvd hn at'.2.1
        unfold Bd lim
        omega
      refine seq_cut (fun st => ∃ n' : Nat, n' ≤ n ∧ PrAt n0 n' (d + 1) ∧ st = ⟨[.val (.int n'), .own (.lst (natW (prims n0 (d + 1)))), .val (.int d)], S⟩) (fun nx2 k2 => ?_) (fun st ⟨n', l1, a2, es⟩ => ?_)
      · simp only [sIf, tBl, iB, iVar, iC, gMod, gIC, gEq, List.getElem?_cons_zero, List.getElem?_cons_succ]
        refine ⟨by omega, rfl, ifb (fun y => ?_) (fun y => ?_)⟩
        · have dv : d ∣ n := by
            have : (n : Int) % d = 0 := by simpa [eqW] using y
            exact Nat.dvd_of_mod_eq_zero (by omega)
          have pd := at'.prime dv
          refine seq_step ⟨[.val (.int n), .own (.lst (natW (prims n0 (d + 1)))), .val (.int d)], S⟩ (fun nx h => ?_) ?_
          · rw [prims_yes ⟨pd, Nat.dvd_trans dv at'.2.1⟩] at h
            simp only [bodyI, start0, sSeq, sNext, sNever, sCont, sBreak, sDrop, sRet, sRetN, sRet0, sRetO, sIf, sSet, sSetN, sSetP, sPar, sParEN, sParNE, sPar3, sAsg, gNm, gsNil, gsCons, gTp, sAugI, sIxO, sIxS, sAugS, stoL, setW, iVar, iC, iNil, iCons, iTup, iLst, nLst, iFz, iB, gAdd, gI, gIC, gSub, gMul, gDiv, gMod, gPow, gLt, gLe, gGt, gGe, gEq, gNe, gIn, gIsN, isN, iNeg, tTru', gTru, tBl, iChain, tAnd', tOr', tNot', tYes', iIf, iAnd, iOr, iNot, iIx, gIx, atW, iIxO, ownL, oNone, oSome, iSl, gSl, iRevL, iCall, nCall, iFn, Sh.R.fz, SO.fz, Stt.put, Stt.puts, iMtO, gAppend, gInsert, gExtend, gLen, iLenO, gAbs, gInt, gMinMax, gList, gTuple, iListRg, gIsi, tyN, gRepr, flatW, eqW, okD, eqOk, cut_13, cut_1_2, cut_1_3, cut_m2, cut_m3, cut_m4, atI_m2, atI_m3, atI_m4, iOfT, tKdIn, iKdIx, atI_0, atI_1, atI_2, atI_3, ixN_4_0, ixN_4_1, ixN_4_2, ixN_4_3, Sto.put_same, Sto.put_put, toNat_2, List.map, List.replicate, List.length_cons, List.length_nil, List.getElem?_cons_zero, List.getElem?_cons_succ, List.getElem?_nil, List.set_cons_zero, List.set_cons_succ, List.set_nil, List.cons_append, List.nil_append, List.append_nil, if_true, if_false]
            refine ⟨?_, ?_⟩
            · unfold natW
              rw [List.length_map]
              have := prims_len n0 d
              have l0 := Nat.le_of_dvd hn at'.2.1
              rw [sizeLine_eq]
              omega
            · unfold natW at h ⊢
              rw [List.map_append] at h
              exact h
          · refine ⟨fun j st => ∃ i : Nat, i = j ∧ i ≤ n ∧ PrIn n0 i d ∧ st = ⟨[.val (.int i), .own (.lst (natW (prims n0 (d + 1)))), .val (.int d)], S⟩, ⟨n, n, rfl, Nat.le_refl _, ⟨at'.1, at'.2.1, at'.2.2.2.1, fun p p1 => at'.2.2.2.2 p (by omega)⟩, rfl⟩, ?_⟩
            rintro j st ⟨i, rfl, il, pin, rfl⟩
            unfold ib_p_primes_of_1
            simp only [bodyI, start0, sSeq, sNext, sNever, sCont, sBreak, sDrop, sRet, sRetN, sRet0, sRetO, sIf, sSet, sSetN, sSetP, sPar, sParEN, sParNE, sPar3, sAsg, gNm, gsNil, gsCons, gTp, sAugI, sIxO, sIxS, sAugS, stoL, setW, iVar, iC, iNil, iCons, iTup, iLst, nLst, iFz, iB, gAdd, gI, gIC, gSub, gMul, gDiv, gMod, gPow, gLt, gLe, gGt, gGe, gEq, gNe, gIn, gIsN, isN, iNeg, tTru', gTru, tBl, iChain, tAnd', tOr', tNot', tYes', iIf, iAnd, iOr, iNot, iIx, gIx, atW, iIxO, ownL, oNone, oSome, iSl, gSl, iRevL, iCall, nCall, iFn, Sh.R.fz, SO.fz, Stt.put, Stt.puts, iMtO, gAppend, gInsert, gExtend, gLen, iLenO, gAbs, gInt, gMinMax, gList, gTuple, iListRg, gIsi, tyN, gRepr, flatW, eqW, okD, eqOk, cut_13, cut_1_2, cut_1_3, cut_m2, cut_m3, cut_m4, atI_m2, atI_m3, atI_m4, iOfT, tKdIn, iKdIx, atI_0, atI_1, atI_2, atI_3, ixN_4_0, ixN_4_1, ixN_4_2, ixN_4_3, Sto.put_same, Sto.put_put, toNat_2, List.map, List.replicate, List.length_cons, List.length_nil, List.getElem?_cons_zero, List.getElem?_cons_succ, List.getElem?_nil, List.set_cons_zero, List.set_cons_succ, List.set_nil, List.cons_append, List.nil_append, List.append_nil, if_true, if_false]
            refine ⟨by omega, rfl, ifb (fun x => ?_) (fun x => ?_)⟩
            · have dv2 : d ∣ i := by
                have : (i : Int) % d = 0 := by simpa [eqW] using x
                exact Nat.dvd_of_mod_eq_zero (by omega)
              have ip := pin.1
              have lt : i / d < i := Nat.div_lt_self ip (by omega)
              exact ⟨⟨by omega, bdd⟩, i / d, lt, i / d, rfl, by omega, pin.less pd dv2, rfl⟩
            · have dv2 : ¬ d ∣ i := fun w => by
                have : (i : Int) % d = 0 := by have := Nat.mod_eq_zero_of_dvd w; omega
                simp [eqW, this] at x
              refine k2 _ ⟨i, il, ⟨pin.1, pin.2.1, by omega, fun e e1 e2 => ?_, pin.2.2.2⟩, rfl⟩
              by_cases w : e = d
              · rw [w]; exact dv2
              · exact pin.2.2.1 e e1 (by omega)
        · have dv : ¬ d ∣ n := fun w => by
            have : (n : Int) % d = 0 := by have := Nat.mod_eq_zero_of_dvd w; omega
            simp [eqW, this] at y
          refine k2 _ ⟨n, Nat.le_refl _, at'.next dv, ?_⟩
          rw [prims_no fun w => dv (at'.2.2.2.2 d (Nat.le_refl _) w.1 w.2)]
      · subst es
        simp only [bodyI, start0, sSeq, sNext, sNever, sCont, sBreak, sDrop, sRet, sRetN, sRet0, sRetO, sIf, sSet, sSetN, sSetP, sPar, sParEN, sParNE, sPar3, sAsg, gNm, gsNil, gsCons, gTp, sAugI, sIxO, sIxS, sAugS, stoL, setW, iVar, iC, iNil, iCons, iTup, iLst, nLst, iFz, iB, gAdd, gI, gIC, gSub, gMul, gDiv, gMod, gPow, gLt, gLe, gGt, gGe, gEq, gNe, gIn, gIsN, isN, iNeg, tTru', gTru, tBl, iChain, tAnd', tOr', tNot', tYes', iIf, iAnd, iOr, iNot, iIx, gIx, atW, iIxO, ownL, oNone, oSome, iSl, gSl, iRevL, iCall, nCall, iFn, Sh.R.fz, SO.fz, Stt.put, Stt.puts, iMtO, gAppend, gInsert, gExtend, gLen, iLenO, gAbs, gInt, gMinMax, gList, gTuple, iListRg, gIsi, tyN, gRepr, flatW, eqW, okD, eqOk, cut_13, cut_1_2, cut_1_3, cut_m2, cut_m3, cut_m4, atI_m2, atI_m3, atI_m4, iOfT, tKdIn, iKdIx, atI_0, atI_1, atI_2, atI_3, ixN_4_0, ixN_4_1, ixN_4_2, ixN_4_3, Sto.put_same, Sto.put_put, toNat_2, List.map, List.replicate, List.length_cons, List.length_nil, List.getElem?_cons_zero, List.getElem?_cons_succ, List.getElem?_nil, List.set_cons_zero, List.set_cons_succ, List.set_nil, List.cons_append, List.nil_append, List.append_nil, if_true, if_false]
        exact ⟨n' + 1 - (d + 1), by omega, n', d + 1, rfl, a2, rfl⟩
    · have n1 : n = 1 := by
        have := of_decide_eq_false z
        have := at'.1
        omega
      subst n1
      have e := prims_all hn (k := d) (n := n0) fun p p1 p2 p3 => ?_
      · exact k _ ⟨_, _, by rw [e]⟩
      have := Nat.le_of_dvd (by omega) (at'.2.2.2.2 p p1 p2 p3)
      have := p2.1
      omega
  · subst es
    exact q
theorem pig : ∀ (m : Nat) (f : Nat → Nat), (∀ i, i ≤ m → f i < m) → ∃ i j, i < j ∧ j ≤ m ∧ f i = f j
  | 0, f, h => by have := h 0 (Nat.le_refl _); omega
  | m + 1, f, h => by
    by_cases z : ∃ i, i ≤ m ∧ f i = f (m + 1)
    · obtain ⟨i, hi, e⟩ := z
      exact ⟨i, m + 1, by omega, Nat.le_refl _, e⟩
    · have hz : ∀ i, i ≤ m → f i ≠ f (m + 1) := fun i hi e => z ⟨i, hi, e⟩
      have hl := h (m + 1) (Nat.le_refl _)
      obtain ⟨i, j, hij, hj, e⟩ := pig m (fun i => if f i < f (m + 1) then f i else f i - 1) fun i hi => by
        have a := h i (by omega)
        have b := hz i hi
        show (if f i < f (m + 1) then f i else f i - 1) < m
        split <;> omega
      refine ⟨i, j, hij, by omega, ?_⟩
      have a := hz i (by omega)
      have b := hz j hj
      have e2 : (if f i < f (m + 1) then f i else f i - 1) = (if f j < f (m + 1) then f j else f j - 1) := e
      split at e2 <;> split at e2 <;> omega
theorem ord_nat {m c : Nat} (hm : 0 < m) (hc : Nat.gcd m c = 1) : ∃ r, 1 ≤ r ∧ r ≤ m ∧ Cg m ((c : Int) ^ r) 1 := by
  obtain ⟨i, j, hij, hj, e⟩ := pig m (fun i => c ^ i % m) fun i _ => Nat.mod_lt _ hm
  refine ⟨j - i, by omega, by omega, ?_⟩
  have e1 : ((c : Int) ^ i) % m = ((c : Int) ^ j) % m := by
    have := congrArg (fun x : Nat => (x : Int)) e
    simp only [Int.natCast_emod, Int.natCast_pow] at this
    exact this
  have c1 : Cg m ((c : Int) ^ j) (c ^ i) := by
    have := (cg_mod m ((c : Int) ^ j)).symm
    rw [← e1] at this
    exact this.trans (cg_mod m _)
  have e2 : (c : Int) ^ j = c ^ i * c ^ (j - i) := by rw [← Int.pow_add]; congr 1; omega
  rw [e2] at c1
  have dv : (m : Int) ∣ ((c : Int) ^ (j - i) - 1) * (c : Int) ^ i := by
    obtain ⟨k, ek⟩ := c1
    exact ⟨k, by rw [← ek]; grind⟩
  have cp : Nat.Coprime m (c ^ i) := Nat.Coprime.pow_right i hc
  have dn : m ∣ ((c : Int) ^ (j - i) - 1).natAbs * c ^ i := by
    have := Int.natAbs_dvd_natAbs.mpr dv
    rw [Int.natAbs_mul, Int.natAbs_pow, Int.natAbs_natCast, Int.natAbs_natCast] at this
    exact this
  have := Nat.Coprime.dvd_of_dvd_mul_right cp dn
  exact Int.natAbs_dvd_natAbs.mp (by rw [Int.natAbs_natCast]; exact this)
theorem ord_ex {m b : Int} (hm : 0 < m) (hc : Nat.gcd m.toNat (b % m).toNat = 1) : ∃ r : Nat, 1 ≤ r ∧ (r : Int) ≤ m ∧ Cg m (b ^ r) 1 := by
  obtain ⟨r, h1, h2, c⟩ := ord_nat (by omega) hc
  rw [Int.toNat_of_nonneg (by omega), Int.toNat_of_nonneg (Int.emod_nonneg _ (by omega))] at c
  exact ⟨r, h1, by omega, ((cg_mod m b).pow r).symm.trans c⟩
theorem IsOrd.le {m b : Int} {r s : Nat} (h : IsOrd m b r) (h1 : 1 ≤ s) (c : Cg m (b ^ s) 1) : r ≤ s := by
  by_cases z : r ≤ s
  · exact z
  · exact absurd c (h.2.2 s h1 (by omega))
/-- where an open call leads, by the law's own rule -/
def opn (w : Str) (fl n r f : Int) : Int × Int :=
  if w = "halve" then (r * fl + f - n * ((r * fl + f) / n), (r * fl + f) / n)
  else if w = "pair" then ((f * n + r) / fl, f * n + r - fl * ((f * n + r) / fl))
  else if w = "others" then (r / 2 + (n - n / 2) * (r - 2 * (r / 2)), f)
  else (2 * (r - (n - n / 2) * (if n - n / 2 ≤ r then 1 else 0)) + (if n - n / 2 ≤ r then 1 else 0), f)
theorem cpow10 {j : Int} (h0 : 0 ≤ j) (h1 : j ≤ 1000) : CPow 10 j := ⟨h0, by omega, by decide⟩
def hv (F R x k : Int) : Int := if x = F * R - 1 then x else if 0 ≤ k then x * (F ^ k.toNat % (F * R - 1)) % (F * R - 1) else x * (R ^ (-k).toNat % (F * R - 1)) % (F * R - 1)
section
variable {F R x k l y : Int}
end
inductive Call where
  | all (k : Int) | up (f k : Int) | swap (f g : Int) | wheel (f g k : Int) | about | front (f g : Int) | halve | pair | others | fill
def Call.w : Call → W
  | .all k => .tup [.str "all", .int k]
  | .up f k => .tup [.str "up", .int f, .int k]
  | .swap f g => .tup [.str "swap", .int f, .int g]
  | .wheel f g k => .tup [.str "wheel", .int f, .int g, .int k]
  | .about => .tup [.str "about"]
  | .front f g => .tup [.str "front", .int f, .int g]
  | .halve => .tup [.str "halve"]
  | .pair => .tup [.str "pair"]
  | .others => .tup [.str "others"]
  | .fill => .tup [.str "fill"]
/-- files that there are, two of them -/
def Two (F f g : Int) : Prop := 0 ≤ f ∧ f < F ∧ 0 ≤ g ∧ g < F ∧ f ≠ g
def Call.ok (F : Int) : Call → Prop
  | .all _ => True
  | .up f _ => 0 ≤ f ∧ f < F
  | .swap f g => Two F f g
  | .wheel f g _ => Two F f g
  | .front f g => Two F f g
  | _ => True
def whl (R g h k : Int) (p : Int × Int) : Int × Int :=
  if p.2 ≠ g ∧ p.2 ≠ h then p else
    let s := ((if p.2 = g then R - 1 - p.1 else R + p.1) + k) % (2 * R)
    if s < R then (R - 1 - s, g) else (s - R, h)
def mv (F R : Int) (c : Call) (p : Int × Int) : Int × Int := match c with
  | .all k => ((p.1 - k) % R, p.2)
  | .up g k => if p.2 = g then ((p.1 - k) % R, p.2) else p
  | .about => (R - 1 - p.1, F - 1 - p.2)
  | .wheel g h k => whl R g h k p
  | .swap g h => if p.2 ≠ g ∧ p.2 ≠ h then p else (p.1, if p.2 = g then h else g)
  | .front g h => if (p.2 ≠ g ∧ p.2 ≠ h) ∨ 0 < p.1 then p else (p.1, if p.2 = g then h else g)
  | .halve => ((p.1 * F + p.2) % R, (p.1 * F + p.2) / R)
  | .pair => ((p.2 * R + p.1) / F, (p.2 * R + p.1) % F)
  | .others => if p.1 % 2 = 0 then (p.1 / 2, p.2) else ((R + 1) / 2 + p.1 / 2, p.2)
  | .fill => if p.1 < (R + 1) / 2 then (2 * p.1, p.2) else (2 * (p.1 - (R + 1) / 2) + 1, p.2)
/-- a place of the line -/
def At (F R : Int) (p : Int × Int) : Prop := 0 ≤ p.1 ∧ p.1 < R ∧ 0 ≤ p.2 ∧ p.2 < F
def Call.opn : Call → Bool
  | .halve => true
  | .pair => true
  | .others => true
  | .fill => true
  | _ => false
/-- a call's word -/
def Call.word : Call → Str
  | .all _ => "all"
  | .up _ _ => "up"
  | .swap _ _ => "swap"
  | .wheel _ _ _ => "wheel"
  | .about => "about"
  | .front _ _ => "front"
  | .halve => "halve"
  | .pair => "pair"
  | .others => "others"
  | .fill => "fill"
def Call.tn : Call → Call
  | .all k => .all (-k)
  | .up f k => .up f (-k)
  | .wheel f g k => .wheel f g (-k)
  | .halve => .pair
  | .pair => .halve
  | .others => .fill
  | .fill => .others
  | c => c
section
variable {F R : Int}
theorem ring_back {a k m : Int} (h0 : 0 ≤ a) (h1 : a < m) : ((a + k) % m + -k) % m = a := by
  have c : Cg m ((a + k) % m + -k) a := ((cg_mod m (a + k)).add (.refl (-k))).trans ⟨0, by grind⟩
  exact ((cg_mod m _).trans c).eq (Int.emod_nonneg _ (by omega)) (Int.emod_lt_of_pos _ (by omega)) h0 h1
theorem ring_back' {a k m : Int} (h0 : 0 ≤ a) (h1 : a < m) : ((a - k) % m - -k) % m = a := by
  have c : Cg m ((a - k) % m - -k) a := by
    have := (cg_mod m (a - k)).add (.refl k)
    rw [Int.sub_neg]
    exact this.trans ⟨0, by grind⟩
  exact ((cg_mod m _).trans c).eq (Int.emod_nonneg _ (by omega)) (Int.emod_lt_of_pos _ (by omega)) h0 h1
theorem num_in {r f : Int} (h : At F R (r, f)) : 0 ≤ r * F + f ∧ r * F + f < F * R := by
  obtain ⟨r0, r1, f0, f1⟩ := h
  simp only at r0 r1 f0 f1
  have a := Int.mul_nonneg r0 (show 0 ≤ F by omega)
  have b : r * F ≤ (R - 1) * F := Int.mul_le_mul_of_nonneg_right (by omega) (by omega)
  have e : (R - 1) * F = F * R - F := by grind
  omega
theorem at_swap {r f : Int} (h : At F R (r, f)) : At R F (f, r) := ⟨h.2.2.1, h.2.2.2, h.1, h.2.1⟩
theorem divmod_of {r f m : Int} (f0 : 0 ≤ f) (f1 : f < m) : (r * m + f) / m = r ∧ (r * m + f) % m = f := by
  constructor
  · rw [Int.add_comm, Int.add_mul_ediv_right _ _ (by omega), Int.ediv_eq_zero_of_lt f0 f1]; omega
  · rw [Int.add_comm, Int.add_mul_emod_self_right, Int.emod_eq_of_lt f0 f1]
theorem whl_seat {g h k s : Int} (hR : 0 < R) (hgh : g ≠ h) (s0 : 0 ≤ s) (s1 : s < 2 * R) : whl R g h k (if s < R then (R - 1 - s, g) else (s - R, h)) = (let t := (s + k) % (2 * R); if t < R then (R - 1 - t, g) else (t - R, h)) := by
  unfold whl
  by_cases z : s < R
  · rw [if_pos z]
    have e : (if (R - 1 - s, g).2 = g then R - 1 - (R - 1 - s, g).1 else R + (R - 1 - s, g).1) = s := by
      rw [if_pos rfl]
      show R - 1 - (R - 1 - s) = s
      omega
    rw [if_neg (fun y => y.1 rfl), e]
  · rw [if_neg z]
    have e : (if (s - R, h).2 = g then R - 1 - (s - R, h).1 else R + (s - R, h).1) = s := by
      rw [if_neg (show ¬ h = g from fun y => hgh y.symm)]
      show R + (s - R) = s
      omega
    rw [if_neg (fun y => y.2 rfl), e]
theorem whl_of {g h : Int} {p : Int × Int} (hR : 0 < R) (hgh : g ≠ h) (p0 : 0 ≤ p.1) (p1 : p.1 < R) (hp : ¬ (p.2 ≠ g ∧ p.2 ≠ h)) : ∃ s, 0 ≤ s ∧ s < 2 * R ∧ p = (if s < R then (R - 1 - s, g) else (s - R, h)) := by
  by_cases z : p.2 = g
  · refine ⟨R - 1 - p.1, by omega, by omega, ?_⟩
    rw [if_pos (by omega)]
    exact Prod.ext (by simp only; omega) z
  · refine ⟨R + p.1, by omega, by omega, ?_⟩
    rw [if_neg (by omega)]
    exact Prod.ext (by simp only; omega) (by simp only; omega)
theorem mv_in {c : Call} {p : Int × Int} (hF : 0 < F) (hR : 0 < R) (hc : c.ok F) (h : At F R p) : At F R (mv F R c p) := by
  obtain ⟨r, f⟩ := p
  have h' := h
  obtain ⟨r0, r1, f0, f1⟩ := h'
  simp only at r0 r1 f0 f1
  cases c with
  | all k => exact ⟨Int.emod_nonneg _ (by omega), Int.emod_lt_of_pos _ hR, f0, f1⟩
  | up g k =>
    show At F R (if f = g then ((r - k) % R, f) else (r, f))
    split
    · exact ⟨Int.emod_nonneg _ (by omega), Int.emod_lt_of_pos _ hR, f0, f1⟩
    · exact h
  | about =>
    refine ⟨?_, ?_, ?_, ?_⟩
    · show 0 ≤ R - 1 - r
      omega
    · show R - 1 - r < R
      omega
    · show 0 ≤ F - 1 - f
      omega
    · show F - 1 - f < F
      omega
  | wheel g h2 k =>
    obtain ⟨g0, g1, h0, h1, gh⟩ := hc
    show At F R (whl R g h2 k (r, f))
    unfold whl
    split
    · exact h
    · have s0 := Int.emod_nonneg ((if f = g then R - 1 - r else R + r) + k) (show (2 * R) ≠ 0 by omega)
      have s1 := Int.emod_lt_of_pos ((if f = g then R - 1 - r else R + r) + k) (show 0 < 2 * R by omega)
      simp only
      generalize ((if f = g then R - 1 - r else R + r) + k) % (2 * R) = s at *
      split
      · exact ⟨by simp only; omega, by simp only; omega, g0, g1⟩
      · exact ⟨by simp only; omega, by simp only; omega, h0, h1⟩
  | swap g h2 =>
    obtain ⟨g0, g1, h0, h1, gh⟩ := hc
    show At F R (if f ≠ g ∧ f ≠ h2 then (r, f) else (r, if f = g then h2 else g))
    split
    · exact h
    · split
      · exact ⟨r0, r1, h0, h1⟩
      · exact ⟨r0, r1, g0, g1⟩
  | front g h2 =>
    obtain ⟨g0, g1, h0, h1, gh⟩ := hc
    show At F R (if (f ≠ g ∧ f ≠ h2) ∨ 0 < r then (r, f) else (r, if f = g then h2 else g))
    split
    · exact h
    · split
      · exact ⟨r0, r1, h0, h1⟩
      · exact ⟨r0, r1, g0, g1⟩
  | halve =>
    obtain ⟨n0, n1⟩ := num_in h
    exact ⟨Int.emod_nonneg _ (by omega), Int.emod_lt_of_pos _ hR, Int.ediv_nonneg n0 (by omega), Int.ediv_lt_of_lt_mul hR n1⟩
  | pair =>
    obtain ⟨n0, n1⟩ := num_in (at_swap h)
    exact ⟨Int.ediv_nonneg n0 (by omega), Int.ediv_lt_of_lt_mul hF n1, Int.emod_nonneg _ (by omega), Int.emod_lt_of_pos _ hF⟩
  | others =>
    show At F R (if r % 2 = 0 then (r / 2, f) else ((R + 1) / 2 + r / 2, f))
    split
    · exact ⟨by simp only; omega, by simp only; omega, f0, f1⟩
    · exact ⟨by simp only; omega, by simp only; omega, f0, f1⟩
  | fill =>
    show At F R (if r < (R + 1) / 2 then (2 * r, f) else (2 * (r - (R + 1) / 2) + 1, f))
    split
    · exact ⟨by simp only; omega, by simp only; omega, f0, f1⟩
    · exact ⟨by simp only; omega, by simp only; omega, f0, f1⟩
theorem Call.tn_ok {c : Call} (h : c.ok F) : c.tn.ok F := by cases c <;> exact h
theorem mv_tn {c : Call} {p : Int × Int} (hF : 0 < F) (hR : 0 < R) (hc : c.ok F) (h : At F R p) : mv F R c.tn (mv F R c p) = p := by
  obtain ⟨r, f⟩ := p
  have h' := h
  obtain ⟨r0, r1, f0, f1⟩ := h'
  simp only at r0 r1 f0 f1
  cases c with
  | all k => exact Prod.ext (ring_back' r0 r1) rfl
  | up g k =>
    show mv F R (.up g (-k)) (if f = g then ((r - k) % R, f) else (r, f)) = (r, f)
    by_cases z : f = g
    · rw [if_pos z]
      show (if f = g then (((r - k) % R - -k) % R, f) else ((r - k) % R, f)) = (r, f)
      rw [if_pos z, ring_back' r0 r1]
    · rw [if_neg z]
      exact if_neg z
  | about =>
    refine Prod.ext ?_ ?_
    · show R - 1 - (R - 1 - r) = r
      omega
    · show F - 1 - (F - 1 - f) = f
      omega
  | wheel g h2 k =>
    obtain ⟨g0, g1, h0, h1, gh⟩ := hc
    show whl R g h2 (-k) (whl R g h2 k (r, f)) = (r, f)
    by_cases z : f ≠ g ∧ f ≠ h2
    · rw [show whl R g h2 k (r, f) = (r, f) from if_pos z]
      exact if_pos z
    · obtain ⟨s, s0, s1, e⟩ := whl_of (p := (r, f)) hR gh r0 r1 z
      rw [e, whl_seat hR gh s0 s1]
      simp only
      rw [whl_seat hR gh (Int.emod_nonneg _ (by omega)) (Int.emod_lt_of_pos _ (by omega)), ring_back s0 s1]
  | swap g h2 =>
    obtain ⟨g0, g1, h0, h1, gh⟩ := hc
    show mv F R (.swap g h2) (if f ≠ g ∧ f ≠ h2 then (r, f) else (r, if f = g then h2 else g)) = (r, f)
    by_cases z : f ≠ g ∧ f ≠ h2
    · rw [if_pos z]
      exact if_pos z
    · rw [if_neg z]
      by_cases y : f = g
      · rw [if_pos y]
        show (if h2 ≠ g ∧ h2 ≠ h2 then (r, h2) else (r, if h2 = g then h2 else g)) = (r, f)
        rw [if_neg (by omega), if_neg (fun e => gh e.symm), y]
      · rw [if_neg y]
        show (if g ≠ g ∧ g ≠ h2 then (r, g) else (r, if g = g then h2 else g)) = (r, f)
        rw [if_neg (by omega), if_pos rfl]
        exact Prod.ext rfl (by simp only; omega)
  | front g h2 =>
    obtain ⟨g0, g1, h0, h1, gh⟩ := hc
    show mv F R (.front g h2) (if (f ≠ g ∧ f ≠ h2) ∨ 0 < r then (r, f) else (r, if f = g then h2 else g)) = (r, f)
    by_cases z : (f ≠ g ∧ f ≠ h2) ∨ 0 < r
    · rw [if_pos z]
      exact if_pos z
    · rw [if_neg z]
      by_cases y : f = g
      · rw [if_pos y]
        show (if (h2 ≠ g ∧ h2 ≠ h2) ∨ 0 < r then (r, h2) else (r, if h2 = g then h2 else g)) = (r, f)
        rw [if_neg (by omega), if_neg (fun e => gh e.symm), y]
      · rw [if_neg y]
        show (if (g ≠ g ∧ g ≠ h2) ∨ 0 < r then (r, g) else (r, if g = g then h2 else g)) = (r, f)
        rw [if_neg (by omega), if_pos rfl]
        exact Prod.ext rfl (by simp only; omega)
  | halve =>
    have e := Int.mul_ediv_add_emod (r * F + f) R
    show (((r * F + f) / R * R + (r * F + f) % R) / F, ((r * F + f) / R * R + (r * F + f) % R) % F) = (r, f)
    rw [Int.mul_comm, e, (divmod_of f0 f1).1, (divmod_of f0 f1).2]
  | pair =>
    have e := Int.mul_ediv_add_emod (f * R + r) F
    show (((f * R + r) / F * F + (f * R + r) % F) % R, ((f * R + r) / F * F + (f * R + r) % F) / R) = (r, f)
    rw [Int.mul_comm, e, (divmod_of r0 r1).1, (divmod_of r0 r1).2]
  | others =>
    show mv F R .fill (if r % 2 = 0 then (r / 2, f) else ((R + 1) / 2 + r / 2, f)) = (r, f)
    by_cases z : r % 2 = 0
    · rw [if_pos z]
      show (if r / 2 < (R + 1) / 2 then (2 * (r / 2), f) else (2 * (r / 2 - (R + 1) / 2) + 1, f)) = (r, f)
      rw [if_pos (by omega)]
      exact Prod.ext (by simp only; omega) rfl
    · rw [if_neg z]
      show (if (R + 1) / 2 + r / 2 < (R + 1) / 2 then (2 * ((R + 1) / 2 + r / 2), f) else (2 * ((R + 1) / 2 + r / 2 - (R + 1) / 2) + 1, f)) = (r, f)
      rw [if_neg (by omega)]
      exact Prod.ext (by simp only; omega) rfl
  | fill =>
    show mv F R .others (if r < (R + 1) / 2 then (2 * r, f) else (2 * (r - (R + 1) / 2) + 1, f)) = (r, f)
    by_cases z : r < (R + 1) / 2
    · rw [if_pos z]
      show (if 2 * r % 2 = 0 then (2 * r / 2, f) else ((R + 1) / 2 + 2 * r / 2, f)) = (r, f)
      rw [if_pos (by omega)]
      exact Prod.ext (by simp only; omega) rfl
    · rw [if_neg z]
      show (if (2 * (r - (R + 1) / 2) + 1) % 2 = 0 then ((2 * (r - (R + 1) / 2) + 1) / 2, f) else ((R + 1) / 2 + (2 * (r - (R + 1) / 2) + 1) / 2, f)) = (r, f)
      rw [if_neg (by omega)]
      exact Prod.ext (by simp only; omega) rfl
end
local macro_rules | `(tactic| walk_at "r") => `(tactic| simp (decide := true) only [bodyI, start0, sSeq, sNext, sNever, sCont, sBreak, sDrop, sRet, sRetN, sRet0, sRetO, sIf, sSet, sSetN, sSetP, sPar, sParEN, sParNE, sPar3, sAsg, gNm, gsNil, gsCons, gTp, sAugI, sIxO, sIxS, sAugS, stoL, setW, iVar, iC, iNil, iCons, iTup, iLst, nLst, iFz, iB, gAdd, gI, gIC, gSub, gMul, gDiv, gMod, gPow, gLt, gLe, gGt, gGe, gEq, gNe, gIn, gIsN, isN, iNeg, tTru', gTru, tBl, iChain, tAnd', tOr', tNot', tYes', iIf, iAnd, iOr, iNot, iIx, gIx, atW, iIxO, ownL, oNone, oSome, iSl, gSl, iRevL, iCall, nCall, iFn, Stt.put, Stt.puts, iMtO, gAppend, gInsert, gExtend, gLen, iLenO, gAbs, gInt, gMinMax, gList, gTuple, iListRg, gIsi, tyN, gRepr, cut_13, cut_1_2, cut_1_3, cut_m2, cut_m3, cut_m4, atI_m2, atI_m3, atI_m4, iOfT, tKdIn, iKdIx, atI_0, atI_1, atI_2, atI_3, ixN_4_0, ixN_4_1, ixN_4_2, ixN_4_3, Sto.put_same, Sto.put_put, toNat_2, List.map, List.replicate, List.length_cons, List.length_nil, List.getElem?_cons_zero, List.getElem?_cons_succ, List.getElem?_nil, List.set_cons_zero, List.set_cons_succ, List.set_nil, List.cons_append, List.nil_append, List.append_nil, if_true, if_false, fz_val, fz_new, so_lst, so_dct, so_ins, eqW_ii, eqW_ss, eqW_tt, eqW_ll, eqW_nn, eqW_bb, eqW_ni, eqW_in, eqW_nt, eqW_tn, eqW_nl, eqW_ln, eqW_is, eqW_si, eqWs_nil, eqWs_cons, eqWs_nc, eqWs_cn, okD_int, okD_str, okD_bl, okD_non, okD_tup, okD_lst, eqOk_ii, eqOk_ss, eqOk_nn, eqOk_bb, eqOk_in, eqOk_ni, eqOk_tt, eqOk_ll, flatW_int, flatW_str, flatW_bl, flatW_non, inW, List.any_cons, List.any_nil, List.all_cons, List.all_nil, Bool.or_false, Bool.or_true, Bool.true_or, Bool.false_or, Bool.and_true, Bool.true_and, Bool.and_false, Bool.false_and, Bool.not_true, Bool.not_false, Bool.false_eq_true, true_and, and_true, beq_self_eq_true, List.isEmpty_cons, List.isEmpty_nil, Int.reduceNeg, eq_self, forall_const, iFld, objOf, iProp, iMeth, nMake, iInv, iMulM, iLenM, iIsi, sAtt, iRevT, lIter, nRep, lEnum, lZip, iEqM, gOwn, iDGet2, iAddO, nDisp, nDNew, iPairs, keysW, keyW, nFn, gListN, nListRg, iTupRg, nIf, sParM, iItems, putsR, Sh.R.slot, gIsB, isB, iPeek, tPeek, iPeekS, Stt.ps, noOwn, gInD, nPeek, Stt.pk, frzS, plainW, plainWs, tyS, tyIn, cOk, isAny, isOne, Option.map_some, lk_ne, List.lookup_nil, putW, lk_self, iXf, iIsE, Hnd.w, sRaise1, sRaise0, sTryE, gMax3, gEqN, gReprN, iIdxT, iIdxL, iInRg, nListM, iBR, iFnR, iPub, iMtR, drW, drWs, nOwn, nMeth, nSl, nAdd, nAddO, iMtN, sAugL, gSortedG, tTruO, refW_tup, refW_lst, refW_dct, refW_int, refW_str, refW_bl, refW_non])
local macro_rules | `(tactic| walk_at "rsFor_lSeq_gItems") => `(tactic| simp (decide := true) only [bodyI, start0, sSeq, sNext, sNever, sCont, sBreak, sDrop, sRet, sRetN, sRet0, sRetO, sIf, sSet, sSetN, sSetP, sPar, sParEN, sParNE, sPar3, sAsg, gNm, gsNil, gsCons, gTp, sAugI, sIxO, sIxS, sAugS, stoL, setW, iVar, iC, iNil, iCons, iTup, iLst, nLst, iFz, iB, gAdd, gI, gIC, gSub, gMul, gDiv, gMod, gPow, gLt, gLe, gGt, gGe, gEq, gNe, gIn, gIsN, isN, iNeg, tTru', gTru, tBl, iChain, tAnd', tOr', tNot', tYes', iIf, iAnd, iOr, iNot, iIx, gIx, atW, iIxO, ownL, oNone, oSome, iSl, gSl, iRevL, iCall, nCall, iFn, Stt.put, Stt.puts, iMtO, gAppend, gInsert, gExtend, gLen, iLenO, gAbs, gInt, gMinMax, gList, gTuple, iListRg, gIsi, tyN, gRepr, cut_13, cut_1_2, cut_1_3, cut_m2, cut_m3, cut_m4, atI_m2, atI_m3, atI_m4, iOfT, tKdIn, iKdIx, atI_0, atI_1, atI_2, atI_3, ixN_4_0, ixN_4_1, ixN_4_2, ixN_4_3, Sto.put_same, Sto.put_put, toNat_2, List.map, List.replicate, List.length_cons, List.length_nil, List.getElem?_cons_zero, List.getElem?_cons_succ, List.getElem?_nil, List.set_cons_zero, List.set_cons_succ, List.set_nil, List.cons_append, List.nil_append, List.append_nil, if_true, if_false, fz_val, fz_new, so_lst, so_dct, so_ins, eqW_ii, eqW_ss, eqW_tt, eqW_ll, eqW_nn, eqW_bb, eqW_ni, eqW_in, eqW_nt, eqW_tn, eqW_nl, eqW_ln, eqW_is, eqW_si, eqWs_nil, eqWs_cons, eqWs_nc, eqWs_cn, okD_int, okD_str, okD_bl, okD_non, okD_tup, okD_lst, eqOk_ii, eqOk_ss, eqOk_nn, eqOk_bb, eqOk_in, eqOk_ni, eqOk_tt, eqOk_ll, flatW_int, flatW_str, flatW_bl, flatW_non, inW, List.any_cons, List.any_nil, List.all_cons, List.all_nil, Bool.or_false, Bool.or_true, Bool.true_or, Bool.false_or, Bool.and_true, Bool.true_and, Bool.and_false, Bool.false_and, Bool.not_true, Bool.not_false, Bool.false_eq_true, true_and, and_true, beq_self_eq_true, List.isEmpty_cons, List.isEmpty_nil, Int.reduceNeg, eq_self, forall_const, iFld, objOf, iProp, iMeth, nMake, iInv, iMulM, iLenM, iIsi, sAtt, iRevT, lIter, nRep, lEnum, lZip, iEqM, gOwn, iDGet2, iAddO, nDisp, nDNew, iPairs, keysW, keyW, nFn, gListN, nListRg, iTupRg, nIf, sParM, iItems, putsR, Sh.R.slot, gIsB, isB, iPeek, tPeek, iPeekS, Stt.ps, noOwn, gInD, nPeek, Stt.pk, frzS, plainW, plainWs, tyS, tyIn, cOk, isAny, isOne, Option.map_some, lk_ne, List.lookup_nil, putW, lk_self, iXf, iIsE, Hnd.w, sRaise1, sRaise0, sTryE, gMax3, gEqN, gReprN, iIdxT, iIdxL, iInRg, nListM, iBR, iFnR, iPub, iMtR, drW, drWs, nOwn, nMeth, nSl, nAdd, nAddO, iMtN, sAugL, gSortedG, tTruO, refW_tup, refW_lst, refW_dct, refW_int, refW_str, refW_bl, refW_non, sFor, lSeq, gItems])
local macro_rules | `(tactic| walk_at "rsFor_lRange1") => `(tactic| simp (decide := true) only [bodyI, start0, sSeq, sNext, sNever, sCont, sBreak, sDrop, sRet, sRetN, sRet0, sRetO, sIf, sSet, sSetN, sSetP, sPar, sParEN, sParNE, sPar3, sAsg, gNm, gsNil, gsCons, gTp, sAugI, sIxO, sIxS, sAugS, stoL, setW, iVar, iC, iNil, iCons, iTup, iLst, nLst, iFz, iB, gAdd, gI, gIC, gSub, gMul, gDiv, gMod, gPow, gLt, gLe, gGt, gGe, gEq, gNe, gIn, gIsN, isN, iNeg, tTru', gTru, tBl, iChain, tAnd', tOr', tNot', tYes', iIf, iAnd, iOr, iNot, iIx, gIx, atW, iIxO, ownL, oNone, oSome, iSl, gSl, iRevL, iCall, nCall, iFn, Stt.put, Stt.puts, iMtO, gAppend, gInsert, gExtend, gLen, iLenO, gAbs, gInt, gMinMax, gList, gTuple, iListRg, gIsi, tyN, gRepr, cut_13, cut_1_2, cut_1_3, cut_m2, cut_m3, cut_m4, atI_m2, atI_m3, atI_m4, iOfT, tKdIn, iKdIx, atI_0, atI_1, atI_2, atI_3, ixN_4_0, ixN_4_1, ixN_4_2, ixN_4_3, Sto.put_same, Sto.put_put, toNat_2, List.map, List.replicate, List.length_cons, List.length_nil, List.getElem?_cons_zero, List.getElem?_cons_succ, List.getElem?_nil, List.set_cons_zero, List.set_cons_succ, List.set_nil, List.cons_append, List.nil_append, List.append_nil, if_true, if_false, fz_val, fz_new, so_lst, so_dct, so_ins, eqW_ii, eqW_ss, eqW_tt, eqW_ll, eqW_nn, eqW_bb, eqW_ni, eqW_in, eqW_nt, eqW_tn, eqW_nl, eqW_ln, eqW_is, eqW_si, eqWs_nil, eqWs_cons, eqWs_nc, eqWs_cn, okD_int, okD_str, okD_bl, okD_non, okD_tup, okD_lst, eqOk_ii, eqOk_ss, eqOk_nn, eqOk_bb, eqOk_in, eqOk_ni, eqOk_tt, eqOk_ll, flatW_int, flatW_str, flatW_bl, flatW_non, inW, List.any_cons, List.any_nil, List.all_cons, List.all_nil, Bool.or_false, Bool.or_true, Bool.true_or, Bool.false_or, Bool.and_true, Bool.true_and, Bool.and_false, Bool.false_and, Bool.not_true, Bool.not_false, Bool.false_eq_true, true_and, and_true, beq_self_eq_true, List.isEmpty_cons, List.isEmpty_nil, Int.reduceNeg, eq_self, forall_const, iFld, objOf, iProp, iMeth, nMake, iInv, iMulM, iLenM, iIsi, sAtt, iRevT, lIter, nRep, lEnum, lZip, iEqM, gOwn, iDGet2, iAddO, nDisp, nDNew, iPairs, keysW, keyW, nFn, gListN, nListRg, iTupRg, nIf, sParM, iItems, putsR, Sh.R.slot, gIsB, isB, iPeek, tPeek, iPeekS, Stt.ps, noOwn, gInD, nPeek, Stt.pk, frzS, plainW, plainWs, tyS, tyIn, cOk, isAny, isOne, Option.map_some, lk_ne, List.lookup_nil, putW, lk_self, iXf, iIsE, Hnd.w, sRaise1, sRaise0, sTryE, gMax3, gEqN, gReprN, iIdxT, iIdxL, iInRg, nListM, iBR, iFnR, iPub, iMtR, drW, drWs, nOwn, nMeth, nSl, nAdd, nAddO, iMtN, sAugL, gSortedG, tTruO, refW_tup, refW_lst, refW_dct, refW_int, refW_str, refW_bl, refW_non, sFor, lRange1])
local macro_rules | `(tactic| walk_at "rnLc_lRange1") => `(tactic| simp (decide := true) only [bodyI, start0, sSeq, sNext, sNever, sCont, sBreak, sDrop, sRet, sRetN, sRet0, sRetO, sIf, sSet, sSetN, sSetP, sPar, sParEN, sParNE, sPar3, sAsg, gNm, gsNil, gsCons, gTp, sAugI, sIxO, sIxS, sAugS, stoL, setW, iVar, iC, iNil, iCons, iTup, iLst, nLst, iFz, iB, gAdd, gI, gIC, gSub, gMul, gDiv, gMod, gPow, gLt, gLe, gGt, gGe, gEq, gNe, gIn, gIsN, isN, iNeg, tTru', gTru, tBl, iChain, tAnd', tOr', tNot', tYes', iIf, iAnd, iOr, iNot, iIx, gIx, atW, iIxO, ownL, oNone, oSome, iSl, gSl, iRevL, iCall, nCall, iFn, Stt.put, Stt.puts, iMtO, gAppend, gInsert, gExtend, gLen, iLenO, gAbs, gInt, gMinMax, gList, gTuple, iListRg, gIsi, tyN, gRepr, cut_13, cut_1_2, cut_1_3, cut_m2, cut_m3, cut_m4, atI_m2, atI_m3, atI_m4, iOfT, tKdIn, iKdIx, atI_0, atI_1, atI_2, atI_3, ixN_4_0, ixN_4_1, ixN_4_2, ixN_4_3, Sto.put_same, Sto.put_put, toNat_2, List.map, List.replicate, List.length_cons, List.length_nil, List.getElem?_cons_zero, List.getElem?_cons_succ, List.getElem?_nil, List.set_cons_zero, List.set_cons_succ, List.set_nil, List.cons_append, List.nil_append, List.append_nil, if_true, if_false, fz_val, fz_new, so_lst, so_dct, so_ins, eqW_ii, eqW_ss, eqW_tt, eqW_ll, eqW_nn, eqW_bb, eqW_ni, eqW_in, eqW_nt, eqW_tn, eqW_nl, eqW_ln, eqW_is, eqW_si, eqWs_nil, eqWs_cons, eqWs_nc, eqWs_cn, okD_int, okD_str, okD_bl, okD_non, okD_tup, okD_lst, eqOk_ii, eqOk_ss, eqOk_nn, eqOk_bb, eqOk_in, eqOk_ni, eqOk_tt, eqOk_ll, flatW_int, flatW_str, flatW_bl, flatW_non, inW, List.any_cons, List.any_nil, List.all_cons, List.all_nil, Bool.or_false, Bool.or_true, Bool.true_or, Bool.false_or, Bool.and_true, Bool.true_and, Bool.and_false, Bool.false_and, Bool.not_true, Bool.not_false, Bool.false_eq_true, true_and, and_true, beq_self_eq_true, List.isEmpty_cons, List.isEmpty_nil, Int.reduceNeg, eq_self, forall_const, iFld, objOf, iProp, iMeth, nMake, iInv, iMulM, iLenM, iIsi, sAtt, iRevT, lIter, nRep, lEnum, lZip, iEqM, gOwn, iDGet2, iAddO, nDisp, nDNew, iPairs, keysW, keyW, nFn, gListN, nListRg, iTupRg, nIf, sParM, iItems, putsR, Sh.R.slot, gIsB, isB, iPeek, tPeek, iPeekS, Stt.ps, noOwn, gInD, nPeek, Stt.pk, frzS, plainW, plainWs, tyS, tyIn, cOk, isAny, isOne, Option.map_some, lk_ne, List.lookup_nil, putW, lk_self, iXf, iIsE, Hnd.w, sRaise1, sRaise0, sTryE, gMax3, gEqN, gReprN, iIdxT, iIdxL, iInRg, nListM, iBR, iFnR, iPub, iMtR, drW, drWs, nOwn, nMeth, nSl, nAdd, nAddO, iMtN, sAugL, gSortedG, tTruO, refW_tup, refW_lst, refW_dct, refW_int, refW_str, refW_bl, refW_non, nLc, lRange1])
def Bg (S : Sto) (a : Addr) : Prop := ∃ o, S a = some o ∧ IsBag o
structure Bx (a : Addr) (S S' : Sto) : Prop where
  bg : Bg S' a
  fr : ∀ b, b ≠ a → S' b = S b
theorem Bx.refl {a : Addr} {S : Sto} (h : Bg S a) : Bx a S S := ⟨h, fun _ _ => rfl⟩
theorem Bx.trans {a : Addr} {S S1 S2 : Sto} (h : Bx a S S1) (k : Bx a S1 S2) : Bx a S S2 := ⟨k.bg, fun b n => (k.fr b n).trans (h.fr b n)⟩
theorem Bx.put {a : Addr} {S : Sto} {o : SO} (h : IsBag o) : Bx a S (S.put a o) := ⟨⟨o, Sto.put_same, h⟩, fun _ n => Sto.put_ne n⟩
theorem bd_of {n : Int} (h0 : -1000000000000 ≤ n) (h1 : n ≤ 1000000000000) : Bd n := by unfold Bd lim; omega
section
variable {a : Addr} {S : Sto} {Q : R → Sto → Prop} {E : Exn → Sto → Prop}
theorem cl_take {n : Int} (hn : 0 < n) (bn : Bd n) (hb : Bg S a) (k : ∀ r S', 0 ≤ r → r < n → Bx a S S' → Q (.val (.int r)) S') : sp_l_take [.ref a, .int n] S Q E := by
  obtain ⟨o, ho, hb⟩ := hb
  exact ⟨a, n, o, rfl, hn, bn, ho, hb, fun r o' r0 r1 hb' => k r _ r0 r1 (.put hb')⟩
theorem cl_one {xs : List W} (hx : xs ≠ []) (hl : xs.length < 1000000000) (hb : Bg S a) (k : ∀ x S', x ∈ xs → Bx a S S' → Q (.val x) S') : sp_l_one [.ref a, .lst xs] S Q E := by
  obtain ⟨o, ho, hb⟩ := hb
  exact ⟨a, xs, o, rfl, hx, hl, ho, hb, fun x o' hx' hb' => k x _ hx' (.put hb')⟩
end
theorem rng_mem' {lo : Int} {n : Nat} {w : W} (h : w ∈ rng lo n) : ∃ i : Int, w = .int i ∧ lo ≤ i ∧ i < lo + n := by
  unfold rng at h
  obtain ⟨i, hi, e⟩ := List.mem_map.mp h
  have := List.mem_range.mp hi
  exact ⟨lo + i, e.symm, by omega, by omega⟩
/-- what is drawn for k -/
def Call.lt (m : Int) : Call → Prop
  | .all k => k ≠ 0 ∧ -m ≤ k ∧ k ≤ m
  | .up _ k => k ≠ 0 ∧ -m ≤ k ∧ k ≤ m
  | .wheel _ _ k => k ≠ 0 ∧ -m ≤ k ∧ k ≤ m
  | _ => True
theorem for_rng {g : IG} {body : IS} {EI : XI} {D : IEnds} {lo : Int} (I : Nat → Stt → Prop) (n : Nat) (st : Stt) (h0 : I 0 st) (hd : ∀ st, I n st → D.nx st)
    (hs : ∀ i, i < n → ∀ st (nx : Stt → Prop), I i st → (∀ st', I (i + 1) st' → nx st') → g (.int (lo + i)) st fun st1 => body EI { nx := nx, ct := nx, bk := D.nx, rt := D.rt } st1) : forGo g body EI D (rng lo n) st := by
  have key : ∀ (m i : Nat) (st : Stt), i + m = n → I i st → forGo g body EI D ((List.range' i m).map fun (j : Nat) => W.int (lo + (j : Int))) st := by
    intro m
    induction m with
    | zero => intro i st e hi; exact hd st (by have : i = n := by omega
                                               rw [← this]; exact hi)
    | succ m ih =>
      intro i st e hi
      rw [List.range'_succ, List.map_cons]
      exact hs i (by omega) st _ hi fun st' h' => ih (i + 1) st' (by omega) h'
  have := key n 0 st (by omega) h0
  rw [← List.range_eq_range'] at this
  exact this
theorem lc_fn {g : IG} {ie : IE} {vs : List Nat} {Q : SO → Stt → Prop} {α : Type} (st0 : Stt) (enc f : α → W) (as : List α) (st : Stt) (h : ∀ a ∈ as, ∀ Y : W → Stt → Prop, (∀ st', st'.wipe vs = st0 → Y (f a) st') → g (enc a) st0 fun st1 => ie noX st1 Y)
    (e : st.wipe vs = st0) (hl : as.length ≤ sizeLine) (q : ∀ st', st'.wipe vs = st0 → Q (.lst (as.map f)) st') : lcGo g tYes' ie vs Q (as.map enc) [] st := by
  have key : ∀ (as' : List α) (acc : List W) (st : Stt), (∀ a ∈ as', a ∈ as) → st.wipe vs = st0 → acc.length + as'.length ≤ sizeLine → (∀ st', st'.wipe vs = st0 → Q (.lst (acc ++ as'.map f)) st') → lcGo g tYes' ie vs Q (as'.map enc) acc st := by
    intro as'
    induction as' with
    | nil =>
      intro acc st _ e _ q
      have := q st e
      rw [List.map_nil, List.append_nil] at this
      exact this
    | cons a as' ih =>
      intro acc st hm e hl q
      rw [List.length_cons] at hl
      show g (enc a) (st.wipe vs) fun st1 => if true = true then ie noX st1 fun y st3 => acc.length < sizeLine ∧ lcGo g tYes' ie vs Q (as'.map enc) (acc ++ [y]) st3 else lcGo g tYes' ie vs Q (as'.map enc) acc st1
      rw [e]
      simp only [if_true]
      refine h a (hm a (List.mem_cons_self ..)) _ fun st' es => ⟨by omega, ih _ _ (fun b hb => hm b (List.mem_cons_of_mem _ hb)) es (by rw [List.length_append, List.length_singleton]; omega) fun st2 e2 => ?_⟩
      have := q st2 e2
      rw [List.map_cons] at this
      rw [List.append_assoc]
      exact this
  exact key as [] st (fun _ h => h) e (by rw [List.length_nil]; omega) fun st' e => by rw [List.nil_append]; exact q st' e
local macro_rules | `(tactic| walk_at "rblsOf") => `(tactic| simp (decide := true) only [bodyI, start0, sSeq, sNext, sNever, sCont, sBreak, sDrop, sRet, sRetN, sRet0, sRetO, sIf, sSet, sSetN, sSetP, sPar, sParEN, sParNE, sPar3, sAsg, gNm, gsNil, gsCons, gTp, sAugI, sIxO, sIxS, sAugS, stoL, setW, iVar, iC, iNil, iCons, iTup, iLst, nLst, iFz, iB, gAdd, gI, gIC, gSub, gMul, gDiv, gMod, gPow, gLt, gLe, gGt, gGe, gEq, gNe, gIn, gIsN, isN, iNeg, tTru', gTru, tBl, iChain, tAnd', tOr', tNot', tYes', iIf, iAnd, iOr, iNot, iIx, gIx, atW, iIxO, ownL, oNone, oSome, iSl, gSl, iRevL, iCall, nCall, iFn, Stt.put, Stt.puts, iMtO, gAppend, gInsert, gExtend, gLen, iLenO, gAbs, gInt, gMinMax, gList, gTuple, iListRg, gIsi, tyN, gRepr, cut_13, cut_1_2, cut_1_3, cut_m2, cut_m3, cut_m4, atI_m2, atI_m3, atI_m4, iOfT, tKdIn, iKdIx, atI_0, atI_1, atI_2, atI_3, ixN_4_0, ixN_4_1, ixN_4_2, ixN_4_3, Sto.put_same, Sto.put_put, toNat_2, List.map, List.replicate, List.length_cons, List.length_nil, List.getElem?_cons_zero, List.getElem?_cons_succ, List.getElem?_nil, List.set_cons_zero, List.set_cons_succ, List.set_nil, List.cons_append, List.nil_append, List.append_nil, if_true, if_false, fz_val, fz_new, so_lst, so_dct, so_ins, eqW_ii, eqW_ss, eqW_tt, eqW_ll, eqW_nn, eqW_bb, eqW_ni, eqW_in, eqW_nt, eqW_tn, eqW_nl, eqW_ln, eqW_is, eqW_si, eqWs_nil, eqWs_cons, eqWs_nc, eqWs_cn, okD_int, okD_str, okD_bl, okD_non, okD_tup, okD_lst, eqOk_ii, eqOk_ss, eqOk_nn, eqOk_bb, eqOk_in, eqOk_ni, eqOk_tt, eqOk_ll, flatW_int, flatW_str, flatW_bl, flatW_non, inW, List.any_cons, List.any_nil, List.all_cons, List.all_nil, Bool.or_false, Bool.or_true, Bool.true_or, Bool.false_or, Bool.and_true, Bool.true_and, Bool.and_false, Bool.false_and, Bool.not_true, Bool.not_false, Bool.false_eq_true, true_and, and_true, beq_self_eq_true, List.isEmpty_cons, List.isEmpty_nil, Int.reduceNeg, eq_self, forall_const, iFld, objOf, iProp, iMeth, nMake, iInv, iMulM, iLenM, iIsi, sAtt, iRevT, lIter, nRep, lEnum, lZip, iEqM, gOwn, iDGet2, iAddO, nDisp, nDNew, iPairs, keysW, keyW, nFn, gListN, nListRg, iTupRg, nIf, sParM, iItems, putsR, Sh.R.slot, gIsB, isB, iPeek, tPeek, iPeekS, Stt.ps, noOwn, gInD, nPeek, Stt.pk, frzS, plainW, plainWs, tyS, tyIn, cOk, isAny, isOne, Option.map_some, lk_ne, List.lookup_nil, putW, lk_self, iXf, iIsE, Hnd.w, sRaise1, sRaise0, sTryE, gMax3, gEqN, gReprN, iIdxT, iIdxL, iInRg, nListM, iBR, iFnR, iPub, iMtR, drW, drWs, nOwn, nMeth, nSl, nAdd, nAddO, iMtN, sAugL, gSortedG, tTruO, refW_tup, refW_lst, refW_dct, refW_int, refW_str, refW_bl, refW_non, blsOf])
local macro_rules | `(tactic| simp! only [$xs,*]) => `(tactic| simp (decide := true) only [bodyI, start0, sSeq, sNext, sNever, sCont, sBreak, sDrop, sRet, sRetN, sRet0, sRetO, sIf, sSet, sSetN, sSetP, sPar, sParEN, sParNE, sPar3, sAsg, gNm, gsNil, gsCons, gTp, sAugI, sIxO, sIxS, sAugS, stoL, setW, iVar, iC, iNil, iCons, iTup, iLst, nLst, iFz, iB, gAdd, gI, gIC, gSub, gMul, gDiv, gMod, gPow, gLt, gLe, gGt, gGe, gEq, gNe, gIn, gIsN, isN, iNeg, tTru', gTru, tBl, iChain, tAnd', tOr', tNot', tYes', iIf, iAnd, iOr, iNot, iIx, gIx, atW, iIxO, ownL, oNone, oSome, iSl, gSl, iRevL, iCall, nCall, iFn, Stt.put, Stt.puts, iMtO, gAppend, gInsert, gExtend, gLen, iLenO, gAbs, gInt, gMinMax, gList, gTuple, iListRg, gIsi, tyN, gRepr, cut_13, cut_1_2, cut_1_3, cut_m2, cut_m3, cut_m4, atI_m2, atI_m3, atI_m4, iOfT, tKdIn, iKdIx, atI_0, atI_1, atI_2, atI_3, ixN_4_0, ixN_4_1, ixN_4_2, ixN_4_3, Sto.put_same, Sto.put_put, toNat_2, List.map, List.replicate, List.length_cons, List.length_nil, List.getElem?_cons_zero, List.getElem?_cons_succ, List.getElem?_nil, List.set_cons_zero, List.set_cons_succ, List.set_nil, List.cons_append, List.nil_append, List.append_nil, if_true, if_false, fz_val, fz_new, so_lst, so_dct, so_ins, eqW_ii, eqW_ss, eqW_tt, eqW_ll, eqW_nn, eqW_bb, eqW_ni, eqW_in, eqW_nt, eqW_tn, eqW_nl, eqW_ln, eqW_is, eqW_si, eqWs_nil, eqWs_cons, eqWs_nc, eqWs_cn, okD_int, okD_str, okD_bl, okD_non, okD_tup, okD_lst, eqOk_ii, eqOk_ss, eqOk_nn, eqOk_bb, eqOk_in, eqOk_ni, eqOk_tt, eqOk_ll, flatW_int, flatW_str, flatW_bl, flatW_non, inW, List.any_cons, List.any_nil, List.all_cons, List.all_nil, Bool.or_false, Bool.or_true, Bool.true_or, Bool.false_or, Bool.and_true, Bool.true_and, Bool.and_false, Bool.false_and, Bool.not_true, Bool.not_false, Bool.false_eq_true, true_and, and_true, beq_self_eq_true, List.isEmpty_cons, List.isEmpty_nil, Int.reduceNeg, eq_self, forall_const, iFld, objOf, iProp, iMeth, nMake, iInv, iMulM, iLenM, iIsi, sAtt, iRevT, lIter, nRep, lEnum, lZip, iEqM, gOwn, iDGet2, iAddO, nDisp, nDNew, iPairs, keysW, keyW, nFn, gListN, nListRg, iTupRg, nIf, sParM, iItems, putsR, Sh.R.slot, gIsB, isB, iPeek, tPeek, iPeekS, Stt.ps, noOwn, gInD, nPeek, Stt.pk, frzS, plainW, plainWs, tyS, tyIn, cOk, isAny, isOne, Option.map_some, lk_ne, List.lookup_nil, putW, lk_self, iXf, iIsE, Hnd.w, sRaise1, sRaise0, sTryE, gMax3, gEqN, gReprN, iIdxT, iIdxL, iInRg, nListM, iBR, iFnR, iPub, iMtR, drW, drWs, nOwn, nMeth, nSl, nAdd, nAddO, iMtN, sAugL, gSortedG, tTruO, refW_tup, refW_lst, refW_dct, refW_int, refW_str, refW_bl, refW_non, $xs,*])
/-- k is not 0 -/
def Call.nz : Call → Prop
  | .all k => k ≠ 0
  | .up _ k => k ≠ 0
  | .wheel _ _ k => k ≠ 0
  | _ => True
structure Call.gd (F : Int) (c : Call) : Prop where
  ok : c.ok F
  nz : c.nz
section
variable {α : Type} {a b c d : α}
end
local macro_rules | `(tactic| walk_at "rkitB_nLc_lSeq_gItems") => `(tactic| simp (decide := true) only [bodyI, start0, sSeq, sNext, sNever, sCont, sBreak, sDrop, sRet, sRetN, sRet0, sRetO, sIf, sSet, sSetN, sSetP, sPar, sParEN, sParNE, sPar3, sAsg, gNm, gsNil, gsCons, gTp, sAugI, sIxO, sIxS, sAugS, stoL, setW, iVar, iC, iNil, iCons, iTup, iLst, nLst, iFz, iB, gAdd, gI, gIC, gSub, gMul, gDiv, gMod, gPow, gLt, gLe, gGt, gGe, gEq, gNe, gIn, gIsN, isN, iNeg, tTru', gTru, tBl, iChain, tAnd', tOr', tNot', tYes', iIf, iAnd, iOr, iNot, iIx, gIx, atW, iIxO, ownL, oNone, oSome, iSl, gSl, iRevL, iCall, nCall, iFn, Stt.put, Stt.puts, iMtO, gAppend, gInsert, gExtend, gLen, iLenO, gAbs, gInt, gMinMax, gList, gTuple, iListRg, gIsi, tyN, gRepr, cut_13, cut_1_2, cut_1_3, cut_m2, cut_m3, cut_m4, atI_m2, atI_m3, atI_m4, iOfT, tKdIn, iKdIx, atI_0, atI_1, atI_2, atI_3, ixN_4_0, ixN_4_1, ixN_4_2, ixN_4_3, Sto.put_same, Sto.put_put, toNat_2, List.map, List.replicate, List.length_cons, List.length_nil, List.getElem?_cons_zero, List.getElem?_cons_succ, List.getElem?_nil, List.set_cons_zero, List.set_cons_succ, List.set_nil, List.cons_append, List.nil_append, List.append_nil, if_true, if_false, fz_val, fz_new, so_lst, so_dct, so_ins, eqW_ii, eqW_ss, eqW_tt, eqW_ll, eqW_nn, eqW_bb, eqW_ni, eqW_in, eqW_nt, eqW_tn, eqW_nl, eqW_ln, eqW_is, eqW_si, eqWs_nil, eqWs_cons, eqWs_nc, eqWs_cn, okD_int, okD_str, okD_bl, okD_non, okD_tup, okD_lst, eqOk_ii, eqOk_ss, eqOk_nn, eqOk_bb, eqOk_in, eqOk_ni, eqOk_tt, eqOk_ll, flatW_int, flatW_str, flatW_bl, flatW_non, inW, List.any_cons, List.any_nil, List.all_cons, List.all_nil, Bool.or_false, Bool.or_true, Bool.true_or, Bool.false_or, Bool.and_true, Bool.true_and, Bool.and_false, Bool.false_and, Bool.not_true, Bool.not_false, Bool.false_eq_true, true_and, and_true, beq_self_eq_true, List.isEmpty_cons, List.isEmpty_nil, Int.reduceNeg, eq_self, forall_const, iFld, objOf, iProp, iMeth, nMake, iInv, iMulM, iLenM, iIsi, sAtt, iRevT, lIter, nRep, lEnum, lZip, iEqM, gOwn, iDGet2, iAddO, nDisp, nDNew, iPairs, keysW, keyW, nFn, gListN, nListRg, iTupRg, nIf, sParM, iItems, putsR, Sh.R.slot, gIsB, isB, iPeek, tPeek, iPeekS, Stt.ps, noOwn, gInD, nPeek, Stt.pk, frzS, plainW, plainWs, tyS, tyIn, cOk, isAny, isOne, Option.map_some, lk_ne, List.lookup_nil, putW, lk_self, iXf, iIsE, Hnd.w, sRaise1, sRaise0, sTryE, gMax3, gEqN, gReprN, iIdxT, iIdxL, iInRg, nListM, iBR, iFnR, iPub, iMtR, drW, drWs, nOwn, nMeth, nSl, nAdd, nAddO, iMtN, sAugL, gSortedG, tTruO, refW_tup, refW_lst, refW_dct, refW_int, refW_str, refW_bl, refW_non, kitB, nLc, lSeq, gItems])
local macro_rules | `(tactic| walk_at "rnLc_lSeq_gItems") => `(tactic| simp (decide := true) only [bodyI, start0, sSeq, sNext, sNever, sCont, sBreak, sDrop, sRet, sRetN, sRet0, sRetO, sIf, sSet, sSetN, sSetP, sPar, sParEN, sParNE, sPar3, sAsg, gNm, gsNil, gsCons, gTp, sAugI, sIxO, sIxS, sAugS, stoL, setW, iVar, iC, iNil, iCons, iTup, iLst, nLst, iFz, iB, gAdd, gI, gIC, gSub, gMul, gDiv, gMod, gPow, gLt, gLe, gGt, gGe, gEq, gNe, gIn, gIsN, isN, iNeg, tTru', gTru, tBl, iChain, tAnd', tOr', tNot', tYes', iIf, iAnd, iOr, iNot, iIx, gIx, atW, iIxO, ownL, oNone, oSome, iSl, gSl, iRevL, iCall, nCall, iFn, Stt.put, Stt.puts, iMtO, gAppend, gInsert, gExtend, gLen, iLenO, gAbs, gInt, gMinMax, gList, gTuple, iListRg, gIsi, tyN, gRepr, cut_13, cut_1_2, cut_1_3, cut_m2, cut_m3, cut_m4, atI_m2, atI_m3, atI_m4, iOfT, tKdIn, iKdIx, atI_0, atI_1, atI_2, atI_3, ixN_4_0, ixN_4_1, ixN_4_2, ixN_4_3, Sto.put_same, Sto.put_put, toNat_2, List.map, List.replicate, List.length_cons, List.length_nil, List.getElem?_cons_zero, List.getElem?_cons_succ, List.getElem?_nil, List.set_cons_zero, List.set_cons_succ, List.set_nil, List.cons_append, List.nil_append, List.append_nil, if_true, if_false, fz_val, fz_new, so_lst, so_dct, so_ins, eqW_ii, eqW_ss, eqW_tt, eqW_ll, eqW_nn, eqW_bb, eqW_ni, eqW_in, eqW_nt, eqW_tn, eqW_nl, eqW_ln, eqW_is, eqW_si, eqWs_nil, eqWs_cons, eqWs_nc, eqWs_cn, okD_int, okD_str, okD_bl, okD_non, okD_tup, okD_lst, eqOk_ii, eqOk_ss, eqOk_nn, eqOk_bb, eqOk_in, eqOk_ni, eqOk_tt, eqOk_ll, flatW_int, flatW_str, flatW_bl, flatW_non, inW, List.any_cons, List.any_nil, List.all_cons, List.all_nil, Bool.or_false, Bool.or_true, Bool.true_or, Bool.false_or, Bool.and_true, Bool.true_and, Bool.and_false, Bool.false_and, Bool.not_true, Bool.not_false, Bool.false_eq_true, true_and, and_true, beq_self_eq_true, List.isEmpty_cons, List.isEmpty_nil, Int.reduceNeg, eq_self, forall_const, iFld, objOf, iProp, iMeth, nMake, iInv, iMulM, iLenM, iIsi, sAtt, iRevT, lIter, nRep, lEnum, lZip, iEqM, gOwn, iDGet2, iAddO, nDisp, nDNew, iPairs, keysW, keyW, nFn, gListN, nListRg, iTupRg, nIf, sParM, iItems, putsR, Sh.R.slot, gIsB, isB, iPeek, tPeek, iPeekS, Stt.ps, noOwn, gInD, nPeek, Stt.pk, frzS, plainW, plainWs, tyS, tyIn, cOk, isAny, isOne, Option.map_some, lk_ne, List.lookup_nil, putW, lk_self, iXf, iIsE, Hnd.w, sRaise1, sRaise0, sTryE, gMax3, gEqN, gReprN, iIdxT, iIdxL, iInRg, nListM, iBR, iFnR, iPub, iMtR, drW, drWs, nOwn, nMeth, nSl, nAdd, nAddO, iMtN, sAugL, gSortedG, tTruO, refW_tup, refW_lst, refW_dct, refW_int, refW_str, refW_bl, refW_non, nLc, lSeq, gItems])
def Fil (F : Int) : Prop := F = 2 ∨ F = 3
structure Gd (F : Int) (cs : List Call) : Prop where
  fil : Fil F
  gd : ∀ c ∈ cs, c.gd F
  len : cs.length ≤ 100000
theorem Call.tn_gd {F : Int} {c : Call} (h : c.gd F) : c.tn.gd F := ⟨Call.tn_ok h.ok, by
  have := h.nz
  cases c <;> first | exact this | (simp only [Call.nz, Call.tn] at *; omega)⟩
theorem Gd.inv {F : Int} {cs : List Call} (g : Gd F cs) : Gd F (cs.reverse.map Call.tn) := ⟨g.fil, fun c hc => by
  obtain ⟨d, hd, rfl⟩ := List.mem_map.mp hc
  exact Call.tn_gd (g.gd d (List.mem_reverse.mp hd)), by rw [List.length_map, List.length_reverse]; exact g.len⟩
theorem Gd.app {F : Int} {cs ds : List Call} (g : Gd F cs) (h : Gd F ds) (l : cs.length + ds.length ≤ 100000) : Gd F (cs ++ ds) := ⟨g.fil, fun c hc => (List.mem_append.mp hc).elim (g.gd c) (h.gd c), by rw [List.length_append]; exact l⟩
/-- a script so many times -/
def timesC (cs : List Call) (k : Int) : List Call := (List.replicate k.natAbs (if 0 ≤ k then cs else cs.reverse.map Call.tn)).flatten
theorem len_rep {α : Type} (l : List α) (n : Nat) : (List.replicate n l).flatten.length = l.length * n := by
  induction n with
  | zero => simp
  | succ n ih => rw [List.replicate_succ, List.flatten_cons, List.length_append, ih, Nat.mul_succ]; omega
theorem Gd.times {F : Int} {cs : List Call} {k : Int} (g : Gd F cs) (l : cs.length * k.natAbs ≤ 100000) : Gd F (timesC cs k) := ⟨g.fil, fun c hc => by
  unfold timesC at hc
  obtain ⟨x, hx, hc⟩ := List.mem_flatten.mp hc
  have := List.eq_of_mem_replicate hx
  subst this
  split at hc
  · exact g.gd c hc
  · exact g.inv.gd c hc, by
  unfold timesC
  rw [len_rep]
  split
  · exact l
  · rw [List.length_map, List.length_reverse]; exact l⟩
local macro_rules | `(tactic| walk_at "rsFor") => `(tactic| simp (decide := true) only [bodyI, start0, sSeq, sNext, sNever, sCont, sBreak, sDrop, sRet, sRetN, sRet0, sRetO, sIf, sSet, sSetN, sSetP, sPar, sParEN, sParNE, sPar3, sAsg, gNm, gsNil, gsCons, gTp, sAugI, sIxO, sIxS, sAugS, stoL, setW, iVar, iC, iNil, iCons, iTup, iLst, nLst, iFz, iB, gAdd, gI, gIC, gSub, gMul, gDiv, gMod, gPow, gLt, gLe, gGt, gGe, gEq, gNe, gIn, gIsN, isN, iNeg, tTru', gTru, tBl, iChain, tAnd', tOr', tNot', tYes', iIf, iAnd, iOr, iNot, iIx, gIx, atW, iIxO, ownL, oNone, oSome, iSl, gSl, iRevL, iCall, nCall, iFn, Stt.put, Stt.puts, iMtO, gAppend, gInsert, gExtend, gLen, iLenO, gAbs, gInt, gMinMax, gList, gTuple, iListRg, gIsi, tyN, gRepr, cut_13, cut_1_2, cut_1_3, cut_m2, cut_m3, cut_m4, atI_m2, atI_m3, atI_m4, iOfT, tKdIn, iKdIx, atI_0, atI_1, atI_2, atI_3, ixN_4_0, ixN_4_1, ixN_4_2, ixN_4_3, Sto.put_same, Sto.put_put, toNat_2, List.map, List.replicate, List.length_cons, List.length_nil, List.getElem?_cons_zero, List.getElem?_cons_succ, List.getElem?_nil, List.set_cons_zero, List.set_cons_succ, List.set_nil, List.cons_append, List.nil_append, List.append_nil, if_true, if_false, fz_val, fz_new, so_lst, so_dct, so_ins, eqW_ii, eqW_ss, eqW_tt, eqW_ll, eqW_nn, eqW_bb, eqW_ni, eqW_in, eqW_nt, eqW_tn, eqW_nl, eqW_ln, eqW_is, eqW_si, eqWs_nil, eqWs_cons, eqWs_nc, eqWs_cn, okD_int, okD_str, okD_bl, okD_non, okD_tup, okD_lst, eqOk_ii, eqOk_ss, eqOk_nn, eqOk_bb, eqOk_in, eqOk_ni, eqOk_tt, eqOk_ll, flatW_int, flatW_str, flatW_bl, flatW_non, inW, List.any_cons, List.any_nil, List.all_cons, List.all_nil, Bool.or_false, Bool.or_true, Bool.true_or, Bool.false_or, Bool.and_true, Bool.true_and, Bool.and_false, Bool.false_and, Bool.not_true, Bool.not_false, Bool.false_eq_true, true_and, and_true, beq_self_eq_true, List.isEmpty_cons, List.isEmpty_nil, Int.reduceNeg, eq_self, forall_const, iFld, objOf, iProp, iMeth, nMake, iInv, iMulM, iLenM, iIsi, sAtt, iRevT, lIter, nRep, lEnum, lZip, iEqM, gOwn, iDGet2, iAddO, nDisp, nDNew, iPairs, keysW, keyW, nFn, gListN, nListRg, iTupRg, nIf, sParM, iItems, putsR, Sh.R.slot, gIsB, isB, iPeek, tPeek, iPeekS, Stt.ps, noOwn, gInD, nPeek, Stt.pk, frzS, plainW, plainWs, tyS, tyIn, cOk, isAny, isOne, Option.map_some, lk_ne, List.lookup_nil, putW, lk_self, iXf, iIsE, Hnd.w, sRaise1, sRaise0, sTryE, gMax3, gEqN, gReprN, iIdxT, iIdxL, iInRg, nListM, iBR, iFnR, iPub, iMtR, drW, drWs, nOwn, nMeth, nSl, nAdd, nAddO, iMtN, sAugL, gSortedG, tTruO, refW_tup, refW_lst, refW_dct, refW_int, refW_str, refW_bl, refW_non, sFor])
def run (F R : Int) (cs : List Call) (p : Int × Int) : Int × Int := cs.foldl (fun p c => mv F R c p) p
theorem run_in {F R : Int} {cs : List Call} {p : Int × Int} (hF : 0 < F) (hR : 0 < R) (hc : ∀ c ∈ cs, c.ok F) (h : At F R p) : At F R (run F R cs p) := by
  induction cs generalizing p with
  | nil => exact h
  | cons c cs ih => exact ih (fun d hd => hc d (List.mem_cons_of_mem _ hd)) (mv_in hF hR (hc c (List.mem_cons_self ..)) h)
theorem run_app {F R : Int} {cs ds : List Call} {p : Int × Int} : run F R (cs ++ ds) p = run F R ds (run F R cs p) := List.foldl_append
theorem Gd.ok {F : Int} {cs : List Call} (g : Gd F cs) : ∀ c ∈ cs, c.ok F := fun c hc => (g.gd c hc).ok
theorem Gd.pos {F : Int} {cs : List Call} (g : Gd F cs) : 0 < F := by have := g.fil; unfold Fil at this; omega
theorem run_inv {F R : Int} {cs : List Call} {p : Int × Int} (hF : 0 < F) (hR : 0 < R) (hc : ∀ c ∈ cs, c.ok F) (h : At F R p) : run F R (cs.reverse.map Call.tn) (run F R cs p) = p := by
  induction cs generalizing p with
  | nil => rfl
  | cons c cs ih =>
    rw [List.reverse_cons, List.map_append, run_app]
    show run F R [c.tn] (run F R (cs.reverse.map Call.tn) (run F R cs (mv F R c p))) = p
    rw [ih (fun d hd => hc d (List.mem_cons_of_mem _ hd)) (mv_in hF hR (hc c (List.mem_cons_self ..)) h)]
    exact mv_tn hF hR (hc c (List.mem_cons_self ..)) h
theorem atI_last {α : Type} {xs : List α} {x : α} : atI (xs ++ [x]) (-1) = some x := by
  unfold atI ixN
  rw [if_neg (by decide), if_pos (by rw [List.length_append, List.length_singleton]; omega)]
  have e : ((-1 : Int) + ((xs ++ [x]).length : Int)).toNat = xs.length := by rw [List.length_append, List.length_singleton]; omega
  simp only [e]
  simp
local macro_rules | `(tactic| walk_at "ratI_last") => `(tactic| simp (decide := true) only [bodyI, start0, sSeq, sNext, sNever, sCont, sBreak, sDrop, sRet, sRetN, sRet0, sRetO, sIf, sSet, sSetN, sSetP, sPar, sParEN, sParNE, sPar3, sAsg, gNm, gsNil, gsCons, gTp, sAugI, sIxO, sIxS, sAugS, stoL, setW, iVar, iC, iNil, iCons, iTup, iLst, nLst, iFz, iB, gAdd, gI, gIC, gSub, gMul, gDiv, gMod, gPow, gLt, gLe, gGt, gGe, gEq, gNe, gIn, gIsN, isN, iNeg, tTru', gTru, tBl, iChain, tAnd', tOr', tNot', tYes', iIf, iAnd, iOr, iNot, iIx, gIx, atW, iIxO, ownL, oNone, oSome, iSl, gSl, iRevL, iCall, nCall, iFn, Stt.put, Stt.puts, iMtO, gAppend, gInsert, gExtend, gLen, iLenO, gAbs, gInt, gMinMax, gList, gTuple, iListRg, gIsi, tyN, gRepr, cut_13, cut_1_2, cut_1_3, cut_m2, cut_m3, cut_m4, atI_m2, atI_m3, atI_m4, iOfT, tKdIn, iKdIx, atI_0, atI_1, atI_2, atI_3, ixN_4_0, ixN_4_1, ixN_4_2, ixN_4_3, Sto.put_same, Sto.put_put, toNat_2, List.map, List.replicate, List.length_cons, List.length_nil, List.getElem?_cons_zero, List.getElem?_cons_succ, List.getElem?_nil, List.set_cons_zero, List.set_cons_succ, List.set_nil, List.cons_append, List.nil_append, List.append_nil, if_true, if_false, fz_val, fz_new, so_lst, so_dct, so_ins, eqW_ii, eqW_ss, eqW_tt, eqW_ll, eqW_nn, eqW_bb, eqW_ni, eqW_in, eqW_nt, eqW_tn, eqW_nl, eqW_ln, eqW_is, eqW_si, eqWs_nil, eqWs_cons, eqWs_nc, eqWs_cn, okD_int, okD_str, okD_bl, okD_non, okD_tup, okD_lst, eqOk_ii, eqOk_ss, eqOk_nn, eqOk_bb, eqOk_in, eqOk_ni, eqOk_tt, eqOk_ll, flatW_int, flatW_str, flatW_bl, flatW_non, inW, List.any_cons, List.any_nil, List.all_cons, List.all_nil, Bool.or_false, Bool.or_true, Bool.true_or, Bool.false_or, Bool.and_true, Bool.true_and, Bool.and_false, Bool.false_and, Bool.not_true, Bool.not_false, Bool.false_eq_true, true_and, and_true, beq_self_eq_true, List.isEmpty_cons, List.isEmpty_nil, Int.reduceNeg, eq_self, forall_const, iFld, objOf, iProp, iMeth, nMake, iInv, iMulM, iLenM, iIsi, sAtt, iRevT, lIter, nRep, lEnum, lZip, iEqM, gOwn, iDGet2, iAddO, nDisp, nDNew, iPairs, keysW, keyW, nFn, gListN, nListRg, iTupRg, nIf, sParM, iItems, putsR, Sh.R.slot, gIsB, isB, iPeek, tPeek, iPeekS, Stt.ps, noOwn, gInD, nPeek, Stt.pk, frzS, plainW, plainWs, tyS, tyIn, cOk, isAny, isOne, Option.map_some, lk_ne, List.lookup_nil, putW, lk_self, iXf, iIsE, Hnd.w, sRaise1, sRaise0, sTryE, gMax3, gEqN, gReprN, iIdxT, iIdxL, iInRg, nListM, iBR, iFnR, iPub, iMtR, drW, drWs, nOwn, nMeth, nSl, nAdd, nAddO, iMtN, sAugL, gSortedG, tTruO, refW_tup, refW_lst, refW_dct, refW_int, refW_str, refW_bl, refW_non, atI_last])
local macro_rules | `(tactic| walk_at "rCall_w") => `(tactic| simp (decide := true) only [bodyI, start0, sSeq, sNext, sNever, sCont, sBreak, sDrop, sRet, sRetN, sRet0, sRetO, sIf, sSet, sSetN, sSetP, sPar, sParEN, sParNE, sPar3, sAsg, gNm, gsNil, gsCons, gTp, sAugI, sIxO, sIxS, sAugS, stoL, setW, iVar, iC, iNil, iCons, iTup, iLst, nLst, iFz, iB, gAdd, gI, gIC, gSub, gMul, gDiv, gMod, gPow, gLt, gLe, gGt, gGe, gEq, gNe, gIn, gIsN, isN, iNeg, tTru', gTru, tBl, iChain, tAnd', tOr', tNot', tYes', iIf, iAnd, iOr, iNot, iIx, gIx, atW, iIxO, ownL, oNone, oSome, iSl, gSl, iRevL, iCall, nCall, iFn, Stt.put, Stt.puts, iMtO, gAppend, gInsert, gExtend, gLen, iLenO, gAbs, gInt, gMinMax, gList, gTuple, iListRg, gIsi, tyN, gRepr, cut_13, cut_1_2, cut_1_3, cut_m2, cut_m3, cut_m4, atI_m2, atI_m3, atI_m4, iOfT, tKdIn, iKdIx, atI_0, atI_1, atI_2, atI_3, ixN_4_0, ixN_4_1, ixN_4_2, ixN_4_3, Sto.put_same, Sto.put_put, toNat_2, List.map, List.replicate, List.length_cons, List.length_nil, List.getElem?_cons_zero, List.getElem?_cons_succ, List.getElem?_nil, List.set_cons_zero, List.set_cons_succ, List.set_nil, List.cons_append, List.nil_append, List.append_nil, if_true, if_false, fz_val, fz_new, so_lst, so_dct, so_ins, eqW_ii, eqW_ss, eqW_tt, eqW_ll, eqW_nn, eqW_bb, eqW_ni, eqW_in, eqW_nt, eqW_tn, eqW_nl, eqW_ln, eqW_is, eqW_si, eqWs_nil, eqWs_cons, eqWs_nc, eqWs_cn, okD_int, okD_str, okD_bl, okD_non, okD_tup, okD_lst, eqOk_ii, eqOk_ss, eqOk_nn, eqOk_bb, eqOk_in, eqOk_ni, eqOk_tt, eqOk_ll, flatW_int, flatW_str, flatW_bl, flatW_non, inW, List.any_cons, List.any_nil, List.all_cons, List.all_nil, Bool.or_false, Bool.or_true, Bool.true_or, Bool.false_or, Bool.and_true, Bool.true_and, Bool.and_false, Bool.false_and, Bool.not_true, Bool.not_false, Bool.false_eq_true, true_and, and_true, beq_self_eq_true, List.isEmpty_cons, List.isEmpty_nil, Int.reduceNeg, eq_self, forall_const, iFld, objOf, iProp, iMeth, nMake, iInv, iMulM, iLenM, iIsi, sAtt, iRevT, lIter, nRep, lEnum, lZip, iEqM, gOwn, iDGet2, iAddO, nDisp, nDNew, iPairs, keysW, keyW, nFn, gListN, nListRg, iTupRg, nIf, sParM, iItems, putsR, Sh.R.slot, gIsB, isB, iPeek, tPeek, iPeekS, Stt.ps, noOwn, gInD, nPeek, Stt.pk, frzS, plainW, plainWs, tyS, tyIn, cOk, isAny, isOne, Option.map_some, lk_ne, List.lookup_nil, putW, lk_self, iXf, iIsE, Hnd.w, sRaise1, sRaise0, sTryE, gMax3, gEqN, gReprN, iIdxT, iIdxL, iInRg, nListM, iBR, iFnR, iPub, iMtR, drW, drWs, nOwn, nMeth, nSl, nAdd, nAddO, iMtN, sAugL, gSortedG, tTruO, refW_tup, refW_lst, refW_dct, refW_int, refW_str, refW_bl, refW_non, Call.w])
def plP (F x : Int) : Int × Int := (x / F, x % F)
def numP (F : Int) (p : Int × Int) : Int := p.1 * F + p.2
/-- a call's size -/
def Call.sz : Call → Int
  | .all k => if k < 0 then -k else k
  | .up _ k => if k < 0 then -k else k
  | .wheel _ _ k => if k < 0 then -k else k
  | _ => 1
abbrev invC (cs : List Call) : List Call := cs.reverse.map Call.tn
/-- who stands at a number behind calls -/
def bk (F R : Int) (cs : List Call) (j : Int) : Int := numP F (run F R (invC cs) (plP F j))
section
variable {F R : Int} {cs ds es : List Call} {p : Int × Int} {j : Int}
def Oks (F : Int) (cs : List Call) : Prop := ∀ c ∈ cs, c.ok F
theorem Oks.app (h : Oks F cs) (k : Oks F ds) : Oks F (cs ++ ds) := fun c hc => (List.mem_append.mp hc).elim (h c) (k c)
theorem Oks.inv (h : Oks F cs) : Oks F (invC cs) := fun c hc => by
  obtain ⟨d, hd, rfl⟩ := List.mem_map.mp hc
  exact Call.tn_ok (h d (List.mem_reverse.mp hd))
theorem run_inv' (hF : 0 < F) (hR : 0 < R) (hc : Oks F cs) (h : At F R p) : run F R cs (run F R (invC cs) p) = p := by
  have e : invC (invC cs) = cs := by
    unfold invC
    rw [← List.map_reverse, List.reverse_reverse, List.map_map]
    conv => rhs; rw [← List.map_id cs]
    exact List.map_congr_left fun c _ => by cases c <;> simp [Call.tn]
  have := run_inv (cs := invC cs) hF hR hc.inv h
  rw [show (invC cs).reverse.map Call.tn = cs from e] at this
  exact this
/-- two lists of calls that do the same -/
def Same (F R : Int) (cs ds : List Call) : Prop := ∀ p, At F R p → run F R cs p = run F R ds p
theorem Same.refl : Same F R cs cs := fun _ _ => rfl
theorem Same.symm (h : Same F R cs ds) : Same F R ds cs := fun p hp => (h p hp).symm
theorem Same.trans (h : Same F R cs ds) (k : Same F R ds es) : Same F R cs es := fun p hp => (h p hp).trans (k p hp)
theorem Same.inv (hF : 0 < F) (hR : 0 < R) (hc : Oks F cs) (hd : Oks F ds) (h : Same F R cs ds) : Same F R (invC cs) (invC ds) := fun p hp => by
  have hq := run_in hF hR hd.inv hp
  have e := h _ hq
  rw [run_inv' hF hR hd hp] at e
  have := run_inv hF hR hc hq
  rw [e] at this
  exact this
theorem Same.app {cs' ds' : List Call} (hF : 0 < F) (hR : 0 < R) (hc : Oks F cs) (h : Same F R cs cs') (k : Same F R ds ds') : Same F R (cs ++ ds) (cs' ++ ds') := fun p hp => by
  rw [run_app, run_app, ← h p hp, k _ (run_in hF hR hc hp)]
theorem Oks.rep {n : Nat} (h : Oks F cs) : Oks F (List.replicate n cs).flatten := fun c hc => by
  obtain ⟨x, hx, hc⟩ := List.mem_flatten.mp hc
  rw [List.eq_of_mem_replicate hx] at hc
  exact h c hc
theorem Oks.times {k : Int} (h : Oks F cs) : Oks F (timesC cs k) := by
  unfold timesC
  split
  · exact h.rep
  · exact h.inv.rep
end
structure Lin (F R : Int) : Prop where
  fil : Fil F
  r1 : 1 ≤ R
  r2 : R ≤ 400
theorem Lin.sz {F R : Int} (h : Lin F R) : 0 ≤ F * R ∧ F * R ≤ 1200 := by
  have a := h.fil; have b := h.r1; have c := h.r2
  unfold Fil at a
  rcases a with rfl | rfl <;> omega
/-- straight calls of a script -/
structure St5 (F : Int) (cs : List Call) : Prop where
  gd : Gd F cs
  st : ∀ c ∈ cs, c.opn = false
theorem St5.nil {F : Int} (h : Fil F) : St5 F [] := ⟨⟨h, fun _ z => (nomatch z), by simp⟩, fun _ z => nomatch z⟩
theorem St5.app {F : Int} {cs ds : List Call} (h : St5 F cs) (k : St5 F ds) (l : cs.length + ds.length ≤ 100000) : St5 F (cs ++ ds) := ⟨h.gd.app k.gd l, fun c hc => (List.mem_append.mp hc).elim (h.st c) (k.st c)⟩
theorem St5.one {F : Int} {c : Call} (h : Fil F) (g : c.gd F) (s : c.opn = false) : St5 F [c] := ⟨⟨h, fun d hd => by rw [List.mem_singleton.mp hd]; exact g, by simp⟩, fun d hd => by rw [List.mem_singleton.mp hd]; exact s⟩
theorem Call.tn_opn {c : Call} : c.tn.opn = c.opn := by cases c <;> rfl
theorem St5.inv {F : Int} {cs : List Call} (h : St5 F cs) : St5 F (invC cs) := ⟨h.gd.inv, fun c hc => by
  obtain ⟨d, hd, rfl⟩ := List.mem_map.mp hc
  rw [Call.tn_opn]
  exact h.st d (List.mem_reverse.mp hd)⟩
theorem St5.sub {F : Int} {cs ds : List Call} (h : St5 F cs) (m : ∀ c ∈ ds, c ∈ cs) (l : ds.length ≤ 100000) : St5 F ds := ⟨⟨h.gd.fil, fun c hc => h.gd.gd c (m c hc), l⟩, fun c hc => h.st c (m c hc)⟩
theorem blsOf_map {α : Type} (f : α → Bool) (as : List α) : blsOf (as.map fun a => W.bl (f a)) = some (as.map f) := by
  induction as with
  | nil => rfl
  | cons a as ih => simp only [List.map_cons, blsOf, ih, Option.map]
/-- from the front, or (b) from the back, so many rows; a file -/
structure Spt where
  b : Bool
  k : Int
  f : Int
def Spt.at (R : Int) (x : Spt) : Int × Int := (if x.b = true then R - 1 - x.k else x.k, x.f)
/-- d rows away from the end; through it to the other end -/
def Spt.sh (x : Spt) (d : Int) : Spt := if 0 ≤ x.k + d then ⟨x.b, x.k + d, x.f⟩ else ⟨!x.b, -(x.k + d) - 1, x.f⟩
/-- d rows away from the end; at the end into the file g -/
def Spt.wh (x : Spt) (d g : Int) : Spt := if 0 ≤ x.k + d then ⟨x.b, x.k + d, x.f⟩ else ⟨x.b, -(x.k + d) - 1, g⟩
def Spt.go (F : Int) (c : Call) (x : Spt) : Spt := match c with
  | .all k => x.sh (if x.b = true then k else -k)
  | .up g k => if x.f = g then x.sh (if x.b = true then k else -k) else x
  | .about => ⟨!x.b, x.k, F - 1 - x.f⟩
  | .wheel g h k => if x.f ≠ g ∧ x.f ≠ h then x else if x.f = g then x.wh (if x.b = true then k else -k) h else x.wh (if x.b = true then -k else k) g
  | .swap g h => if x.f ≠ g ∧ x.f ≠ h then x else ⟨x.b, x.k, if x.f = g then h else g⟩
  | .front g h => if (x.f ≠ g ∧ x.f ≠ h) ∨ x.b = true ∨ 0 < x.k then x else ⟨x.b, x.k, if x.f = g then h else g⟩
  | _ => x
def Spt.on (x : Spt) (t : Int) : Spt := ⟨x.b, x.k + t, x.f⟩
theorem kb_NoneType_int : kitB "NoneType" "int" = some false := rfl
theorem kb_NoneType_bool : kitB "NoneType" "bool" = some false := rfl
theorem kb_NoneType_str : kitB "NoneType" "str" = some false := rfl
theorem kb_NoneType_tuple : kitB "NoneType" "tuple" = some false := rfl
theorem kb_NoneType_list : kitB "NoneType" "list" = some false := rfl
theorem kb_NoneType_dict : kitB "NoneType" "dict" = some false := rfl
theorem kb_bool_int : kitB "bool" "int" = some true := rfl
theorem kb_bool_bool : kitB "bool" "bool" = some true := rfl
theorem kb_bool_str : kitB "bool" "str" = some false := rfl
theorem kb_bool_tuple : kitB "bool" "tuple" = some false := rfl
theorem kb_bool_list : kitB "bool" "list" = some false := rfl
theorem kb_bool_dict : kitB "bool" "dict" = some false := rfl
theorem kb_int_int : kitB "int" "int" = some true := rfl
theorem kb_int_bool : kitB "int" "bool" = some false := rfl
theorem kb_int_str : kitB "int" "str" = some false := rfl
theorem kb_int_tuple : kitB "int" "tuple" = some false := rfl
theorem kb_int_list : kitB "int" "list" = some false := rfl
theorem kb_int_dict : kitB "int" "dict" = some false := rfl
theorem kb_str_int : kitB "str" "int" = some false := rfl
theorem kb_str_bool : kitB "str" "bool" = some false := rfl
theorem kb_str_str : kitB "str" "str" = some true := rfl
theorem kb_str_tuple : kitB "str" "tuple" = some false := rfl
theorem kb_str_list : kitB "str" "list" = some false := rfl
theorem kb_str_dict : kitB "str" "dict" = some false := rfl
theorem kb_tuple_int : kitB "tuple" "int" = some false := rfl
theorem kb_tuple_bool : kitB "tuple" "bool" = some false := rfl
theorem kb_tuple_str : kitB "tuple" "str" = some false := rfl
theorem kb_tuple_tuple : kitB "tuple" "tuple" = some true := rfl
theorem kb_tuple_list : kitB "tuple" "list" = some false := rfl
theorem kb_tuple_dict : kitB "tuple" "dict" = some false := rfl
theorem kb_list_int : kitB "list" "int" = some false := rfl
theorem kb_list_bool : kitB "list" "bool" = some false := rfl
theorem kb_list_str : kitB "list" "str" = some false := rfl
theorem kb_list_tuple : kitB "list" "tuple" = some false := rfl
theorem kb_list_list : kitB "list" "list" = some true := rfl
theorem kb_list_dict : kitB "list" "dict" = some false := rfl
theorem kb_dict_int : kitB "dict" "int" = some false := rfl
theorem kb_dict_bool : kitB "dict" "bool" = some false := rfl
theorem kb_dict_str : kitB "dict" "str" = some false := rfl
theorem kb_dict_tuple : kitB "dict" "tuple" = some false := rfl
theorem kb_dict_list : kitB "dict" "list" = some false := rfl
theorem kb_dict_dict : kitB "dict" "dict" = some true := rfl
local macro_rules | `(tactic| walk_at "rCall_w_pairW") => `(tactic| simp (decide := true) only [bodyI, start0, sSeq, sNext, sNever, sCont, sBreak, sDrop, sRet, sRetN, sRet0, sRetO, sIf, sSet, sSetN, sSetP, sPar, sParEN, sParNE, sPar3, sAsg, gNm, gsNil, gsCons, gTp, sAugI, sIxO, sIxS, sAugS, stoL, setW, iVar, iC, iNil, iCons, iTup, iLst, nLst, iFz, iB, gAdd, gI, gIC, gSub, gMul, gDiv, gMod, gPow, gLt, gLe, gGt, gGe, gEq, gNe, gIn, gIsN, isN, iNeg, tTru', gTru, tBl, iChain, tAnd', tOr', tNot', tYes', iIf, iAnd, iOr, iNot, iIx, gIx, atW, iIxO, ownL, oNone, oSome, iSl, gSl, iRevL, iCall, nCall, iFn, Stt.put, Stt.puts, iMtO, gAppend, gInsert, gExtend, gLen, iLenO, gAbs, gInt, gMinMax, gList, gTuple, iListRg, gIsi, tyN, gRepr, cut_13, cut_1_2, cut_1_3, cut_m2, cut_m3, cut_m4, atI_m2, atI_m3, atI_m4, iOfT, tKdIn, iKdIx, atI_0, atI_1, atI_2, atI_3, ixN_4_0, ixN_4_1, ixN_4_2, ixN_4_3, Sto.put_same, Sto.put_put, toNat_2, List.map, List.replicate, List.length_cons, List.length_nil, List.getElem?_cons_zero, List.getElem?_cons_succ, List.getElem?_nil, List.set_cons_zero, List.set_cons_succ, List.set_nil, List.cons_append, List.nil_append, List.append_nil, if_true, if_false, fz_val, fz_new, so_lst, so_dct, so_ins, eqW_ii, eqW_ss, eqW_tt, eqW_ll, eqW_nn, eqW_bb, eqW_ni, eqW_in, eqW_nt, eqW_tn, eqW_nl, eqW_ln, eqW_is, eqW_si, eqWs_nil, eqWs_cons, eqWs_nc, eqWs_cn, okD_int, okD_str, okD_bl, okD_non, okD_tup, okD_lst, eqOk_ii, eqOk_ss, eqOk_nn, eqOk_bb, eqOk_in, eqOk_ni, eqOk_tt, eqOk_ll, flatW_int, flatW_str, flatW_bl, flatW_non, inW, List.any_cons, List.any_nil, List.all_cons, List.all_nil, Bool.or_false, Bool.or_true, Bool.true_or, Bool.false_or, Bool.and_true, Bool.true_and, Bool.and_false, Bool.false_and, Bool.not_true, Bool.not_false, Bool.false_eq_true, true_and, and_true, beq_self_eq_true, List.isEmpty_cons, List.isEmpty_nil, Int.reduceNeg, eq_self, forall_const, iFld, objOf, iProp, iMeth, nMake, iInv, iMulM, iLenM, iIsi, sAtt, iRevT, lIter, nRep, lEnum, lZip, iEqM, gOwn, iDGet2, iAddO, nDisp, nDNew, iPairs, keysW, keyW, nFn, gListN, nListRg, iTupRg, nIf, sParM, iItems, putsR, Sh.R.slot, gIsB, isB, iPeek, tPeek, iPeekS, Stt.ps, noOwn, gInD, nPeek, Stt.pk, frzS, plainW, plainWs, tyS, tyIn, cOk, isAny, isOne, Option.map_some, lk_ne, List.lookup_nil, putW, lk_self, iXf, iIsE, Hnd.w, sRaise1, sRaise0, sTryE, gMax3, gEqN, gReprN, iIdxT, iIdxL, iInRg, nListM, iBR, iFnR, iPub, iMtR, drW, drWs, nOwn, nMeth, nSl, nAdd, nAddO, iMtN, sAugL, gSortedG, tTruO, refW_tup, refW_lst, refW_dct, refW_int, refW_str, refW_bl, refW_non, Call.w, pairW])
def ib_l7_odd_1 : IS := (sSet 2 (iTup (iCons (iVar 2) iNil)))
def ib_l7_odd_3 : IS := (sSeq (sFor (lRange1 (iC (.int 20))) (gNm 3) ib_l7_odd_1)
  (sRet (iCall sp_l_one (iCons (iVar 0) (iCons (iB gAdd (iVar 1) (iLst (iCons (iVar 2) iNil))) iNil)))))
def ib_l7_odd : IS := (sSeq (sSet 1 (iLst (iCons (iC .non) (iCons (iC (.bl true)) (iCons (iC (.bl false)) (iCons (iC (.int 0)) (iCons (iNeg (iC (.int 1))) (iCons (iC (.int 7)) (iCons (iC (.str "")) (iCons (iC (.str "at")) (iCons (iC (.str "all")) (iCons (iTup iNil) (iCons (iLst iNil) (iCons (iFz nDNew) (iCons (iTup (iCons (iC (.str "all")) (iCons (iC (.int 0)) iNil))) (iCons (iLst (iCons (iC (.str "all")) (iCons (iC (.int 1)) iNil))) (iCons (iTup (iCons (iC (.str "up")) (iCons (iC (.int 0)) iNil))) (iCons (iTup (iCons (iC .non) iNil)) (iCons (iLst (iCons (iLst iNil) iNil)) iNil)))))))))))))))))))
  (sSeq (sSet 1 (iB gAdd (iVar 1) (iLst (iCons (iB gPow (iC (.int 10)) (iC (.int 40))) (iCons (iB gMul (iC (.str "l")) (iC (.int 9000))) (iCons (iFz (nDisp [((iC (.str "a")), (iC (.int 1)))])) (iCons (iTup (iCons (iC (.str "at")) (iCons (iC (.int 1)) iNil))) (iCons (iTup (iCons (iC (.str "swap")) (iCons (iC (.int 0)) (iCons (iC (.int 0)) iNil)))) (iCons (iTup (iCons (iC (.str "wheel")) (iCons (iC (.int 0)) (iCons (iC (.int 1)) (iCons (iC (.bl true)) iNil))))) (iCons (iTup (iCons (iC (.int 0)) (iCons (iC (.int 0)) (iCons (iC (.int 0)) iNil)))) iNil))))))))))
  (sSeq (sSet 2 (iTup (iCons (iC (.str "about")) iNil)))
  ib_l7_odd_3)))
def deepW : Nat → W
  | 0 => .tup [.str "about"]
  | n + 1 => .tup [deepW n]
def odd7a : List W := [.non, .bl true, .bl false, .int 0, .int (-1), .int 7, .str "", .str "at", .str "all", .tup [], .lst [], .dct [], .tup [.str "all", .int 0], .lst [.str "all", .int 1], .tup [.str "up", .int 0], .tup [.non], .lst [.lst []]]
def odd7b : List W := [.int (10 ^ Int.toNat 40), .str (timesS "l" (Int.toNat 9000)), .dct (mergeW [] [(.inr "a", .int 1)]), .tup [.str "at", .int 1], .tup [.str "swap", .int 0, .int 0], .tup [.str "wheel", .int 0, .int 1, .bl true], .tup [.int 0, .int 0, .int 0]]
def odd7 : List W := odd7a ++ odd7b ++ [deepW 20]
def sp_l7_odd : ISp := fun ws S Q E => ∃ (a : Addr), ws = [.ref a] ∧ Bg S a ∧ ∀ x S', x ∈ odd7 → Bx a S S' → Q (.val x) S'
/-- a loop over a written range, by its turns -/
theorem sFor_lit {g : IG} {body : IS} {EI : XI} {D : IEnds} {st : Stt} {k : Int} (N : Nat) (I : Nat → Stt → Prop) (hk : k.toNat = N) (h62 : i62 k) (h0 : I 0 st) (hd : ∀ st, I N st → D.nx st)
    (hs : ∀ i, i < N → ∀ st (nx : Stt → Prop), I i st → (∀ st', I (i + 1) st' → nx st') → g (.int (0 + i)) st fun st1 => body EI { nx := nx, ct := nx, bk := D.nx, rt := D.rt } st1) : sFor (lRange1 (iC (.int k))) g body EI D st := by
  show i62 k ∧ forGo g body EI D (rng 0 k.toNat) st
  refine ⟨h62, ?_⟩
  rw [hk]
  exact for_rng I N st h0 hd hs
theorem l7_odd_3 {EI : XI} {D : IEnds} {S : Sto} {a : Addr} {L : List W} (hb : Bg S a) (hl : L.length < 1000) (q : ∀ x S', x ∈ L ++ [deepW 20] → Bx a S S' → D.rt (.val x) S') : ib_l7_odd_3 EI D ⟨[.val (.ref a), .val (.lst L), .val (deepW 0), .none], S⟩ := by
  unfold ib_l7_odd_3
  refine seq_cut (fun st => ∃ x3, st = ⟨[.val (.ref a), .val (.lst L), .val (deepW 20), x3], S⟩) (fun nx h => ?_) (fun st ⟨x3, es⟩ => ?_)
  · refine sFor_lit 20 (fun i st => ∃ (x3 : Slot) (n : Nat), n = i ∧ st = ⟨[.val (.ref a), .val (.lst L), .val (deepW n), x3], S⟩) rfl (by unfold i62; omega) ⟨_, 0, rfl, rfl⟩ (fun st ⟨x3, n, en, es⟩ => h _ ⟨x3, ?_⟩) fun i hi st nx ⟨x3, n, en, es⟩ hn => ?_
    · rw [es, en]
    subst es
    unfold ib_l7_odd_1
    walk_at "r"
    exact hn _ ⟨_, n + 1, by rw [en], rfl⟩
  · subst es
    walk_at "r"
    refine ⟨by rw [sizeLine_eq]; omega, cl_one (xs := L ++ [deepW 20]) (by simp) (by rw [List.length_append]; simp only [List.length_cons, List.length_nil]; omega) hb fun x S' hx b => ?_⟩
    walk_at "r"
    exact q x S' hx b
theorem ok_l7_odd (ws : List W) (S : Sto) (Q : R → Sto → Prop) (E : Exn → Sto → Prop) (h : sp_l7_odd ws S Q E) : bodyI 4 ib_l7_odd ws S Q E := by
  obtain ⟨a, rfl, hb, q⟩ := h
  unfold ib_l7_odd
  refine seq_go fun nx e => ?_
  walk_at "r"
  subst e
  refine seq_go fun nx e => ?_
  walk_at "r"
  refine ⟨cpow10 (by omega) (by omega), ?_⟩
  subst e
  refine seq_go fun nx e => ?_
  walk_at "r"
  subst e
  exact l7_odd_3 hb (by simp) fun x S' hx b => q x S' hx b
theorem cps_l (n : Nat) : ∀ c ∈ (timesS "l" n).cps.toList, c = 108 := by
  unfold timesS
  have key : ∀ (n : Nat) (acc : Array Nat), (∀ c ∈ acc.toList, c = 108) → ∀ c ∈ ((List.replicate n (Str.ofString "l").cps).foldl (· ++ ·) acc).toList, c = 108 := fun n => by
    induction n with
    | zero => intro acc h; exact h
    | succ n ih =>
      intro acc h
      rw [List.replicate_succ, List.foldl_cons]
      refine ih _ fun c hc => ?_
      rw [Array.toList_append] at hc
      rcases List.mem_append.mp hc with hc | hc
      · exact h c hc
      · have e : (Str.ofString "l").cps.toList = [108] := by decide +kernel
        rw [e] at hc
        exact List.mem_singleton.mp hc
  exact key n #[] fun c hc => nomatch hc
theorem rep_ls {n : Nat} (h : n ≤ 100000) : RepOk (.str (timesS "l" n)) := by
  refine ⟨?_, rfl, ?_⟩
  · show PyData.strOk (timesS "l" n) = true
    unfold PyData.strOk
    rw [Array.all_eq_true]
    intro i hi
    have e := cps_l n ((timesS "l" n).cps[i]) (by simp)
    rw [e]
    decide
  show (PySem.reprText (timesS "l" n)).length ≤ sizeLine
  have b := PySem.StrLaws.reprText_len (timesS "l" n) fun c hc => by rw [cps_l n c hc]; decide
  have e : (timesS "l" n).length = n := by rw [timesS_len]; show 1 * n = n; omega
  rw [sizeLine_eq]
  omega
theorem lc_id {g : IG} {ie : IE} {vs : List Nat} {Q : SO → Stt → Prop} (st0 : Stt) (f : W → W) (as : List W) (st : Stt) (h : ∀ a ∈ as, ∀ Y : W → Stt → Prop, (∀ st', st'.wipe vs = st0 → Y (f a) st') → g a st0 fun st1 => ie noX st1 Y)
    (e : st.wipe vs = st0) (hl : as.length ≤ sizeLine) (q : ∀ st', st'.wipe vs = st0 → Q (.lst (as.map f)) st') : lcGo g tYes' ie vs Q as [] st := by
  have := lc_fn (g := g) (ie := ie) (vs := vs) (Q := Q) st0 id f as st h e hl q
  rwa [List.map_id] at this
def RN (d n : Nat) (w : W) : Prop := okN d w = true ∧ (toN w).showable = true ∧ (toN w).shown.length ≤ n
def rnB (d n : Nat) (w : W) : Bool := okN d w && ((toN w).showable && decide ((toN w).shown.length ≤ n))
theorem rn_dec {d n : Nat} {w : W} (h : rnB d n w = true) : RN d n w := by
  simp only [rnB, Bool.and_eq_true, decide_eq_true_eq] at h
  exact h
theorem okN_up : ∀ {d d' : Nat}, d ≤ d' → ∀ w : W, okN d w = true → okN d' w = true
  | _, d', _, .non, _ => by cases d' <;> rfl
  | _, d', _, .bl _, _ => by cases d' <;> rfl
  | _, d', _, .int _, _ => by cases d' <;> rfl
  | _, d', _, .str _, _ => by cases d' <;> rfl
  | d + 1, d' + 1, h, .tup ws, k => List.all_eq_true.mpr fun x hx => okN_up (Nat.le_of_succ_le_succ h) x (List.all_eq_true.mp (show ws.all (okN d) = true from k) x hx)
  | d + 1, d' + 1, h, .lst ws, k => List.all_eq_true.mpr fun x hx => okN_up (Nat.le_of_succ_le_succ h) x (List.all_eq_true.mp (show ws.all (okN d) = true from k) x hx)
  | d + 1, d' + 1, h, .dct ws, k => List.all_eq_true.mpr fun x hx => okN_up (Nat.le_of_succ_le_succ h) x.2 (List.all_eq_true.mp (show (ws.all fun p => okN d p.2) = true from k) x hx)
  | 0, _, _, .tup ws, k => by simp [okN] at k
  | 0, _, _, .lst ws, k => by simp [okN] at k
  | 0, _, _, .dct ws, k => by simp [okN] at k
  | d + 1, 0, h, _, _ => by omega
  | d, _, _, .obj _ _, k => by cases d <;> simp [okN] at k
  | d, _, _, .dcT _, k => by cases d <;> simp [okN] at k
  | d, _, _, .exn _ _ _ _, k => by cases d <;> simp [okN] at k
  | d, _, _, .ref _, k => by cases d <;> simp [okN] at k
  | d, _, _, .ty _, k => by cases d <;> simp [okN] at k
  | d, _, _, .scr _, k => by cases d <;> simp [okN] at k
  | d, _, _, .glo _, k => by cases d <;> simp [okN] at k
theorem RN.up {d d' n n' : Nat} {w : W} (h : RN d n w) (hd : d ≤ d') (hn : n ≤ n') : RN d' n' w := ⟨okN_up hd w h.1, h.2.1, Nat.le_trans h.2.2 hn⟩
theorem RN.rep {d n : Nat} {w : W} (h : RN d n w) (hd : d ≤ 60 := by decide) (hn : n ≤ sizeLine := by decide) : RepN w := h.up hd hn
mutual
theorem toN_of : ∀ {d : Nat} (w : W), okD d w = true → toN w = toD w ∧ okN d w = true
  | d, .non, _ => by cases d <;> exact ⟨rfl, rfl⟩
  | d, .bl _, _ => by cases d <;> exact ⟨rfl, rfl⟩
  | d, .int _, _ => by cases d <;> exact ⟨rfl, rfl⟩
  | d, .str _, _ => by cases d <;> exact ⟨rfl, rfl⟩
  | d + 1, .tup ws, h => by
    obtain ⟨a, b⟩ := toNs_of ws (show ws.all (okD d) = true from h)
    exact ⟨congrArg PyData.tuple a, b⟩
  | d + 1, .lst ws, h => by
    obtain ⟨a, b⟩ := toNs_of ws (show ws.all (okD d) = true from h)
    exact ⟨congrArg PyData.list a, b⟩
  | 0, .tup ws, h => by simp [okD] at h
  | 0, .lst ws, h => by simp [okD] at h
  | d, .dct _, h => by cases d <;> simp [okD] at h
  | d, .obj _ _, h => by cases d <;> simp [okD] at h
  | d, .dcT _, h => by cases d <;> simp [okD] at h
  | d, .exn _ _ _ _, h => by cases d <;> simp [okD] at h
  | d, .ref _, h => by cases d <;> simp [okD] at h
  | d, .ty _, h => by cases d <;> simp [okD] at h
  | d, .scr _, h => by cases d <;> simp [okD] at h
  | d, .glo _, h => by cases d <;> simp [okD] at h
theorem toNs_of : ∀ {d : Nat} (ws : List W), ws.all (okD d) = true → toNs ws = toDs ws ∧ ws.all (okN d) = true
  | _, [], _ => ⟨rfl, rfl⟩
  | d, w :: ws, h => by
    rw [List.all_cons, Bool.and_eq_true] at h
    obtain ⟨a, b⟩ := toN_of w h.1
    obtain ⟨a2, b2⟩ := toNs_of ws h.2
    refine ⟨?_, by rw [List.all_cons, b, b2]; rfl⟩
    show toN w :: toNs ws = toD w :: toDs ws
    rw [a, a2]
end
theorem Rep.rn {d n : Nat} {w : W} (h : Rep d n w) : RN d n w := by
  obtain ⟨a, b⟩ := toN_of w h.1
  exact ⟨b, by rw [a]; exact h.2.1, by rw [a]; exact h.2.2⟩
/-- what repr takes -/
def AlN (x : W) : Prop := if refW x = true then RepN x else RepOk x
theorem AlN.ref {x : W} (h : refW x = true) (r : RepN x) : AlN x := by unfold AlN; rw [if_pos h]; exact r
/-- the odd values -/
structure Od (x : W) : Prop where
  rn : RN 30 100000 x
  sc : refW x = false → RepOk x
theorem ls_len {n : Nat} (h : n ≤ 9000) : RN 30 100000 (.str (timesS "l" n)) := by
  refine ⟨rfl, rfl, ?_⟩
  show (PySem.reprText (timesS "l" n)).length ≤ 100000
  have b := PySem.StrLaws.reprText_len (timesS "l" n) fun c hc => by rw [cps_l n c hc]; decide
  have e : (timesS "l" n).length = n := by rw [timesS_len]; show 1 * n = n; omega
  omega
def odB (x : W) : Bool := rnB 30 100000 x && (refW x || (okD 60 x && ((toD x).showable && decide ((toD x).shown.length ≤ sizeLine))))
theorem od_dec {x : W} (h : odB x = true) : Od x := by
  unfold odB at h
  obtain ⟨h1, h2⟩ := Bool.and_eq_true_iff.mp h
  refine ⟨rn_dec h1, fun e => ?_⟩
  rw [e, Bool.false_or] at h2
  simp only [Bool.and_eq_true, decide_eq_true_eq] at h2
  exact h2
theorem odd7_od : ∀ x ∈ odd7, Od x := fun x hx => by
  unfold odd7 at hx
  rcases List.mem_append.mp hx with hx | hx
  · rcases List.mem_append.mp hx with hx | hx
    · exact od_dec (List.all_eq_true.mp (show odd7a.all odB = true by decide +kernel) x hx)
    · unfold odd7b at hx
      simp only [List.mem_cons, List.not_mem_nil, or_false] at hx
      rcases hx with rfl | rfl | rfl | rfl | rfl | rfl | rfl
      · exact od_dec (by decide +kernel)
      · exact ⟨ls_len (by decide), fun _ => rep_ls (by decide)⟩
      · exact od_dec (by decide +kernel)
      · exact od_dec (by decide +kernel)
      · exact od_dec (by decide +kernel)
      · exact od_dec (by decide +kernel)
      · exact od_dec (by decide +kernel)
  · rw [List.mem_singleton.mp hx]
    exact od_dec (by decide +kernel)
theorem RepN.ok {x : W} (h : RepN x) : okN 60 x = true := h.1
local macro_rules | `(tactic| walk_at "rsFor_lRange2") => `(tactic| simp (decide := true) only [bodyI, start0, sSeq, sNext, sNever, sCont, sBreak, sDrop, sRet, sRetN, sRet0, sRetO, sIf, sSet, sSetN, sSetP, sPar, sParEN, sParNE, sPar3, sAsg, gNm, gsNil, gsCons, gTp, sAugI, sIxO, sIxS, sAugS, stoL, setW, iVar, iC, iNil, iCons, iTup, iLst, nLst, iFz, iB, gAdd, gI, gIC, gSub, gMul, gDiv, gMod, gPow, gLt, gLe, gGt, gGe, gEq, gNe, gIn, gIsN, isN, iNeg, tTru', gTru, tBl, iChain, tAnd', tOr', tNot', tYes', iIf, iAnd, iOr, iNot, iIx, gIx, atW, iIxO, ownL, oNone, oSome, iSl, gSl, iRevL, iCall, nCall, iFn, Stt.put, Stt.puts, iMtO, gAppend, gInsert, gExtend, gLen, iLenO, gAbs, gInt, gMinMax, gList, gTuple, iListRg, gIsi, tyN, gRepr, cut_13, cut_1_2, cut_1_3, cut_m2, cut_m3, cut_m4, atI_m2, atI_m3, atI_m4, iOfT, tKdIn, iKdIx, atI_0, atI_1, atI_2, atI_3, ixN_4_0, ixN_4_1, ixN_4_2, ixN_4_3, Sto.put_same, Sto.put_put, toNat_2, List.map, List.replicate, List.length_cons, List.length_nil, List.getElem?_cons_zero, List.getElem?_cons_succ, List.getElem?_nil, List.set_cons_zero, List.set_cons_succ, List.set_nil, List.cons_append, List.nil_append, List.append_nil, if_true, if_false, fz_val, fz_new, so_lst, so_dct, so_ins, eqW_ii, eqW_ss, eqW_tt, eqW_ll, eqW_nn, eqW_bb, eqW_ni, eqW_in, eqW_nt, eqW_tn, eqW_nl, eqW_ln, eqW_is, eqW_si, eqWs_nil, eqWs_cons, eqWs_nc, eqWs_cn, okD_int, okD_str, okD_bl, okD_non, okD_tup, okD_lst, eqOk_ii, eqOk_ss, eqOk_nn, eqOk_bb, eqOk_in, eqOk_ni, eqOk_tt, eqOk_ll, flatW_int, flatW_str, flatW_bl, flatW_non, inW, List.any_cons, List.any_nil, List.all_cons, List.all_nil, Bool.or_false, Bool.or_true, Bool.true_or, Bool.false_or, Bool.and_true, Bool.true_and, Bool.and_false, Bool.false_and, Bool.not_true, Bool.not_false, Bool.false_eq_true, true_and, and_true, beq_self_eq_true, List.isEmpty_cons, List.isEmpty_nil, Int.reduceNeg, eq_self, forall_const, iFld, objOf, iProp, iMeth, nMake, iInv, iMulM, iLenM, iIsi, sAtt, iRevT, lIter, nRep, lEnum, lZip, iEqM, gOwn, iDGet2, iAddO, nDisp, nDNew, iPairs, keysW, keyW, nFn, gListN, nListRg, iTupRg, nIf, sParM, iItems, putsR, Sh.R.slot, gIsB, isB, iPeek, tPeek, iPeekS, Stt.ps, noOwn, gInD, nPeek, Stt.pk, frzS, plainW, plainWs, tyS, tyIn, cOk, isAny, isOne, Option.map_some, lk_ne, List.lookup_nil, putW, lk_self, iXf, iIsE, Hnd.w, sRaise1, sRaise0, sTryE, gMax3, gEqN, gReprN, iIdxT, iIdxL, iInRg, nListM, iBR, iFnR, iPub, iMtR, drW, drWs, nOwn, nMeth, nSl, nAdd, nAddO, iMtN, sAugL, gSortedG, tTruO, refW_tup, refW_lst, refW_dct, refW_int, refW_str, refW_bl, refW_non, sFor, lRange2])
local macro_rules | `(tactic| walk_at "rnLc_lRange2") => `(tactic| simp (decide := true) only [bodyI, start0, sSeq, sNext, sNever, sCont, sBreak, sDrop, sRet, sRetN, sRet0, sRetO, sIf, sSet, sSetN, sSetP, sPar, sParEN, sParNE, sPar3, sAsg, gNm, gsNil, gsCons, gTp, sAugI, sIxO, sIxS, sAugS, stoL, setW, iVar, iC, iNil, iCons, iTup, iLst, nLst, iFz, iB, gAdd, gI, gIC, gSub, gMul, gDiv, gMod, gPow, gLt, gLe, gGt, gGe, gEq, gNe, gIn, gIsN, isN, iNeg, tTru', gTru, tBl, iChain, tAnd', tOr', tNot', tYes', iIf, iAnd, iOr, iNot, iIx, gIx, atW, iIxO, ownL, oNone, oSome, iSl, gSl, iRevL, iCall, nCall, iFn, Stt.put, Stt.puts, iMtO, gAppend, gInsert, gExtend, gLen, iLenO, gAbs, gInt, gMinMax, gList, gTuple, iListRg, gIsi, tyN, gRepr, cut_13, cut_1_2, cut_1_3, cut_m2, cut_m3, cut_m4, atI_m2, atI_m3, atI_m4, iOfT, tKdIn, iKdIx, atI_0, atI_1, atI_2, atI_3, ixN_4_0, ixN_4_1, ixN_4_2, ixN_4_3, Sto.put_same, Sto.put_put, toNat_2, List.map, List.replicate, List.length_cons, List.length_nil, List.getElem?_cons_zero, List.getElem?_cons_succ, List.getElem?_nil, List.set_cons_zero, List.set_cons_succ, List.set_nil, List.cons_append, List.nil_append, List.append_nil, if_true, if_false, fz_val, fz_new, so_lst, so_dct, so_ins, eqW_ii, eqW_ss, eqW_tt, eqW_ll, eqW_nn, eqW_bb, eqW_ni, eqW_in, eqW_nt, eqW_tn, eqW_nl, eqW_ln, eqW_is, eqW_si, eqWs_nil, eqWs_cons, eqWs_nc, eqWs_cn, okD_int, okD_str, okD_bl, okD_non, okD_tup, okD_lst, eqOk_ii, eqOk_ss, eqOk_nn, eqOk_bb, eqOk_in, eqOk_ni, eqOk_tt, eqOk_ll, flatW_int, flatW_str, flatW_bl, flatW_non, inW, List.any_cons, List.any_nil, List.all_cons, List.all_nil, Bool.or_false, Bool.or_true, Bool.true_or, Bool.false_or, Bool.and_true, Bool.true_and, Bool.and_false, Bool.false_and, Bool.not_true, Bool.not_false, Bool.false_eq_true, true_and, and_true, beq_self_eq_true, List.isEmpty_cons, List.isEmpty_nil, Int.reduceNeg, eq_self, forall_const, iFld, objOf, iProp, iMeth, nMake, iInv, iMulM, iLenM, iIsi, sAtt, iRevT, lIter, nRep, lEnum, lZip, iEqM, gOwn, iDGet2, iAddO, nDisp, nDNew, iPairs, keysW, keyW, nFn, gListN, nListRg, iTupRg, nIf, sParM, iItems, putsR, Sh.R.slot, gIsB, isB, iPeek, tPeek, iPeekS, Stt.ps, noOwn, gInD, nPeek, Stt.pk, frzS, plainW, plainWs, tyS, tyIn, cOk, isAny, isOne, Option.map_some, lk_ne, List.lookup_nil, putW, lk_self, iXf, iIsE, Hnd.w, sRaise1, sRaise0, sTryE, gMax3, gEqN, gReprN, iIdxT, iIdxL, iInRg, nListM, iBR, iFnR, iPub, iMtR, drW, drWs, nOwn, nMeth, nSl, nAdd, nAddO, iMtN, sAugL, gSortedG, tTruO, refW_tup, refW_lst, refW_dct, refW_int, refW_str, refW_bl, refW_non, nLc, lRange2])
def ib_l7_divisor_1 : IS := (sPar 0 1 (iVar 1) (iB gMod (iFn gInt (iCons (iVar 0) iNil)) (iVar 1)))
def ib_l7_divisor : IS := (sSeq (sWhile (tBl (iB gGt (iVar 1) (iC (.int 0)))) ib_l7_divisor_1)
  (sRet (iVar 0)))
def sp_l7_divisor : ISp := fun ws S Q E => ∃ a b : Nat, ws = [.int a, .int b] ∧ Q (.val (.int (Nat.gcd a b))) S
theorem ok_l7_divisor (ws : List W) (S : Sto) (Q : R → Sto → Prop) (E : Exn → Sto → Prop) (h : sp_l7_divisor ws S Q E) : bodyI 2 ib_l7_divisor ws S Q E := by
  obtain ⟨a, b, rfl, q⟩ := h
  unfold ib_l7_divisor
  refine seq_cut (fun st => st = ⟨[.val (.int (Nat.gcd a b)), .val (.int 0)], S⟩) (fun nx k => ?_) (fun st es => by subst es; exact q)
  refine ⟨fun n st => ∃ c : Nat, st = ⟨[.val (.int c), .val (.int (n : Nat))], S⟩ ∧ Nat.gcd c n = Nat.gcd a b, ⟨b, a, rfl, rfl⟩, ?_⟩
  rintro n st ⟨c, rfl, hg⟩
  unfold ib_l7_divisor_1
  walk_at "r"
  refine ifb (fun z => ?_) (fun z => ?_)
  · have hn : 0 < n := by have := of_decide_eq_true z; omega
    refine ⟨by omega, c % n, Nat.mod_lt _ hn, n, rfl, ?_⟩
    rw [← hg, Nat.gcd_comm c n, Nat.gcd_rec n c, Nat.gcd_comm]
  · have hn : n = 0 := by have := of_decide_eq_false z; omega
    subst hn
    rw [Nat.gcd_zero_right] at hg
    subst hg
    exact k _ rfl
theorem pr_iff {n d : Nat} (hd : 2 ≤ d) (hn : n < d * d) (h : ∀ e, 2 ≤ e → e < d → ¬ e ∣ n) (n2 : 2 ≤ n) : Pr n := by
  refine ⟨n2, fun e e1 e2 e3 => ?_⟩
  obtain ⟨f, hf⟩ := e3
  by_cases z : e < d
  · exact h e e1 z ⟨f, hf⟩
  · have fl : f < d := by
      by_cases w : f < d
      · exact w
      · exfalso
        have : d * d ≤ e * f := Nat.mul_le_mul (by omega) (by omega)
        omega
    have f2 : 2 ≤ f := by
      by_cases w : 2 ≤ f
      · exact w
      · exfalso
        have : f = 0 ∨ f = 1 := by omega
        rcases this with rfl | rfl
        · omega
        · omega
    exact h f f2 fl ⟨e, by rw [hf, Nat.mul_comm]⟩
open Classical in
noncomputable def prB (n : Nat) : Bool := decide (Pr n)
def ib_l7_is_prime_1 : IS := (sSeq (sIf (tBl (iB gGt (iB gMul (iVar 1) (iVar 1)) (iVar 0))) (sRet (iC (.bl true))) sNext)
    (sIf (tBl (iB gEq (iB gMod (iFn gInt (iCons (iVar 0) iNil)) (iVar 1)) (iC (.int 0)))) (sRet (iC (.bl false))) sNext))
def ib_l7_is_prime : IS := (sSeq (sFor (lRange2 (iC (.int 2)) (iVar 0)) (gNm 1) ib_l7_is_prime_1)
  (sRet (iB gGt (iVar 0) (iC (.int 1)))))
def sp_l7_is_prime : ISp := fun ws S Q E => ∃ n : Nat, ws = [.int n] ∧ 2 ≤ n ∧ n ≤ 1000000 ∧ Q (.val (.bl (prB n))) S
theorem prB_yes {n : Nat} (h : Pr n) : prB n = true := by unfold prB; simp [h]
theorem prB_no {n : Nat} (h : ¬ Pr n) : prB n = false := by unfold prB; simp [h]
theorem ok_l7_is_prime (ws : List W) (S : Sto) (Q : R → Sto → Prop) (E : Exn → Sto → Prop) (h : sp_l7_is_prime ws S Q E) : bodyI 2 ib_l7_is_prime ws S Q E := by
  obtain ⟨n, rfl, n2, n1, q⟩ := h
  unfold ib_l7_is_prime
  refine seq_cut (fun st => Pr n ∧ ∃ x1, st = ⟨[.val (.int n), x1], S⟩) (fun nx k => ?_) (fun st ⟨hp, x1, es⟩ => ?_)
  · walk_at "rsFor_lRange2"
    refine ⟨by unfold i62; omega, by unfold i62; omega, ?_⟩
    refine for_rng (fun i st => (∀ e, 2 ≤ e → e < 2 + i → ¬ e ∣ n) ∧ ∃ x1, st = ⟨[.val (.int n), x1], S⟩) _ _ ⟨fun e e1 e2 => by omega, _, rfl⟩ (fun st ⟨h, x1, es⟩ => k _ ⟨⟨n2, fun e e1 e2 => h e e1 (by omega)⟩, x1, es⟩) fun i hi st nx ⟨hm, x1, es⟩ hn => ?_
    subst es
    have ei : (2 : Int) + i = ((2 + i : Nat) : Int) := by omega
    unfold ib_l7_is_prime_1
    rw [ei]
    generalize hd : 2 + i = d at hm
    walk_at "r"
    refine ⟨.inr (.inl ⟨by omega, by omega⟩), ifb (fun z => ?_) (fun z => ?_)⟩
    · have z := of_decide_eq_true z
      have : n < d * d := by
        have e : ((d * d : Nat) : Int) = (d : Int) * d := by simp
        omega
      rw [prB_yes (pr_iff (by omega) this hm n2)] at q
      exact q
    · refine ⟨by omega, ifb (fun y => ?_) (fun y => ?_)⟩
      · have dv : d ∣ n := by
          have : (n : Int) % d = 0 := by simpa [eqW] using y
          exact Nat.dvd_of_mod_eq_zero (by omega)
        rw [prB_no fun hp => hp.2 d (by omega) (by omega) dv] at q
        exact q
      · have dv : ¬ d ∣ n := fun w => by
          have : (n : Int) % d = 0 := by have := Nat.mod_eq_zero_of_dvd w; omega
          simp [eqW, this] at y
        refine hn _ ⟨fun e e1 e2 => ?_, _, rfl⟩
        by_cases w : e = d
        · rw [w]; exact dv
        · exact hm e e1 (by omega)
  · subst es
    walk_at "r"
    rw [prB_yes hp] at q
    rw [decide_eq_true (by omega : (1 : Int) < n)]
    exact q
def ib_l7_primes : IS := (sRet (iFz (nLc (lRange2 (iC (.int 2)) (iB gAdd (iVar 0) (iC (.int 1)))) (gNm 1) (tAnd' (tBl (iB gEq (iB gMod (iFn gInt (iCons (iVar 0) iNil)) (iVar 1)) (iC (.int 0)))) (tTru' (iCall sp_l7_is_prime (iCons (iVar 1) iNil)))) (iVar 1) [1])))
def sp_l7_primes : ISp := fun ws S Q E => ∃ n : Nat, ws = [.int n] ∧ 1 ≤ n ∧ n ≤ 1000000 ∧ Q (.val (.lst (natW (primes n)))) S
open Classical in
noncomputable def primF (n : Nat) (w : W) : Option W := match w with
  | .int d => if Pr d.toNat ∧ d.toNat ∣ n then some (.int d) else none
  | _ => none
theorem primF_rng {n : Nat} : ∀ k : Nat, (rng 2 k).filterMap (primF n) = natW (prims n (2 + k))
  | 0 => by
    show [] = _
    rw [prims_two]; rfl
  | k + 1 => by
    have e : rng 2 (k + 1) = rng 2 k ++ [.int (2 + k)] := by
      unfold rng
      rw [List.range_succ, List.map_append]
      rfl
    have et : (2 + (k : Int)).toNat = 2 + k := by omega
    rw [e, List.filterMap_append, primF_rng k]
    by_cases z : Pr (2 + k) ∧ (2 + k) ∣ n
    · have : [W.int (2 + k)].filterMap (primF n) = [W.int (2 + k)] := by
        have : primF n (.int (2 + (k : Int))) = some (.int (2 + (k : Int))) := if_pos (by rw [et]; exact z)
        rw [List.filterMap_cons, this]
        rfl
      rw [this, show 2 + (k + 1) = 2 + k + 1 by omega, prims_yes z]
      unfold natW
      rw [List.map_append]
      rfl
    · have : [W.int (2 + k)].filterMap (primF n) = [] := by
        have : primF n (.int (2 + (k : Int))) = none := if_neg (by rw [et]; exact z)
        rw [List.filterMap_cons, this]
        rfl
      rw [this, show 2 + (k + 1) = 2 + k + 1 by omega, prims_no z, List.append_nil]
theorem ok_l7_primes (ws : List W) (S : Sto) (Q : R → Sto → Prop) (E : Exn → Sto → Prop) (h : sp_l7_primes ws S Q E) : bodyI 2 ib_l7_primes ws S Q E := by
  obtain ⟨n, rfl, n2, n1, q⟩ := h
  unfold ib_l7_primes
  walk_at "rnLc_lRange2"
  refine ⟨by unfold i62; omega, by unfold i62; omega, ?_⟩
  refine lc_map ⟨[.val (.int n), .none], S⟩ (primF n) _ _ _ (fun w hw Y Nn hY hN => ?_) rfl (by rw [rng_length, List.length_nil, sizeLine_eq]; omega) fun st' e => ?_
  · obtain ⟨d, rfl, d0, d1⟩ := rng_mem' hw
    have yes : Pr d.toNat ∧ d.toNat ∣ n → primF n (.int d) = some (.int d) := fun h => if_pos h
    have no : ¬ (Pr d.toNat ∧ d.toNat ∣ n) → primF n (.int d) = none := fun h => if_neg h
    unfold stepQ
    walk_at "r"
    refine ⟨by omega, ifb (fun z => ?_) (fun z => hN _ (no ?_) rfl)⟩
    · have dv : d.toNat ∣ n := by
        have : (n : Int) % d = 0 := by simpa [eqW] using z
        refine Int.natCast_dvd_natCast.mp ?_
        rw [Int.toNat_of_nonneg (by omega)]
        exact Int.dvd_of_emod_eq_zero this
      refine ⟨d.toNat, by rw [Int.toNat_of_nonneg (by omega)], by omega, by omega, ?_⟩
      walk_at "r"
      refine ifb (fun y => hY _ _ (yes ⟨?_, dv⟩) rfl) (fun y => hN _ (no fun h => ?_) rfl)
      · by_cases w : Pr d.toNat
        · exact w
        · rw [prB_no w] at y; cases y
      · rw [prB_yes h.1] at y; cases y
    · intro h
      have : (n : Int) % d = 0 := by
        have := Int.natCast_dvd_natCast.mpr h.2
        rw [Int.toNat_of_nonneg (by omega)] at this
        exact Int.emod_eq_zero_of_dvd this
      simp [eqW, this] at z
  · rw [e, primF_rng]
    have : prims n (2 + ((n : Int) + 1 - 2).toNat) = primes n := by
      unfold primes
      rw [show 2 + ((n : Int) + 1 - 2).toNat = n + 1 by omega]
    rw [this]
    exact q
def ppr (r : Nat) (b : Addr) : W := .tup [.int r, .ref b]
local macro_rules | `(tactic| walk_at "rnLc_lEnum") => `(tactic| simp (decide := true) only [bodyI, start0, sSeq, sNext, sNever, sCont, sBreak, sDrop, sRet, sRetN, sRet0, sRetO, sIf, sSet, sSetN, sSetP, sPar, sParEN, sParNE, sPar3, sAsg, gNm, gsNil, gsCons, gTp, sAugI, sIxO, sIxS, sAugS, stoL, setW, iVar, iC, iNil, iCons, iTup, iLst, nLst, iFz, iB, gAdd, gI, gIC, gSub, gMul, gDiv, gMod, gPow, gLt, gLe, gGt, gGe, gEq, gNe, gIn, gIsN, isN, iNeg, tTru', gTru, tBl, iChain, tAnd', tOr', tNot', tYes', iIf, iAnd, iOr, iNot, iIx, gIx, atW, iIxO, ownL, oNone, oSome, iSl, gSl, iRevL, iCall, nCall, iFn, Stt.put, Stt.puts, iMtO, gAppend, gInsert, gExtend, gLen, iLenO, gAbs, gInt, gMinMax, gList, gTuple, iListRg, gIsi, tyN, gRepr, cut_13, cut_1_2, cut_1_3, cut_m2, cut_m3, cut_m4, atI_m2, atI_m3, atI_m4, iOfT, tKdIn, iKdIx, atI_0, atI_1, atI_2, atI_3, ixN_4_0, ixN_4_1, ixN_4_2, ixN_4_3, Sto.put_same, Sto.put_put, toNat_2, List.map, List.replicate, List.length_cons, List.length_nil, List.getElem?_cons_zero, List.getElem?_cons_succ, List.getElem?_nil, List.set_cons_zero, List.set_cons_succ, List.set_nil, List.cons_append, List.nil_append, List.append_nil, if_true, if_false, fz_val, fz_new, so_lst, so_dct, so_ins, eqW_ii, eqW_ss, eqW_tt, eqW_ll, eqW_nn, eqW_bb, eqW_ni, eqW_in, eqW_nt, eqW_tn, eqW_nl, eqW_ln, eqW_is, eqW_si, eqWs_nil, eqWs_cons, eqWs_nc, eqWs_cn, okD_int, okD_str, okD_bl, okD_non, okD_tup, okD_lst, eqOk_ii, eqOk_ss, eqOk_nn, eqOk_bb, eqOk_in, eqOk_ni, eqOk_tt, eqOk_ll, flatW_int, flatW_str, flatW_bl, flatW_non, inW, List.any_cons, List.any_nil, List.all_cons, List.all_nil, Bool.or_false, Bool.or_true, Bool.true_or, Bool.false_or, Bool.and_true, Bool.true_and, Bool.and_false, Bool.false_and, Bool.not_true, Bool.not_false, Bool.false_eq_true, true_and, and_true, beq_self_eq_true, List.isEmpty_cons, List.isEmpty_nil, Int.reduceNeg, eq_self, forall_const, iFld, objOf, iProp, iMeth, nMake, iInv, iMulM, iLenM, iIsi, sAtt, iRevT, lIter, nRep, lEnum, lZip, iEqM, gOwn, iDGet2, iAddO, nDisp, nDNew, iPairs, keysW, keyW, nFn, gListN, nListRg, iTupRg, nIf, sParM, iItems, putsR, Sh.R.slot, gIsB, isB, iPeek, tPeek, iPeekS, Stt.ps, noOwn, gInD, nPeek, Stt.pk, frzS, plainW, plainWs, tyS, tyIn, cOk, isAny, isOne, Option.map_some, lk_ne, List.lookup_nil, putW, lk_self, iXf, iIsE, Hnd.w, sRaise1, sRaise0, sTryE, gMax3, gEqN, gReprN, iIdxT, iIdxL, iInRg, nListM, iBR, iFnR, iPub, iMtR, drW, drWs, nOwn, nMeth, nSl, nAdd, nAddO, iMtN, sAugL, gSortedG, tTruO, refW_tup, refW_lst, refW_dct, refW_int, refW_str, refW_bl, refW_non, nLc, lEnum])
noncomputable def pap (r : Nat) : W := .tup [.int r, .lst (natW (primes r))]
theorem ps_len {r : Nat} (h : r ≤ 20000) : (natW (primes r)).length ≤ 20001 := by
  unfold natW primes
  rw [List.length_map]
  exact Nat.le_trans (prims_len _ _) (by omega)
theorem ps_mem {r : Nat} {p : Nat} (h : p ∈ primes r) : 2 ≤ p ∧ p ≤ r := by
  unfold primes at h
  have := prims_mem.mp h
  exact ⟨this.2.1.1, by omega⟩
theorem ps_rep {r : Nat} {w : W} {d : Nat} (h : r ≤ 20000) (hw : w ∈ natW (primes r)) : Rep d 201 w := by
  obtain ⟨p, hp, rfl⟩ := List.mem_map.mp hw
  have := ps_mem hp
  exact rep_int (bd_of (by omega) (by omega))
theorem ps_lst {r d : Nat} (h : r ≤ 20000) : Rep (d + 1) 4060206 (.lst (natW (primes r))) := by
  have := ps_len h
  exact (rep_lst (d := d) (n := 201) fun w hw => ps_rep h hw).up (Nat.le_refl _) (by omega)
theorem pap_rep {r d : Nat} (h : r ≤ 20000) : Rep (d + 2) 8120419 (pap r) := by
  refine (rep_tup (d := d + 1) (n := 4060206) fun w hw => ?_).up (Nat.le_refl _) (Nat.le_refl _)
  simp only [List.mem_cons, List.not_mem_nil, or_false] at hw
  rcases hw with rfl | rfl
  · exact (rep_int (bd_of (by omega) (by omega))).up (Nat.le_refl _) (by decide)
  · exact ps_lst h
theorem pap_told {r : Nat} (h : r ≤ 20000) : RepOk (.tup [.str "told", pap r]) := by
  have t := rep_tup (d := 2) (n := 8120419) (ws := [.str "told", pap r]) fun w hw => by
    simp only [List.mem_cons, List.not_mem_nil, or_false] at hw
    rcases hw with rfl | rfl
    · exact ⟨by decide +kernel, by decide +kernel, by decide +kernel⟩
    · exact pap_rep h
  exact t.ok (hn := by show 8120419 * 2 + 2 * 2 + 3 ≤ _; rw [sizeLine_eq]; omega)
/-- what is handed in -/
def lenB (x : W) : Bool := match x with
  | .tup [_, .lst ys] => decide (ys.length ≤ 1000000)
  | _ => true
structure Th (x : W) : Prop where
  rn : RepN x
  dat : (∃ kvs, x = .dct kvs) ∨ RepOk x
  len : lenB x = true
theorem th_rep {d n : Nat} {x : W} (h : Rep d n x) (k : lenB x = true := by rfl) (hd : d ≤ 60 := by decide) (hn : n ≤ sizeLine := by decide) : Th x := ⟨h.rn.rep hd hn, .inr (h.ok hd hn), k⟩
def thB (x : W) : Bool := (match x with
  | .dct _ => true
  | _ => false) || (okD 60 x && ((toD x).showable && decide ((toD x).shown.length ≤ sizeLine)))
theorem th_dec {x : W} (h : Od x) (k : (thB x && lenB x) = true) : Th x := by
  obtain ⟨k, k2⟩ := Bool.and_eq_true_iff.mp k
  refine ⟨h.rn.rep, ?_, k2⟩
  cases x with
  | dct kvs => exact .inl ⟨kvs, rfl⟩
  | _ =>
    refine .inr ?_
    have k : (false || (okD 60 _ && ((toD _).showable && decide ((toD _).shown.length ≤ sizeLine)))) = true := k
    simp only [Bool.false_or, Bool.and_eq_true, decide_eq_true_eq] at k
    exact k
theorem odd7_th : ∀ x ∈ odd7, Th x := fun x hx => by
  have ho := odd7_od x hx
  unfold odd7 at hx
  rcases List.mem_append.mp hx with hx | hx
  · rcases List.mem_append.mp hx with hx | hx
    · exact th_dec ho (List.all_eq_true.mp (show (odd7a.all fun x => thB x && lenB x) = true by decide +kernel) x hx)
    · unfold odd7b at hx
      simp only [List.mem_cons, List.not_mem_nil, or_false] at hx
      rcases hx with rfl | rfl | rfl | rfl | rfl | rfl | rfl
      · exact th_dec ho (by decide +kernel)
      · exact ⟨ho.rn.rep, .inr (rep_ls (by decide)), rfl⟩
      · exact th_dec ho (by decide +kernel)
      · exact th_dec ho (by decide +kernel)
      · exact th_dec ho (by decide +kernel)
      · exact th_dec ho (by decide +kernel)
      · exact th_dec ho (by decide +kernel)
  · have hx := List.mem_singleton.mp hx
    subst hx
    exact th_dec ho (by decide +kernel)
/-- the whole paper, by its form -/
noncomputable def papB (r : Nat) : W → Bool
  | .tup [.int a, .lst ws] => ws.all isI && eqW (.tup [.int a, .lst ws]) (pap r)
  | _ => false
/-- alike, by == and by what it shows -/
def akB (x y : W) : Bool := match x with
  | .dct _ => false
  | x => eqW x y && ((toN x).shown == (toN y).shown)
theorem eqWs_nat : ∀ {bs : List W} {ps : List Nat}, eqWs bs (natW ps) = true → (∀ p ∈ ps, 2 ≤ p) → bs = natW ps
  | [], [], _, _ => rfl
  | [], p :: ps, h, _ => by simp [natW, eqWs] at h
  | b :: bs, [], h, _ => by simp [natW, eqWs] at h
  | b :: bs, p :: ps, h, hp => by
    have h : (eqW b (.int (p : Int)) && eqWs bs (natW ps)) = true := h
    obtain ⟨h1, h2⟩ := Bool.and_eq_true_iff.mp h
    have e := eqWs_nat h2 fun q hq => hp q (List.mem_cons_of_mem _ hq)
    have p2 := hp p List.mem_cons_self
    have eb : b = .int (p : Int) := by
      cases b with
      | int i =>
        have : (i == (p : Int)) = true := h1
        rw [beq_iff_eq.mp this]
      | bl c =>
        have : ((if c then (1 : Int) else 0) == (p : Int)) = true := h1
        have := beq_iff_eq.mp this
        cases c <;> simp at this <;> omega
      | _ => simp [eqW] at h1
    rw [eb, e]
    rfl
theorem eq_pap {r : Nat} {x : W} (h : eqW x (pap r) = true) : x = pap r ∨ (r = 1 ∧ x = .tup [.bl true, .lst []]) ∨ r = 0 := by
  cases x with
  | tup xs =>
    have h : eqWs xs [.int r, .lst (natW (primes r))] = true := h
    match xs, h with
    | [a, b], h =>
      have h : (eqW a (.int (r : Int)) && (eqW b (.lst (natW (primes r))) && true)) = true := h
      obtain ⟨h1, h2⟩ := Bool.and_eq_true_iff.mp h
      rw [Bool.and_true] at h2
      have eb : b = .lst (natW (primes r)) := by
        cases b with
        | lst bs => rw [eqWs_nat (show eqWs bs (natW (primes r)) = true from h2) fun p hp => (ps_mem hp).1]
        | _ => simp [eqW] at h2
      subst eb
      cases a with
      | int i =>
        have : (i == (r : Int)) = true := h1
        rw [beq_iff_eq.mp this]
        exact .inl rfl
      | bl c =>
        have : ((if c then (1 : Int) else 0) == (r : Int)) = true := h1
        have := beq_iff_eq.mp this
        cases c with
        | false => simp at this; exact .inr (.inr (by omega))
        | true =>
          have r1 : r = 1 := by simp at this; omega
          subst r1
          have e : primes 1 = [] := by
            cases z : primes 1 with
            | nil => rfl
            | cons p ps =>
              have := ps_mem (r := 1) (p := p) (by rw [z]; exact List.mem_cons_self)
              omega
          rw [e]
          exact .inr (.inl ⟨rfl, rfl⟩)
      | _ => simp [eqW] at h1
    | [], h => simp [eqWs] at h
    | [_], h => simp [eqWs] at h
    | _ :: _ :: _ :: _, h => simp [eqWs] at h
  | _ => simp [eqW, pap] at h
theorem natW_ints (ps : List Nat) : (natW ps).all isI = true := List.all_eq_true.mpr fun w hw => by
  obtain ⟨p, _, rfl⟩ := List.mem_map.mp hw
  rfl
theorem ak_pap {r : Nat} {x : W} (r1 : 1 ≤ r) (r2 : r ≤ 20000) : akB x (pap r) = papB r x := by
  have rf : eqW (pap r) (pap r) = true := eqW_refl 60 _ (pap_rep r2 (d := 2)).ok.1
  cases e : eqW x (pap r) with
  | true =>
    rcases eq_pap e with rfl | ⟨rfl, rfl⟩ | z
    · have h1 : akB (pap r) (pap r) = (eqW (pap r) (pap r) && ((toN (pap r)).shown == (toN (pap r)).shown)) := rfl
      have h2 : papB r (pap r) = ((natW (primes r)).all isI && eqW (pap r) (pap r)) := rfl
      rw [h1, h2, rf, natW_ints]
      simp
    · have e1 : primes 1 = [] := by
        cases z : primes 1 with
        | nil => rfl
        | cons p ps =>
          have := ps_mem (r := 1) (p := p) (by rw [z]; exact List.mem_cons_self)
          omega
      have ep : pap 1 = .tup [.int 1, .lst []] := by unfold pap; rw [e1]; rfl
      rw [ep]
      show (eqW (.tup [.bl true, .lst []]) (.tup [.int 1, .lst []]) && ((toN (.tup [.bl true, .lst []])).shown == (toN (.tup [.int 1, .lst []])).shown)) = false
      decide +kernel
    · omega
  | false =>
    have h1 : akB x (pap r) = false := by
      unfold akB
      split
      · rfl
      · rw [e]; rfl
    have h2 : papB r x = false := by
      unfold papB
      split
      · rw [e, Bool.and_false]
      · rfl
    rw [h1, h2]
mutual
theorem drW_data {S : Sto} : ∀ {n : Nat} (w : W), okN n w = true → drW S w = w
  | _, .non, _ => rfl
  | _, .bl _, _ => rfl
  | _, .int _, _ => rfl
  | _, .str _, _ => rfl
  | n + 1, .tup ws, h => by
    unfold drW
    rw [drWs_data ws (show ws.all (okN n) = true from h)]
  | _, .lst _, _ => rfl
  | _, .dct _, _ => rfl
  | 0, .tup ws, h => by simp [okN] at h
  | n, .obj _ _, h => by cases n <;> simp [okN] at h
  | n, .dcT _, h => by cases n <;> simp [okN] at h
  | n, .exn _ _ _ _, h => by cases n <;> simp [okN] at h
  | n, .ref _, h => by cases n <;> simp [okN] at h
  | n, .ty _, h => by cases n <;> simp [okN] at h
  | n, .scr _, h => by cases n <;> simp [okN] at h
  | n, .glo _, h => by cases n <;> simp [okN] at h
theorem drWs_data {S : Sto} : ∀ {n : Nat} (ws : List W), ws.all (okN n) = true → drWs S ws = ws
  | _, [], _ => rfl
  | n, w :: ws, h => by
    rw [List.all_cons, Bool.and_eq_true] at h
    unfold drWs
    rw [drW_data w h.1, drWs_data ws h.2]
end
def ib_lk_alike : IS := (sRet (iAnd (iBR gEqK (iVar 0) (iVar 1)) (iBR gEqK (iFnR gReprN (iCons (iVar 0) iNil)) (iFnR gReprN (iCons (iVar 1) iNil)))))
def sp_lk_alike : ISp := fun ws S Q E => ∃ x y x' y', ws = [x, y] ∧ drW S x = x' ∧ drW S y = y' ∧ Th x' ∧ Th y' ∧ (∃ us, y' = .tup us) ∧ Q (.val (.bl (akB x' y'))) S
theorem ok_lk_alike (ws : List W) (S : Sto) (Q : R → Sto → Prop) (E : Exn → Sto → Prop) (h : sp_lk_alike ws S Q E) : bodyI 2 ib_lk_alike ws S Q E := by
  obtain ⟨x, y, x', y', rfl, hx, hy, tx, ty, ⟨us, ey⟩, q⟩ := h
  unfold ib_lk_alike
  have yok : RepOk y' := by
    rcases ty.dat with ⟨kvs, z⟩ | h
    · rw [ey] at z; cases z
    · exact h
  rcases tx.dat with ⟨kvs, rfl⟩ | xok
  · simp! only [hx, hy]
    refine .inl ⟨kvs, us, rfl, ey, false, rfl, ?_⟩
    exact q
  · have hk : akB x' y' = (eqW x' y' && ((toN x').shown == (toN y').shown)) := by
      cases x' with
      | dct kvs => exact absurd xok.1 (by simp [okD])
      | _ => rfl
    have x64 := okD_mono (show 60 ≤ 64 by decide) x' xok.1
    have y64 := okD_mono (show 60 ≤ 64 by decide) y' yok.1
    simp! only [hx, hy]
    refine .inr (.inr (.inr ⟨eqOk_of x64 y64, eqW x' y', rfl, ifb (fun e => ?_) (fun e => ?_)⟩))
    · have rx : refW x' = true := by
        rw [ey] at e
        cases x' with
        | tup xs => rfl
        | _ => simp [eqW] at e
      refine ifT rx ⟨tx.rn, _, rfl, ifT (by rw [ey]; rfl) ⟨ty.rn, _, rfl, .inr (.inr (.inr ⟨rfl, _, rfl, ?_⟩))⟩⟩
      rw [hk, e, Bool.true_and] at q
      exact q
    · rw [hk, e, Bool.false_and] at q
      rw [e]
      exact q
def ib_pr_order_paper : IS := (sSeq (sIf (tBl (iB gNe (iCall sp_p_common (iCons (iVar 1) (iCons (iB gMod (iVar 0) (iVar 1)) iNil))) (iC (.int 1)))) (sRaise2 "NoOrder" "base" "modulus" (iCons (iVar 0) (iCons (iVar 1) iNil))) sNext)
  (sSeq (sSet 2 (iCall sp_p_order_of (iCons (iVar 0) (iCons (iVar 1) iNil))))
  (sRet (iTup (iCons (iVar 2) (iCons (iPub (nCall sp_p_primes_of (iCons (iVar 2) iNil))) iNil))))))
def sp_pr_order_paper : ISp := fun ws S Q E => ∃ b m : Int, ws = [.int b, .int m] ∧ 0 < m ∧ m ≤ 10000000 ∧ Bd b ∧ (Nat.gcd m.toNat (b % m).toNat ≠ 1 → E ⟨"NoOrder", [("modulus", .int m), ("base", .int b)]⟩ S) ∧
  (Nat.gcd m.toNat (b % m).toNat = 1 → ∀ r : Nat, IsOrd m b r → ∀ x, S x = none → Q (.val (ppr r x)) (S.put x (.lst (natW (primes r)))))
theorem ok_pr_order_paper (ws : List W) (S : Sto) (Q : R → Sto → Prop) (E : Exn → Sto → Prop) (h : sp_pr_order_paper ws S Q E) : bodyI 3 ib_pr_order_paper ws S Q E := by
  obtain ⟨b, m, rfl, hm, hm2, bb, hE, q⟩ := h
  unfold ib_pr_order_paper
  by_cases hg : Nat.gcd m.toNat (b % m).toNat = 1
  · obtain ⟨r0, r1, r2, rc⟩ := ord_ex hm hg
    have q := q hg
    refine seq_go fun nx e => ?_
    walk_at "r"
    refine ⟨hm, m.toNat, (b % m).toNat, ?_, ?_⟩
    · rw [Int.toNat_of_nonneg (by omega), Int.toNat_of_nonneg (Int.emod_nonneg _ (by omega))]
    rw [hg]
    walk_at "r"
    subst e
    refine seq_go fun nx e => ?_
    walk_at "r"
    refine ⟨b, m, r0, rfl, hm, by unfold Bd lim; omega, bb, r1, rc, fun r ho => ?_⟩
    walk_at "r"
    subst e
    have := ho.le r1 rc
    walk_at "r"
    exact ⟨r, rfl, ho.1, by omega, fun x hx => q r ho x hx⟩
  · refine seq_go fun nx e => ?_
    simp! only [sRaise2]
    refine ⟨hm, m.toNat, (b % m).toNat, ?_, ?_⟩
    · rw [Int.toNat_of_nonneg (by omega), Int.toNat_of_nonneg (Int.emod_nonneg _ (by omega))]
    · walk_at "r"
      refine ifT ?_ ⟨_, _, rfl, hE hg⟩
      simp
      omega
def ib_l7_told_1 : IS := (sSet 3 (iCall sp_pr_order_paper (iCons (iVar 0) (iCons (iVar 1) iNil))))
def ib_l7_told_2 (h : Hnd) : IS := (sRet (iIf (tTru' (iIsE ["NoOrder"] ["NoOrder"] h (iCons (iVar 2) (iCons (iC (.glo "NoOrder")) iNil)))) (iTup (iCons (iC (.str "none")) (iCons (iXf ["NoOrder"] "base" h (iVar 2)) (iCons (iXf ["NoOrder"] "modulus" h (iVar 2)) iNil)))) (iTup (iCons (iC (.str "other")) (iCons (iC (.int 0)) iNil)))))
def ib_l7_told : IS := (sTryE 2 ["NoOrder"] ib_l7_told_1 ib_l7_told_2 (sRet (iTup (iCons (iC (.str "told")) (iCons (iVar 3) iNil)))))
def sp_l7_told : ISp := fun ws S Q E => ∃ b m : Int, ws = [.int b, .int m] ∧ 0 < m ∧ m ≤ 10000000 ∧ Bd b ∧ (Nat.gcd m.toNat (b % m).toNat ≠ 1 → Q (.val (.tup [.str "none", .int b, .int m])) S) ∧
  (Nat.gcd m.toNat (b % m).toNat = 1 → ∀ r : Nat, IsOrd m b r → ∀ x, S x = none → Q (.val (.tup [.str "told", ppr r x])) (S.put x (.lst (natW (primes r)))))
theorem ok_l7_told (ws : List W) (S : Sto) (Q : R → Sto → Prop) (E : Exn → Sto → Prop) (h : sp_l7_told ws S Q E) : bodyI 4 ib_l7_told ws S Q E := by
  obtain ⟨b, m, rfl, hm, hm2, bb, qN, q⟩ := h
  unfold ib_l7_told
  walk_at "r"
  unfold ib_l7_told_1
  walk_at "r"
  refine ⟨b, m, rfl, hm, hm2, bb, fun hg => ⟨by simp, fun a d => ?_⟩, fun hg r ho x hx => ?_⟩
  · unfold ib_l7_told_2
    walk_at "r"
    exact qN hg
  · walk_at "r"
    exact q hg r ho x hx
def ib_l7_truth : IS := (sRet (iAnd (iOr (iB (gIsB false) (iVar 0) (iC (.bl true))) (iB (gIsB false) (iVar 0) (iC (.bl false)))) (iB gEq (iVar 0) (iVar 1))))
def sp_l7_truth : ISp := fun ws S Q E => ∃ (b : Bool), ws = [.bl b, .bl b] ∧ Q (.val (.bl true)) S
theorem ok_l7_truth (ws : List W) (S : Sto) (Q : R → Sto → Prop) (E : Exn → Sto → Prop) (h : sp_l7_truth ws S Q E) : bodyI 2 ib_l7_truth ws S Q E := by
  obtain ⟨b, rfl, q⟩ := h
  unfold ib_l7_truth
  cases b <;> walk_at "r" <;> exact q
def ib_l7_order_1 : IS := (sPar 2 3 (iB gAdd (iVar 2) (iC (.int 1))) (iB gMod (iFn gInt (iCons (iB gMul (iVar 3) (iVar 0)) iNil)) (iVar 1)))
def ib_l7_order : IS := (sSeq (sPar 2 3 (iC (.int 1)) (iB gMod (iFn gInt (iCons (iVar 0) iNil)) (iVar 1)))
  (sSeq (sWhile (tBl (iB gNe (iVar 3) (iB gSub (iC (.int 1)) (iFn gInt (iCons (iB gEq (iVar 1) (iC (.int 1))) iNil))))) ib_l7_order_1)
  (sRet (iVar 2))))
def sp_l7_order : ISp := fun ws S Q E => ∃ (b m : Int) (r0 : Nat), ws = [.int b, .int m] ∧ 0 < m ∧ Bd m ∧ Bd b ∧ 1 ≤ r0 ∧ Cg m (b ^ r0) 1 ∧ ∀ r : Nat, IsOrd m b r → Q (.val (.int r)) S
theorem ok_l7_order (ws : List W) (S : Sto) (Q : R → Sto → Prop) (E : Exn → Sto → Prop) (h : sp_l7_order ws S Q E) : bodyI 4 ib_l7_order ws S Q E := by
  obtain ⟨b, m, r0, rfl, hm, bm, bb, hr, hc, q⟩ := h
  unfold ib_l7_order
  have one : (1 : Int) % m = 1 - (if m == 1 then 1 else 0) := by
    by_cases z : m = 1
    · subst z; rfl
    · rw [Int.emod_eq_of_lt (by omega) (by omega)]
      simp [z]
  refine seq_step ⟨[.val (.int b), .val (.int m), .val (.int 1), .val (.int (b % m))], S⟩ (fun nx h => ?_) ?_
  · walk_at "r"
    exact ⟨hm, h⟩
  refine seq_cut (fun st => ∃ (r : Nat) (x : Slot), st = ⟨[.val (.int b), .val (.int m), .val (.int r), x], S⟩ ∧ IsOrd m b r) (fun nx k => ?_) (fun st ⟨r, x, es, ho⟩ => ?_)
  · refine ⟨fun n st => ∃ r : Nat, n + r = r0 ∧ 1 ≤ r ∧ (∀ s, 1 ≤ s → s < r → ¬ Cg m (b ^ s) 1) ∧ st = ⟨[.val (.int b), .val (.int m), .val (.int r), .val (.int (b ^ r % m))], S⟩, ⟨r0 - 1, 1, by omega, by omega, fun s h1 h2 => by omega, by rw [Int.pow_succ, Int.pow_zero, Int.one_mul]; rfl⟩, ?_⟩
    rintro n st ⟨r, hn, h1, hmin, rfl⟩
    unfold ib_l7_order_1
    walk_at "r"
    refine (fun (h : ∀ z : Int, z = 1 % m → (if (!b ^ r % m == z) = true then _ else _)) => h _ one.symm) fun z hz => ?_
    rw [hz]
    clear hz z
    refine ifb (fun z => ?_) (fun z => ?_)
    · have ne : ¬ Cg m (b ^ r) 1 := fun c => by
        have := c.mod hm
        rw [this] at z
        simp at z
      have hn0 : n ≠ 0 := fun e => by
        rw [e, Nat.zero_add] at hn
        subst hn
        exact ne hc
      refine ⟨.inl ⟨bd_lt bm (Int.emod_nonneg _ (by omega)) (Int.emod_lt_of_pos _ hm), bb⟩, hm, n - 1, by omega, r + 1, by omega, by omega, fun s g1 g2 => ?_, ?_⟩
      · by_cases e : s = r
        · rw [e]; exact ne
        · exact hmin s g1 (by omega)
      · have e : b ^ r % m * b % m = b ^ (r + 1) % m := by
          rw [Int.pow_succ]
          exact ((cg_mod m _).mul (.refl b)).mod hm
        rw [e]
        rfl
    · have c : Cg m (b ^ r) 1 := by
        have e : b ^ r % m = 1 % m := by simpa using z
        have := (cg_mod m (b ^ r)).symm
        rw [e] at this
        exact this.trans (cg_mod m 1)
      exact k _ ⟨r, _, rfl, h1, c, hmin⟩
  · subst es
    walk_at "r"
    exact q r ho
def ib_p_is_order_paper : IS := (sSeq (sIf (tOr' (tBl (iB gNe (iCall sp_p_common (iCons (iVar 1) (iCons (iB gMod (iVar 0) (iVar 1)) iNil))) (iC (.int 1)))) (tOr' (tNot' (tTru' (iFn gIsi (iCons (iVar 2) (iCons (iC (.ty "tuple")) iNil))))) (tBl (iB gNe (iFn gLen (iCons (iVar 2) iNil)) (iC (.int 2)))))) (sRet (iC (.bl false))) sNext)
  (sSeq (sIf (tOr' (tNot' (tTru' (iCall sp_p_is_integer (iCons (iIx (iVar 2) (iC (.int 0))) iNil)))) (tNot' (tTru' (iFn gIsi (iCons (iIx (iVar 2) (iC (.int 1))) (iCons (iC (.ty "list")) iNil)))))) (sRet (iC (.bl false))) sNext)
  (sRet (iAnd (iFn (gAll fun bs => bs.all id) (iCons (iFz (nLc (lSeq (iIx (iVar 2) (iC (.int 1)))) (gNm 3) tYes' (iCall sp_p_is_integer (iCons (iVar 3) iNil)) [3])) iNil)) (iBR gEqK (iVar 2) (iCall sp_pr_order_paper (iCons (iVar 0) (iCons (iVar 1) iNil))))))))
def sp_p_is_order_paper : ISp := fun ws S Q E => ∃ (b m : Int) (x : W), ws = [.int b, .int m, x] ∧ 0 < m ∧ m ≤ 20000 ∧ Bd b ∧ Th x ∧ (Nat.gcd m.toNat (b % m).toNat ≠ 1 → Q (.val (.bl false)) S) ∧
  (Nat.gcd m.toNat (b % m).toNat = 1 → ∀ r : Nat, IsOrd m b r → ∀ S', (S' = S ∨ ∃ y, S y = none ∧ S' = S.put y (.lst (natW (primes r)))) → Q (.val (.bl (papB r x))) S')
theorem ok_ty {n : Nat} {x : W} (h : okD n x = true) : tyN x ≠ none := by
  cases x <;> first | (intro z; cases z; done) | (cases n <;> simp [okD] at h)
theorem ord_least {m b : Int} {t : Nat} : 1 ≤ t → Cg m (b ^ t) 1 → ∃ T : Nat, T ≤ t ∧ IsOrd m b T := by
  induction t using Nat.strongRecOn with
  | ind t ih =>
    intro h1 h2
    by_cases z : ∃ s, 1 ≤ s ∧ s < t ∧ Cg m (b ^ s) 1
    · obtain ⟨s, s1, s2, s3⟩ := z
      obtain ⟨T, a1, a2⟩ := ih s s2 s1 s3
      exact ⟨T, by omega, a2⟩
    · exact ⟨t, Nat.le_refl _, h1, h2, fun s s1 s2 s3 => z ⟨s, s1, s2, s3⟩⟩
theorem ok_p_is_order_paper (ws : List W) (S : Sto) (Q : R → Sto → Prop) (E : Exn → Sto → Prop) (h : sp_p_is_order_paper ws S Q E) : bodyI 4 ib_p_is_order_paper ws S Q E := by
  obtain ⟨b, m, x, rfl, hm, hm2, bb, th, qN, q⟩ := h
  unfold ib_p_is_order_paper
  by_cases hg : Nat.gcd m.toNat (b % m).toNat = 1
  · have q := q hg
    obtain ⟨r, hr, r2⟩ : ∃ r : Nat, IsOrd m b r ∧ r ≤ 20000 := by
      obtain ⟨r0, r1, r2, rc⟩ := ord_ex hm hg
      obtain ⟨T, h1, h2⟩ := ord_least r1 rc
      exact ⟨T, h2, by omega⟩
    have qP := fun y hy => q r hr _ (.inr ⟨y, hy, rfl⟩)
    have q := q r hr S (.inl rfl)
    refine seq_go fun nx e => ?_
    walk_at "r"
    refine ⟨hm, m.toNat, (b % m).toNat, ?_, ?_⟩
    · rw [Int.toNat_of_nonneg (by omega), Int.toNat_of_nonneg (Int.emod_nonneg _ (by omega))]
    rw [hg]
    walk_at "r"
    rcases th.dat with ⟨kvs, rfl⟩ | ⟨x60, xs1, xs2⟩
    · simp (decide := true) only [bodyI, start0, sSeq, sNext, sNever, sCont, sBreak, sDrop, sRet, sRetN, sRet0, sRetO, sIf, sSet, sSetN, sSetP, sPar, sParEN, sParNE, sPar3, sAsg, gNm, gsNil, gsCons, gTp, sAugI, sIxO, sIxS, sAugS, stoL, setW, iVar, iC, iNil, iCons, iTup, iLst, nLst, iFz, iB, gAdd, gI, gIC, gSub, gMul, gDiv, gMod, gPow, gLt, gLe, gGt, gGe, gEq, gNe, gIn, gIsN, isN, iNeg, tTru', gTru, tBl, iChain, tAnd', tOr', tNot', tYes', iIf, iAnd, iOr, iNot, iIx, gIx, atW, iIxO, ownL, oNone, oSome, iSl, gSl, iRevL, iCall, nCall, iFn, Stt.put, Stt.puts, iMtO, gAppend, gInsert, gExtend, gLen, iLenO, gAbs, gInt, gMinMax, gList, gTuple, iListRg, gIsi, tyN, gRepr, cut_13, cut_1_2, cut_1_3, cut_m2, cut_m3, cut_m4, atI_m2, atI_m3, atI_m4, iOfT, tKdIn, iKdIx, atI_0, atI_1, atI_2, atI_3, ixN_4_0, ixN_4_1, ixN_4_2, ixN_4_3, Sto.put_same, Sto.put_put, toNat_2, List.map, List.replicate, List.length_cons, List.length_nil, List.getElem?_cons_zero, List.getElem?_cons_succ, List.getElem?_nil, List.set_cons_zero, List.set_cons_succ, List.set_nil, List.cons_append, List.nil_append, List.append_nil, if_true, if_false, fz_val, fz_new, so_lst, so_dct, so_ins, eqW_ii, eqW_ss, eqW_tt, eqW_ll, eqW_nn, eqW_bb, eqW_ni, eqW_in, eqW_nt, eqW_tn, eqW_nl, eqW_ln, eqW_is, eqW_si, eqWs_nil, eqWs_cons, eqWs_nc, eqWs_cn, okD_int, okD_str, okD_bl, okD_non, okD_tup, okD_lst, eqOk_ii, eqOk_ss, eqOk_nn, eqOk_bb, eqOk_in, eqOk_ni, eqOk_tt, eqOk_ll, flatW_int, flatW_str, flatW_bl, flatW_non, inW, List.any_cons, List.any_nil, List.all_cons, List.all_nil, Bool.or_false, Bool.or_true, Bool.true_or, Bool.false_or, Bool.and_true, Bool.true_and, Bool.and_false, Bool.false_and, Bool.not_true, Bool.not_false, Bool.false_eq_true, true_and, and_true, beq_self_eq_true, List.isEmpty_cons, List.isEmpty_nil, Int.reduceNeg, eq_self, forall_const, iFld, objOf, iProp, iMeth, nMake, iInv, iMulM, iLenM, iIsi, sAtt, iRevT, lIter, nRep, lEnum, lZip, iEqM, gOwn, iDGet2, iAddO, nDisp, nDNew, iPairs, keysW, keyW, nFn, gListN, nListRg, iTupRg, nIf, sParM, iItems, putsR, Sh.R.slot, gIsB, isB, iPeek, tPeek, iPeekS, Stt.ps, noOwn, gInD, nPeek, Stt.pk, frzS, plainW, plainWs, tyS, tyIn, cOk, isAny, isOne, Option.map_some, lk_ne, List.lookup_nil, putW, lk_self, iXf, iIsE, Hnd.w, sRaise1, sRaise0, sTryE, gMax3, gEqN, gReprN, iIdxT, iIdxL, iInRg, nListM, iBR, iFnR, iPub, iMtR, drW, drWs, nOwn, nMeth, nSl, nAdd, nAddO, iMtN, sAugL, gSortedG, tTruO, refW_tup, refW_lst, refW_dct, refW_int, refW_str, refW_bl, refW_non, kb_NoneType_int, kb_NoneType_bool, kb_NoneType_str, kb_NoneType_tuple, kb_NoneType_list, kb_NoneType_dict, kb_bool_int, kb_bool_bool, kb_bool_str, kb_bool_tuple, kb_bool_list, kb_bool_dict, kb_int_int, kb_int_bool, kb_int_str, kb_int_tuple, kb_int_list, kb_int_dict, kb_str_int, kb_str_bool, kb_str_str, kb_str_tuple, kb_str_list, kb_str_dict, kb_tuple_int, kb_tuple_bool, kb_tuple_str, kb_tuple_tuple, kb_tuple_list, kb_tuple_dict, kb_list_int, kb_list_bool, kb_list_str, kb_list_tuple, kb_list_list, kb_list_dict, kb_dict_int, kb_dict_bool, kb_dict_str, kb_dict_tuple, kb_dict_list, kb_dict_dict]
      exact q
    cases x with
    | tup ws =>
      simp (decide := true) only [bodyI, start0, sSeq, sNext, sNever, sCont, sBreak, sDrop, sRet, sRetN, sRet0, sRetO, sIf, sSet, sSetN, sSetP, sPar, sParEN, sParNE, sPar3, sAsg, gNm, gsNil, gsCons, gTp, sAugI, sIxO, sIxS, sAugS, stoL, setW, iVar, iC, iNil, iCons, iTup, iLst, nLst, iFz, iB, gAdd, gI, gIC, gSub, gMul, gDiv, gMod, gPow, gLt, gLe, gGt, gGe, gEq, gNe, gIn, gIsN, isN, iNeg, tTru', gTru, tBl, iChain, tAnd', tOr', tNot', tYes', iIf, iAnd, iOr, iNot, iIx, gIx, atW, iIxO, ownL, oNone, oSome, iSl, gSl, iRevL, iCall, nCall, iFn, Stt.put, Stt.puts, iMtO, gAppend, gInsert, gExtend, gLen, iLenO, gAbs, gInt, gMinMax, gList, gTuple, iListRg, gIsi, tyN, gRepr, cut_13, cut_1_2, cut_1_3, cut_m2, cut_m3, cut_m4, atI_m2, atI_m3, atI_m4, iOfT, tKdIn, iKdIx, atI_0, atI_1, atI_2, atI_3, ixN_4_0, ixN_4_1, ixN_4_2, ixN_4_3, Sto.put_same, Sto.put_put, toNat_2, List.map, List.replicate, List.length_cons, List.length_nil, List.getElem?_cons_zero, List.getElem?_cons_succ, List.getElem?_nil, List.set_cons_zero, List.set_cons_succ, List.set_nil, List.cons_append, List.nil_append, List.append_nil, if_true, if_false, fz_val, fz_new, so_lst, so_dct, so_ins, eqW_ii, eqW_ss, eqW_tt, eqW_ll, eqW_nn, eqW_bb, eqW_ni, eqW_in, eqW_nt, eqW_tn, eqW_nl, eqW_ln, eqW_is, eqW_si, eqWs_nil, eqWs_cons, eqWs_nc, eqWs_cn, okD_int, okD_str, okD_bl, okD_non, okD_tup, okD_lst, eqOk_ii, eqOk_ss, eqOk_nn, eqOk_bb, eqOk_in, eqOk_ni, eqOk_tt, eqOk_ll, flatW_int, flatW_str, flatW_bl, flatW_non, inW, List.any_cons, List.any_nil, List.all_cons, List.all_nil, Bool.or_false, Bool.or_true, Bool.true_or, Bool.false_or, Bool.and_true, Bool.true_and, Bool.and_false, Bool.false_and, Bool.not_true, Bool.not_false, Bool.false_eq_true, true_and, and_true, beq_self_eq_true, List.isEmpty_cons, List.isEmpty_nil, Int.reduceNeg, eq_self, forall_const, iFld, objOf, iProp, iMeth, nMake, iInv, iMulM, iLenM, iIsi, sAtt, iRevT, lIter, nRep, lEnum, lZip, iEqM, gOwn, iDGet2, iAddO, nDisp, nDNew, iPairs, keysW, keyW, nFn, gListN, nListRg, iTupRg, nIf, sParM, iItems, putsR, Sh.R.slot, gIsB, isB, iPeek, tPeek, iPeekS, Stt.ps, noOwn, gInD, nPeek, Stt.pk, frzS, plainW, plainWs, tyS, tyIn, cOk, isAny, isOne, Option.map_some, lk_ne, List.lookup_nil, putW, lk_self, iXf, iIsE, Hnd.w, sRaise1, sRaise0, sTryE, gMax3, gEqN, gReprN, iIdxT, iIdxL, iInRg, nListM, iBR, iFnR, iPub, iMtR, drW, drWs, nOwn, nMeth, nSl, nAdd, nAddO, iMtN, sAugL, gSortedG, tTruO, refW_tup, refW_lst, refW_dct, refW_int, refW_str, refW_bl, refW_non, kb_NoneType_int, kb_NoneType_bool, kb_NoneType_str, kb_NoneType_tuple, kb_NoneType_list, kb_NoneType_dict, kb_bool_int, kb_bool_bool, kb_bool_str, kb_bool_tuple, kb_bool_list, kb_bool_dict, kb_int_int, kb_int_bool, kb_int_str, kb_int_tuple, kb_int_list, kb_int_dict, kb_str_int, kb_str_bool, kb_str_str, kb_str_tuple, kb_str_list, kb_str_dict, kb_tuple_int, kb_tuple_bool, kb_tuple_str, kb_tuple_tuple, kb_tuple_list, kb_tuple_dict, kb_list_int, kb_list_bool, kb_list_str, kb_list_tuple, kb_list_list, kb_list_dict, kb_dict_int, kb_dict_bool, kb_dict_str, kb_dict_tuple, kb_dict_list, kb_dict_dict]
      match ws with
      | [] =>
        walk_at "r"
        exact q
      | [u] =>
        walk_at "r"
        have : papB r (.tup [u]) = false := by cases u <;> rfl
        rw [this] at q
        exact q
      | u :: v :: y :: ys =>
        walk_at "r"
        have : papB r (.tup (u :: v :: y :: ys)) = false := by cases u <;> first | rfl | (cases v <;> rfl)
        rw [this] at q
        exact ifT (by simp; omega) q
      | [u, v] =>
        walk_at "r"
        subst e
        have x60 : (okD 59 u && (okD 59 v && true)) = true := x60
        simp only [Bool.and_eq_true] at x60
        obtain ⟨hu, hv, _⟩ := x60
        refine seq_go fun nx e => ?_
        walk_at "r"
        refine ⟨u, rfl, ok_ty hu, ?_⟩
        walk_at "r"
        cases u with
        | int i =>
          simp! only [isI]
          cases v with
          | lst ys =>
            simp (decide := true) only [bodyI, start0, sSeq, sNext, sNever, sCont, sBreak, sDrop, sRet, sRetN, sRet0, sRetO, sIf, sSet, sSetN, sSetP, sPar, sParEN, sParNE, sPar3, sAsg, gNm, gsNil, gsCons, gTp, sAugI, sIxO, sIxS, sAugS, stoL, setW, iVar, iC, iNil, iCons, iTup, iLst, nLst, iFz, iB, gAdd, gI, gIC, gSub, gMul, gDiv, gMod, gPow, gLt, gLe, gGt, gGe, gEq, gNe, gIn, gIsN, isN, iNeg, tTru', gTru, tBl, iChain, tAnd', tOr', tNot', tYes', iIf, iAnd, iOr, iNot, iIx, gIx, atW, iIxO, ownL, oNone, oSome, iSl, gSl, iRevL, iCall, nCall, iFn, Stt.put, Stt.puts, iMtO, gAppend, gInsert, gExtend, gLen, iLenO, gAbs, gInt, gMinMax, gList, gTuple, iListRg, gIsi, tyN, gRepr, cut_13, cut_1_2, cut_1_3, cut_m2, cut_m3, cut_m4, atI_m2, atI_m3, atI_m4, iOfT, tKdIn, iKdIx, atI_0, atI_1, atI_2, atI_3, ixN_4_0, ixN_4_1, ixN_4_2, ixN_4_3, Sto.put_same, Sto.put_put, toNat_2, List.map, List.replicate, List.length_cons, List.length_nil, List.getElem?_cons_zero, List.getElem?_cons_succ, List.getElem?_nil, List.set_cons_zero, List.set_cons_succ, List.set_nil, List.cons_append, List.nil_append, List.append_nil, if_true, if_false, fz_val, fz_new, so_lst, so_dct, so_ins, eqW_ii, eqW_ss, eqW_tt, eqW_ll, eqW_nn, eqW_bb, eqW_ni, eqW_in, eqW_nt, eqW_tn, eqW_nl, eqW_ln, eqW_is, eqW_si, eqWs_nil, eqWs_cons, eqWs_nc, eqWs_cn, okD_int, okD_str, okD_bl, okD_non, okD_tup, okD_lst, eqOk_ii, eqOk_ss, eqOk_nn, eqOk_bb, eqOk_in, eqOk_ni, eqOk_tt, eqOk_ll, flatW_int, flatW_str, flatW_bl, flatW_non, inW, List.any_cons, List.any_nil, List.all_cons, List.all_nil, Bool.or_false, Bool.or_true, Bool.true_or, Bool.false_or, Bool.and_true, Bool.true_and, Bool.and_false, Bool.false_and, Bool.not_true, Bool.not_false, Bool.false_eq_true, true_and, and_true, beq_self_eq_true, List.isEmpty_cons, List.isEmpty_nil, Int.reduceNeg, eq_self, forall_const, iFld, objOf, iProp, iMeth, nMake, iInv, iMulM, iLenM, iIsi, sAtt, iRevT, lIter, nRep, lEnum, lZip, iEqM, gOwn, iDGet2, iAddO, nDisp, nDNew, iPairs, keysW, keyW, nFn, gListN, nListRg, iTupRg, nIf, sParM, iItems, putsR, Sh.R.slot, gIsB, isB, iPeek, tPeek, iPeekS, Stt.ps, noOwn, gInD, nPeek, Stt.pk, frzS, plainW, plainWs, tyS, tyIn, cOk, isAny, isOne, Option.map_some, lk_ne, List.lookup_nil, putW, lk_self, iXf, iIsE, Hnd.w, sRaise1, sRaise0, sTryE, gMax3, gEqN, gReprN, iIdxT, iIdxL, iInRg, nListM, iBR, iFnR, iPub, iMtR, drW, drWs, nOwn, nMeth, nSl, nAdd, nAddO, iMtN, sAugL, gSortedG, tTruO, refW_tup, refW_lst, refW_dct, refW_int, refW_str, refW_bl, refW_non, kb_NoneType_int, kb_NoneType_bool, kb_NoneType_str, kb_NoneType_tuple, kb_NoneType_list, kb_NoneType_dict, kb_bool_int, kb_bool_bool, kb_bool_str, kb_bool_tuple, kb_bool_list, kb_bool_dict, kb_int_int, kb_int_bool, kb_int_str, kb_int_tuple, kb_int_list, kb_int_dict, kb_str_int, kb_str_bool, kb_str_str, kb_str_tuple, kb_str_list, kb_str_dict, kb_tuple_int, kb_tuple_bool, kb_tuple_str, kb_tuple_tuple, kb_tuple_list, kb_tuple_dict, kb_list_int, kb_list_bool, kb_list_str, kb_list_tuple, kb_list_list, kb_list_dict, kb_dict_int, kb_dict_bool, kb_dict_str, kb_dict_tuple, kb_dict_list, kb_dict_dict]
            subst e
            have hys : ys.length ≤ sizeLine := by
              have : decide (ys.length ≤ 1000000) = true := th.len
              have := of_decide_eq_true this
              rw [sizeLine_eq]
              omega
            have okys : ys.all (okD 58) = true := hv
            walk_at "rnLc_lSeq_gItems"
            refine lc_id ⟨[.val (.int b), .val (.int m), .val (.tup [.int i, .lst ys]), .none], S⟩ (fun w => .bl (isI w)) ys _ (fun w hw Y hY => ?_) rfl hys fun st' es => ?_
            · walk_at "r"
              exact ⟨w, rfl, ok_ty (List.all_eq_true.mp okys w hw), hY _ rfl⟩
            · rw [es]
              simp! only [gAll, blsOf_map]
              have ea : (ys.map fun w => isI w).all id = ys.all isI := by rw [List.all_map]; rfl
              have ep : papB r (.tup [.int i, .lst ys]) = (ys.all isI && eqW (.tup [.int i, .lst ys]) (pap r)) := rfl
              rw [ep] at q
              refine ifb (fun z => ?_) (fun z => ?_)
              · refine ⟨b, m, rfl, hm, by omega, bb, fun h => absurd hg h, fun _ r' ho y hy => ?_⟩
                have : r' = r := by
                  have := ho.le hr.1 hr.2.1
                  have := hr.le ho.1 ho.2.1
                  omega
                subst this
                have q := qP y hy
                rw [ea] at z
                rw [ep, z, Bool.true_and] at q
                have d2 : drW (S.put y (.lst (natW (primes r')))) (ppr r' y) = pap r' := by
                  unfold ppr pap
                  walk_at "r"
                simp! only [d2]
                have ok1 : RepOk (.tup [.int i, .lst ys]) := by
                  rcases th.dat with ⟨_, z⟩ | h
                  · cases z
                  · exact h
                refine .inr (.inr (.inr ⟨eqOk_of (okD_mono (by decide) _ ok1.1) (okD_mono (by decide) _ (pap_rep r2 (d := 2)).ok.1), _, rfl, q⟩))
              · rw [z]
                rw [ea] at z
                rw [z, Bool.false_and] at q
                exact q
          | non =>
            simp (decide := true) only [bodyI, start0, sSeq, sNext, sNever, sCont, sBreak, sDrop, sRet, sRetN, sRet0, sRetO, sIf, sSet, sSetN, sSetP, sPar, sParEN, sParNE, sPar3, sAsg, gNm, gsNil, gsCons, gTp, sAugI, sIxO, sIxS, sAugS, stoL, setW, iVar, iC, iNil, iCons, iTup, iLst, nLst, iFz, iB, gAdd, gI, gIC, gSub, gMul, gDiv, gMod, gPow, gLt, gLe, gGt, gGe, gEq, gNe, gIn, gIsN, isN, iNeg, tTru', gTru, tBl, iChain, tAnd', tOr', tNot', tYes', iIf, iAnd, iOr, iNot, iIx, gIx, atW, iIxO, ownL, oNone, oSome, iSl, gSl, iRevL, iCall, nCall, iFn, Stt.put, Stt.puts, iMtO, gAppend, gInsert, gExtend, gLen, iLenO, gAbs, gInt, gMinMax, gList, gTuple, iListRg, gIsi, tyN, gRepr, cut_13, cut_1_2, cut_1_3, cut_m2, cut_m3, cut_m4, atI_m2, atI_m3, atI_m4, iOfT, tKdIn, iKdIx, atI_0, atI_1, atI_2, atI_3, ixN_4_0, ixN_4_1, ixN_4_2, ixN_4_3, Sto.put_same, Sto.put_put, toNat_2, List.map, List.replicate, List.length_cons, List.length_nil, List.getElem?_cons_zero, List.getElem?_cons_succ, List.getElem?_nil, List.set_cons_zero, List.set_cons_succ, List.set_nil, List.cons_append, List.nil_append, List.append_nil, if_true, if_false, fz_val, fz_new, so_lst, so_dct, so_ins, eqW_ii, eqW_ss, eqW_tt, eqW_ll, eqW_nn, eqW_bb, eqW_ni, eqW_in, eqW_nt, eqW_tn, eqW_nl, eqW_ln, eqW_is, eqW_si, eqWs_nil, eqWs_cons, eqWs_nc, eqWs_cn, okD_int, okD_str, okD_bl, okD_non, okD_tup, okD_lst, eqOk_ii, eqOk_ss, eqOk_nn, eqOk_bb, eqOk_in, eqOk_ni, eqOk_tt, eqOk_ll, flatW_int, flatW_str, flatW_bl, flatW_non, inW, List.any_cons, List.any_nil, List.all_cons, List.all_nil, Bool.or_false, Bool.or_true, Bool.true_or, Bool.false_or, Bool.and_true, Bool.true_and, Bool.and_false, Bool.false_and, Bool.not_true, Bool.not_false, Bool.false_eq_true, true_and, and_true, beq_self_eq_true, List.isEmpty_cons, List.isEmpty_nil, Int.reduceNeg, eq_self, forall_const, iFld, objOf, iProp, iMeth, nMake, iInv, iMulM, iLenM, iIsi, sAtt, iRevT, lIter, nRep, lEnum, lZip, iEqM, gOwn, iDGet2, iAddO, nDisp, nDNew, iPairs, keysW, keyW, nFn, gListN, nListRg, iTupRg, nIf, sParM, iItems, putsR, Sh.R.slot, gIsB, isB, iPeek, tPeek, iPeekS, Stt.ps, noOwn, gInD, nPeek, Stt.pk, frzS, plainW, plainWs, tyS, tyIn, cOk, isAny, isOne, Option.map_some, lk_ne, List.lookup_nil, putW, lk_self, iXf, iIsE, Hnd.w, sRaise1, sRaise0, sTryE, gMax3, gEqN, gReprN, iIdxT, iIdxL, iInRg, nListM, iBR, iFnR, iPub, iMtR, drW, drWs, nOwn, nMeth, nSl, nAdd, nAddO, iMtN, sAugL, gSortedG, tTruO, refW_tup, refW_lst, refW_dct, refW_int, refW_str, refW_bl, refW_non, kb_NoneType_int, kb_NoneType_bool, kb_NoneType_str, kb_NoneType_tuple, kb_NoneType_list, kb_NoneType_dict, kb_bool_int, kb_bool_bool, kb_bool_str, kb_bool_tuple, kb_bool_list, kb_bool_dict, kb_int_int, kb_int_bool, kb_int_str, kb_int_tuple, kb_int_list, kb_int_dict, kb_str_int, kb_str_bool, kb_str_str, kb_str_tuple, kb_str_list, kb_str_dict, kb_tuple_int, kb_tuple_bool, kb_tuple_str, kb_tuple_tuple, kb_tuple_list, kb_tuple_dict, kb_list_int, kb_list_bool, kb_list_str, kb_list_tuple, kb_list_list, kb_list_dict, kb_dict_int, kb_dict_bool, kb_dict_str, kb_dict_tuple, kb_dict_list, kb_dict_dict]
            exact q
          | bl c =>
            simp (decide := true) only [bodyI, start0, sSeq, sNext, sNever, sCont, sBreak, sDrop, sRet, sRetN, sRet0, sRetO, sIf, sSet, sSetN, sSetP, sPar, sParEN, sParNE, sPar3, sAsg, gNm, gsNil, gsCons, gTp, sAugI, sIxO, sIxS, sAugS, stoL, setW, iVar, iC, iNil, iCons, iTup, iLst, nLst, iFz, iB, gAdd, gI, gIC, gSub, gMul, gDiv, gMod, gPow, gLt, gLe, gGt, gGe, gEq, gNe, gIn, gIsN, isN, iNeg, tTru', gTru, tBl, iChain, tAnd', tOr', tNot', tYes', iIf, iAnd, iOr, iNot, iIx, gIx, atW, iIxO, ownL, oNone, oSome, iSl, gSl, iRevL, iCall, nCall, iFn, Stt.put, Stt.puts, iMtO, gAppend, gInsert, gExtend, gLen, iLenO, gAbs, gInt, gMinMax, gList, gTuple, iListRg, gIsi, tyN, gRepr, cut_13, cut_1_2, cut_1_3, cut_m2, cut_m3, cut_m4, atI_m2, atI_m3, atI_m4, iOfT, tKdIn, iKdIx, atI_0, atI_1, atI_2, atI_3, ixN_4_0, ixN_4_1, ixN_4_2, ixN_4_3, Sto.put_same, Sto.put_put, toNat_2, List.map, List.replicate, List.length_cons, List.length_nil, List.getElem?_cons_zero, List.getElem?_cons_succ, List.getElem?_nil, List.set_cons_zero, List.set_cons_succ, List.set_nil, List.cons_append, List.nil_append, List.append_nil, if_true, if_false, fz_val, fz_new, so_lst, so_dct, so_ins, eqW_ii, eqW_ss, eqW_tt, eqW_ll, eqW_nn, eqW_bb, eqW_ni, eqW_in, eqW_nt, eqW_tn, eqW_nl, eqW_ln, eqW_is, eqW_si, eqWs_nil, eqWs_cons, eqWs_nc, eqWs_cn, okD_int, okD_str, okD_bl, okD_non, okD_tup, okD_lst, eqOk_ii, eqOk_ss, eqOk_nn, eqOk_bb, eqOk_in, eqOk_ni, eqOk_tt, eqOk_ll, flatW_int, flatW_str, flatW_bl, flatW_non, inW, List.any_cons, List.any_nil, List.all_cons, List.all_nil, Bool.or_false, Bool.or_true, Bool.true_or, Bool.false_or, Bool.and_true, Bool.true_and, Bool.and_false, Bool.false_and, Bool.not_true, Bool.not_false, Bool.false_eq_true, true_and, and_true, beq_self_eq_true, List.isEmpty_cons, List.isEmpty_nil, Int.reduceNeg, eq_self, forall_const, iFld, objOf, iProp, iMeth, nMake, iInv, iMulM, iLenM, iIsi, sAtt, iRevT, lIter, nRep, lEnum, lZip, iEqM, gOwn, iDGet2, iAddO, nDisp, nDNew, iPairs, keysW, keyW, nFn, gListN, nListRg, iTupRg, nIf, sParM, iItems, putsR, Sh.R.slot, gIsB, isB, iPeek, tPeek, iPeekS, Stt.ps, noOwn, gInD, nPeek, Stt.pk, frzS, plainW, plainWs, tyS, tyIn, cOk, isAny, isOne, Option.map_some, lk_ne, List.lookup_nil, putW, lk_self, iXf, iIsE, Hnd.w, sRaise1, sRaise0, sTryE, gMax3, gEqN, gReprN, iIdxT, iIdxL, iInRg, nListM, iBR, iFnR, iPub, iMtR, drW, drWs, nOwn, nMeth, nSl, nAdd, nAddO, iMtN, sAugL, gSortedG, tTruO, refW_tup, refW_lst, refW_dct, refW_int, refW_str, refW_bl, refW_non, kb_NoneType_int, kb_NoneType_bool, kb_NoneType_str, kb_NoneType_tuple, kb_NoneType_list, kb_NoneType_dict, kb_bool_int, kb_bool_bool, kb_bool_str, kb_bool_tuple, kb_bool_list, kb_bool_dict, kb_int_int, kb_int_bool, kb_int_str, kb_int_tuple, kb_int_list, kb_int_dict, kb_str_int, kb_str_bool, kb_str_str, kb_str_tuple, kb_str_list, kb_str_dict, kb_tuple_int, kb_tuple_bool, kb_tuple_str, kb_tuple_tuple, kb_tuple_list, kb_tuple_dict, kb_list_int, kb_list_bool, kb_list_str, kb_list_tuple, kb_list_list, kb_list_dict, kb_dict_int, kb_dict_bool, kb_dict_str, kb_dict_tuple, kb_dict_list, kb_dict_dict]
            exact q
          | int i =>
            simp (decide := true) only [bodyI, start0, sSeq, sNext, sNever, sCont, sBreak, sDrop, sRet, sRetN, sRet0, sRetO, sIf, sSet, sSetN, sSetP, sPar, sParEN, sParNE, sPar3, sAsg, gNm, gsNil, gsCons, gTp, sAugI, sIxO, sIxS, sAugS, stoL, setW, iVar, iC, iNil, iCons, iTup, iLst, nLst, iFz, iB, gAdd, gI, gIC, gSub, gMul, gDiv, gMod, gPow, gLt, gLe, gGt, gGe, gEq, gNe, gIn, gIsN, isN, iNeg, tTru', gTru, tBl, iChain, tAnd', tOr', tNot', tYes', iIf, iAnd, iOr, iNot, iIx, gIx, atW, iIxO, ownL, oNone, oSome, iSl, gSl, iRevL, iCall, nCall, iFn, Stt.put, Stt.puts, iMtO, gAppend, gInsert, gExtend, gLen, iLenO, gAbs, gInt, gMinMax, gList, gTuple, iListRg, gIsi, tyN, gRepr, cut_13, cut_1_2, cut_1_3, cut_m2, cut_m3, cut_m4, atI_m2, atI_m3, atI_m4, iOfT, tKdIn, iKdIx, atI_0, atI_1, atI_2, atI_3, ixN_4_0, ixN_4_1, ixN_4_2, ixN_4_3, Sto.put_same, Sto.put_put, toNat_2, List.map, List.replicate, List.length_cons, List.length_nil, List.getElem?_cons_zero, List.getElem?_cons_succ, List.getElem?_nil, List.set_cons_zero, List.set_cons_succ, List.set_nil, List.cons_append, List.nil_append, List.append_nil, if_true, if_false, fz_val, fz_new, so_lst, so_dct, so_ins, eqW_ii, eqW_ss, eqW_tt, eqW_ll, eqW_nn, eqW_bb, eqW_ni, eqW_in, eqW_nt, eqW_tn, eqW_nl, eqW_ln, eqW_is, eqW_si, eqWs_nil, eqWs_cons, eqWs_nc, eqWs_cn, okD_int, okD_str, okD_bl, okD_non, okD_tup, okD_lst, eqOk_ii, eqOk_ss, eqOk_nn, eqOk_bb, eqOk_in, eqOk_ni, eqOk_tt, eqOk_ll, flatW_int, flatW_str, flatW_bl, flatW_non, inW, List.any_cons, List.any_nil, List.all_cons, List.all_nil, Bool.or_false, Bool.or_true, Bool.true_or, Bool.false_or, Bool.and_true, Bool.true_and, Bool.and_false, Bool.false_and, Bool.not_true, Bool.not_false, Bool.false_eq_true, true_and, and_true, beq_self_eq_true, List.isEmpty_cons, List.isEmpty_nil, Int.reduceNeg, eq_self, forall_const, iFld, objOf, iProp, iMeth, nMake, iInv, iMulM, iLenM, iIsi, sAtt, iRevT, lIter, nRep, lEnum, lZip, iEqM, gOwn, iDGet2, iAddO, nDisp, nDNew, iPairs, keysW, keyW, nFn, gListN, nListRg, iTupRg, nIf, sParM, iItems, putsR, Sh.R.slot, gIsB, isB, iPeek, tPeek, iPeekS, Stt.ps, noOwn, gInD, nPeek, Stt.pk, frzS, plainW, plainWs, tyS, tyIn, cOk, isAny, isOne, Option.map_some, lk_ne, List.lookup_nil, putW, lk_self, iXf, iIsE, Hnd.w, sRaise1, sRaise0, sTryE, gMax3, gEqN, gReprN, iIdxT, iIdxL, iInRg, nListM, iBR, iFnR, iPub, iMtR, drW, drWs, nOwn, nMeth, nSl, nAdd, nAddO, iMtN, sAugL, gSortedG, tTruO, refW_tup, refW_lst, refW_dct, refW_int, refW_str, refW_bl, refW_non, kb_NoneType_int, kb_NoneType_bool, kb_NoneType_str, kb_NoneType_tuple, kb_NoneType_list, kb_NoneType_dict, kb_bool_int, kb_bool_bool, kb_bool_str, kb_bool_tuple, kb_bool_list, kb_bool_dict, kb_int_int, kb_int_bool, kb_int_str, kb_int_tuple, kb_int_list, kb_int_dict, kb_str_int, kb_str_bool, kb_str_str, kb_str_tuple, kb_str_list, kb_str_dict, kb_tuple_int, kb_tuple_bool, kb_tuple_str, kb_tuple_tuple, kb_tuple_list, kb_tuple_dict, kb_list_int, kb_list_bool, kb_list_str, kb_list_tuple, kb_list_list, kb_list_dict, kb_dict_int, kb_dict_bool, kb_dict_str, kb_dict_tuple, kb_dict_list, kb_dict_dict]
            exact q
          | str i =>
            simp (decide := true) only [bodyI, start0, sSeq, sNext, sNever, sCont, sBreak, sDrop, sRet, sRetN, sRet0, sRetO, sIf, sSet, sSetN, sSetP, sPar, sParEN, sParNE, sPar3, sAsg, gNm, gsNil, gsCons, gTp, sAugI, sIxO, sIxS, sAugS, stoL, setW, iVar, iC, iNil, iCons, iTup, iLst, nLst, iFz, iB, gAdd, gI, gIC, gSub, gMul, gDiv, gMod, gPow, gLt, gLe, gGt, gGe, gEq, gNe, gIn, gIsN, isN, iNeg, tTru', gTru, tBl, iChain, tAnd', tOr', tNot', tYes', iIf, iAnd, iOr, iNot, iIx, gIx, atW, iIxO, ownL, oNone, oSome, iSl, gSl, iRevL, iCall, nCall, iFn, Stt.put, Stt.puts, iMtO, gAppend, gInsert, gExtend, gLen, iLenO, gAbs, gInt, gMinMax, gList, gTuple, iListRg, gIsi, tyN, gRepr, cut_13, cut_1_2, cut_1_3, cut_m2, cut_m3, cut_m4, atI_m2, atI_m3, atI_m4, iOfT, tKdIn, iKdIx, atI_0, atI_1, atI_2, atI_3, ixN_4_0, ixN_4_1, ixN_4_2, ixN_4_3, Sto.put_same, Sto.put_put, toNat_2, List.map, List.replicate, List.length_cons, List.length_nil, List.getElem?_cons_zero, List.getElem?_cons_succ, List.getElem?_nil, List.set_cons_zero, List.set_cons_succ, List.set_nil, List.cons_append, List.nil_append, List.append_nil, if_true, if_false, fz_val, fz_new, so_lst, so_dct, so_ins, eqW_ii, eqW_ss, eqW_tt, eqW_ll, eqW_nn, eqW_bb, eqW_ni, eqW_in, eqW_nt, eqW_tn, eqW_nl, eqW_ln, eqW_is, eqW_si, eqWs_nil, eqWs_cons, eqWs_nc, eqWs_cn, okD_int, okD_str, okD_bl, okD_non, okD_tup, okD_lst, eqOk_ii, eqOk_ss, eqOk_nn, eqOk_bb, eqOk_in, eqOk_ni, eqOk_tt, eqOk_ll, flatW_int, flatW_str, flatW_bl, flatW_non, inW, List.any_cons, List.any_nil, List.all_cons, List.all_nil, Bool.or_false, Bool.or_true, Bool.true_or, Bool.false_or, Bool.and_true, Bool.true_and, Bool.and_false, Bool.false_and, Bool.not_true, Bool.not_false, Bool.false_eq_true, true_and, and_true, beq_self_eq_true, List.isEmpty_cons, List.isEmpty_nil, Int.reduceNeg, eq_self, forall_const, iFld, objOf, iProp, iMeth, nMake, iInv, iMulM, iLenM, iIsi, sAtt, iRevT, lIter, nRep, lEnum, lZip, iEqM, gOwn, iDGet2, iAddO, nDisp, nDNew, iPairs, keysW, keyW, nFn, gListN, nListRg, iTupRg, nIf, sParM, iItems, putsR, Sh.R.slot, gIsB, isB, iPeek, tPeek, iPeekS, Stt.ps, noOwn, gInD, nPeek, Stt.pk, frzS, plainW, plainWs, tyS, tyIn, cOk, isAny, isOne, Option.map_some, lk_ne, List.lookup_nil, putW, lk_self, iXf, iIsE, Hnd.w, sRaise1, sRaise0, sTryE, gMax3, gEqN, gReprN, iIdxT, iIdxL, iInRg, nListM, iBR, iFnR, iPub, iMtR, drW, drWs, nOwn, nMeth, nSl, nAdd, nAddO, iMtN, sAugL, gSortedG, tTruO, refW_tup, refW_lst, refW_dct, refW_int, refW_str, refW_bl, refW_non, kb_NoneType_int, kb_NoneType_bool, kb_NoneType_str, kb_NoneType_tuple, kb_NoneType_list, kb_NoneType_dict, kb_bool_int, kb_bool_bool, kb_bool_str, kb_bool_tuple, kb_bool_list, kb_bool_dict, kb_int_int, kb_int_bool, kb_int_str, kb_int_tuple, kb_int_list, kb_int_dict, kb_str_int, kb_str_bool, kb_str_str, kb_str_tuple, kb_str_list, kb_str_dict, kb_tuple_int, kb_tuple_bool, kb_tuple_str, kb_tuple_tuple, kb_tuple_list, kb_tuple_dict, kb_list_int, kb_list_bool, kb_list_str, kb_list_tuple, kb_list_list, kb_list_dict, kb_dict_int, kb_dict_bool, kb_dict_str, kb_dict_tuple, kb_dict_list, kb_dict_dict]
            exact q
          | tup i =>
            simp (decide := true) only [bodyI, start0, sSeq, sNext, sNever, sCont, sBreak, sDrop, sRet, sRetN, sRet0, sRetO, sIf, sSet, sSetN, sSetP, sPar, sParEN, sParNE, sPar3, sAsg, gNm, gsNil, gsCons, gTp, sAugI, sIxO, sIxS, sAugS, stoL, setW, iVar, iC, iNil, iCons, iTup, iLst, nLst, iFz, iB, gAdd, gI, gIC, gSub, gMul, gDiv, gMod, gPow, gLt, gLe, gGt, gGe, gEq, gNe, gIn, gIsN, isN, iNeg, tTru', gTru, tBl, iChain, tAnd', tOr', tNot', tYes', iIf, iAnd, iOr, iNot, iIx, gIx, atW, iIxO, ownL, oNone, oSome, iSl, gSl, iRevL, iCall, nCall, iFn, Stt.put, Stt.puts, iMtO, gAppend, gInsert, gExtend, gLen, iLenO, gAbs, gInt, gMinMax, gList, gTuple, iListRg, gIsi, tyN, gRepr, cut_13, cut_1_2, cut_1_3, cut_m2, cut_m3, cut_m4, atI_m2, atI_m3, atI_m4, iOfT, tKdIn, iKdIx, atI_0, atI_1, atI_2, atI_3, ixN_4_0, ixN_4_1, ixN_4_2, ixN_4_3, Sto.put_same, Sto.put_put, toNat_2, List.map, List.replicate, List.length_cons, List.length_nil, List.getElem?_cons_zero, List.getElem?_cons_succ, List.getElem?_nil, List.set_cons_zero, List.set_cons_succ, List.set_nil, List.cons_append, List.nil_append, List.append_nil, if_true, if_false, fz_val, fz_new, so_lst, so_dct, so_ins, eqW_ii, eqW_ss, eqW_tt, eqW_ll, eqW_nn, eqW_bb, eqW_ni, eqW_in, eqW_nt, eqW_tn, eqW_nl, eqW_ln, eqW_is, eqW_si, eqWs_nil, eqWs_cons, eqWs_nc, eqWs_cn, okD_int, okD_str, okD_bl, okD_non, okD_tup, okD_lst, eqOk_ii, eqOk_ss, eqOk_nn, eqOk_bb, eqOk_in, eqOk_ni, eqOk_tt, eqOk_ll, flatW_int, flatW_str, flatW_bl, flatW_non, inW, List.any_cons, List.any_nil, List.all_cons, List.all_nil, Bool.or_false, Bool.or_true, Bool.true_or, Bool.false_or, Bool.and_true, Bool.true_and, Bool.and_false, Bool.false_and, Bool.not_true, Bool.not_false, Bool.false_eq_true, true_and, and_true, beq_self_eq_true, List.isEmpty_cons, List.isEmpty_nil, Int.reduceNeg, eq_self, forall_const, iFld, objOf, iProp, iMeth, nMake, iInv, iMulM, iLenM, iIsi, sAtt, iRevT, lIter, nRep, lEnum, lZip, iEqM, gOwn, iDGet2, iAddO, nDisp, nDNew, iPairs, keysW, keyW, nFn, gListN, nListRg, iTupRg, nIf, sParM, iItems, putsR, Sh.R.slot, gIsB, isB, iPeek, tPeek, iPeekS, Stt.ps, noOwn, gInD, nPeek, Stt.pk, frzS, plainW, plainWs, tyS, tyIn, cOk, isAny, isOne, Option.map_some, lk_ne, List.lookup_nil, putW, lk_self, iXf, iIsE, Hnd.w, sRaise1, sRaise0, sTryE, gMax3, gEqN, gReprN, iIdxT, iIdxL, iInRg, nListM, iBR, iFnR, iPub, iMtR, drW, drWs, nOwn, nMeth, nSl, nAdd, nAddO, iMtN, sAugL, gSortedG, tTruO, refW_tup, refW_lst, refW_dct, refW_int, refW_str, refW_bl, refW_non, kb_NoneType_int, kb_NoneType_bool, kb_NoneType_str, kb_NoneType_tuple, kb_NoneType_list, kb_NoneType_dict, kb_bool_int, kb_bool_bool, kb_bool_str, kb_bool_tuple, kb_bool_list, kb_bool_dict, kb_int_int, kb_int_bool, kb_int_str, kb_int_tuple, kb_int_list, kb_int_dict, kb_str_int, kb_str_bool, kb_str_str, kb_str_tuple, kb_str_list, kb_str_dict, kb_tuple_int, kb_tuple_bool, kb_tuple_str, kb_tuple_tuple, kb_tuple_list, kb_tuple_dict, kb_list_int, kb_list_bool, kb_list_str, kb_list_tuple, kb_list_list, kb_list_dict, kb_dict_int, kb_dict_bool, kb_dict_str, kb_dict_tuple, kb_dict_list, kb_dict_dict]
            exact q
          | _ => simp [okD] at hv
        | non => exact q
        | bl c => exact q
        | str i => exact q
        | lst i => exact q
        | tup i => exact q
        | _ => simp [okD] at hu
    | non =>
      simp (decide := true) only [bodyI, start0, sSeq, sNext, sNever, sCont, sBreak, sDrop, sRet, sRetN, sRet0, sRetO, sIf, sSet, sSetN, sSetP, sPar, sParEN, sParNE, sPar3, sAsg, gNm, gsNil, gsCons, gTp, sAugI, sIxO, sIxS, sAugS, stoL, setW, iVar, iC, iNil, iCons, iTup, iLst, nLst, iFz, iB, gAdd, gI, gIC, gSub, gMul, gDiv, gMod, gPow, gLt, gLe, gGt, gGe, gEq, gNe, gIn, gIsN, isN, iNeg, tTru', gTru, tBl, iChain, tAnd', tOr', tNot', tYes', iIf, iAnd, iOr, iNot, iIx, gIx, atW, iIxO, ownL, oNone, oSome, iSl, gSl, iRevL, iCall, nCall, iFn, Stt.put, Stt.puts, iMtO, gAppend, gInsert, gExtend, gLen, iLenO, gAbs, gInt, gMinMax, gList, gTuple, iListRg, gIsi, tyN, gRepr, cut_13, cut_1_2, cut_1_3, cut_m2, cut_m3, cut_m4, atI_m2, atI_m3, atI_m4, iOfT, tKdIn, iKdIx, atI_0, atI_1, atI_2, atI_3, ixN_4_0, ixN_4_1, ixN_4_2, ixN_4_3, Sto.put_same, Sto.put_put, toNat_2, List.map, List.replicate, List.length_cons, List.length_nil, List.getElem?_cons_zero, List.getElem?_cons_succ, List.getElem?_nil, List.set_cons_zero, List.set_cons_succ, List.set_nil, List.cons_append, List.nil_append, List.append_nil, if_true, if_false, fz_val, fz_new, so_lst, so_dct, so_ins, eqW_ii, eqW_ss, eqW_tt, eqW_ll, eqW_nn, eqW_bb, eqW_ni, eqW_in, eqW_nt, eqW_tn, eqW_nl, eqW_ln, eqW_is, eqW_si, eqWs_nil, eqWs_cons, eqWs_nc, eqWs_cn, okD_int, okD_str, okD_bl, okD_non, okD_tup, okD_lst, eqOk_ii, eqOk_ss, eqOk_nn, eqOk_bb, eqOk_in, eqOk_ni, eqOk_tt, eqOk_ll, flatW_int, flatW_str, flatW_bl, flatW_non, inW, List.any_cons, List.any_nil, List.all_cons, List.all_nil, Bool.or_false, Bool.or_true, Bool.true_or, Bool.false_or, Bool.and_true, Bool.true_and, Bool.and_false, Bool.false_and, Bool.not_true, Bool.not_false, Bool.false_eq_true, true_and, and_true, beq_self_eq_true, List.isEmpty_cons, List.isEmpty_nil, Int.reduceNeg, eq_self, forall_const, iFld, objOf, iProp, iMeth, nMake, iInv, iMulM, iLenM, iIsi, sAtt, iRevT, lIter, nRep, lEnum, lZip, iEqM, gOwn, iDGet2, iAddO, nDisp, nDNew, iPairs, keysW, keyW, nFn, gListN, nListRg, iTupRg, nIf, sParM, iItems, putsR, Sh.R.slot, gIsB, isB, iPeek, tPeek, iPeekS, Stt.ps, noOwn, gInD, nPeek, Stt.pk, frzS, plainW, plainWs, tyS, tyIn, cOk, isAny, isOne, Option.map_some, lk_ne, List.lookup_nil, putW, lk_self, iXf, iIsE, Hnd.w, sRaise1, sRaise0, sTryE, gMax3, gEqN, gReprN, iIdxT, iIdxL, iInRg, nListM, iBR, iFnR, iPub, iMtR, drW, drWs, nOwn, nMeth, nSl, nAdd, nAddO, iMtN, sAugL, gSortedG, tTruO, refW_tup, refW_lst, refW_dct, refW_int, refW_str, refW_bl, refW_non, kb_NoneType_int, kb_NoneType_bool, kb_NoneType_str, kb_NoneType_tuple, kb_NoneType_list, kb_NoneType_dict, kb_bool_int, kb_bool_bool, kb_bool_str, kb_bool_tuple, kb_bool_list, kb_bool_dict, kb_int_int, kb_int_bool, kb_int_str, kb_int_tuple, kb_int_list, kb_int_dict, kb_str_int, kb_str_bool, kb_str_str, kb_str_tuple, kb_str_list, kb_str_dict, kb_tuple_int, kb_tuple_bool, kb_tuple_str, kb_tuple_tuple, kb_tuple_list, kb_tuple_dict, kb_list_int, kb_list_bool, kb_list_str, kb_list_tuple, kb_list_list, kb_list_dict, kb_dict_int, kb_dict_bool, kb_dict_str, kb_dict_tuple, kb_dict_list, kb_dict_dict]
      exact q
    | bl c =>
      simp (decide := true) only [bodyI, start0, sSeq, sNext, sNever, sCont, sBreak, sDrop, sRet, sRetN, sRet0, sRetO, sIf, sSet, sSetN, sSetP, sPar, sParEN, sParNE, sPar3, sAsg, gNm, gsNil, gsCons, gTp, sAugI, sIxO, sIxS, sAugS, stoL, setW, iVar, iC, iNil, iCons, iTup, iLst, nLst, iFz, iB, gAdd, gI, gIC, gSub, gMul, gDiv, gMod, gPow, gLt, gLe, gGt, gGe, gEq, gNe, gIn, gIsN, isN, iNeg, tTru', gTru, tBl, iChain, tAnd', tOr', tNot', tYes', iIf, iAnd, iOr, iNot, iIx, gIx, atW, iIxO, ownL, oNone, oSome, iSl, gSl, iRevL, iCall, nCall, iFn, Stt.put, Stt.puts, iMtO, gAppend, gInsert, gExtend, gLen, iLenO, gAbs, gInt, gMinMax, gList, gTuple, iListRg, gIsi, tyN, gRepr, cut_13, cut_1_2, cut_1_3, cut_m2, cut_m3, cut_m4, atI_m2, atI_m3, atI_m4, iOfT, tKdIn, iKdIx, atI_0, atI_1, atI_2, atI_3, ixN_4_0, ixN_4_1, ixN_4_2, ixN_4_3, Sto.put_same, Sto.put_put, toNat_2, List.map, List.replicate, List.length_cons, List.length_nil, List.getElem?_cons_zero, List.getElem?_cons_succ, List.getElem?_nil, List.set_cons_zero, List.set_cons_succ, List.set_nil, List.cons_append, List.nil_append, List.append_nil, if_true, if_false, fz_val, fz_new, so_lst, so_dct, so_ins, eqW_ii, eqW_ss, eqW_tt, eqW_ll, eqW_nn, eqW_bb, eqW_ni, eqW_in, eqW_nt, eqW_tn, eqW_nl, eqW_ln, eqW_is, eqW_si, eqWs_nil, eqWs_cons, eqWs_nc, eqWs_cn, okD_int, okD_str, okD_bl, okD_non, okD_tup, okD_lst, eqOk_ii, eqOk_ss, eqOk_nn, eqOk_bb, eqOk_in, eqOk_ni, eqOk_tt, eqOk_ll, flatW_int, flatW_str, flatW_bl, flatW_non, inW, List.any_cons, List.any_nil, List.all_cons, List.all_nil, Bool.or_false, Bool.or_true, Bool.true_or, Bool.false_or, Bool.and_true, Bool.true_and, Bool.and_false, Bool.false_and, Bool.not_true, Bool.not_false, Bool.false_eq_true, true_and, and_true, beq_self_eq_true, List.isEmpty_cons, List.isEmpty_nil, Int.reduceNeg, eq_self, forall_const, iFld, objOf, iProp, iMeth, nMake, iInv, iMulM, iLenM, iIsi, sAtt, iRevT, lIter, nRep, lEnum, lZip, iEqM, gOwn, iDGet2, iAddO, nDisp, nDNew, iPairs, keysW, keyW, nFn, gListN, nListRg, iTupRg, nIf, sParM, iItems, putsR, Sh.R.slot, gIsB, isB, iPeek, tPeek, iPeekS, Stt.ps, noOwn, gInD, nPeek, Stt.pk, frzS, plainW, plainWs, tyS, tyIn, cOk, isAny, isOne, Option.map_some, lk_ne, List.lookup_nil, putW, lk_self, iXf, iIsE, Hnd.w, sRaise1, sRaise0, sTryE, gMax3, gEqN, gReprN, iIdxT, iIdxL, iInRg, nListM, iBR, iFnR, iPub, iMtR, drW, drWs, nOwn, nMeth, nSl, nAdd, nAddO, iMtN, sAugL, gSortedG, tTruO, refW_tup, refW_lst, refW_dct, refW_int, refW_str, refW_bl, refW_non, kb_NoneType_int, kb_NoneType_bool, kb_NoneType_str, kb_NoneType_tuple, kb_NoneType_list, kb_NoneType_dict, kb_bool_int, kb_bool_bool, kb_bool_str, kb_bool_tuple, kb_bool_list, kb_bool_dict, kb_int_int, kb_int_bool, kb_int_str, kb_int_tuple, kb_int_list, kb_int_dict, kb_str_int, kb_str_bool, kb_str_str, kb_str_tuple, kb_str_list, kb_str_dict, kb_tuple_int, kb_tuple_bool, kb_tuple_str, kb_tuple_tuple, kb_tuple_list, kb_tuple_dict, kb_list_int, kb_list_bool, kb_list_str, kb_list_tuple, kb_list_list, kb_list_dict, kb_dict_int, kb_dict_bool, kb_dict_str, kb_dict_tuple, kb_dict_list, kb_dict_dict]
      exact q
    | int i =>
      simp (decide := true) only [bodyI, start0, sSeq, sNext, sNever, sCont, sBreak, sDrop, sRet, sRetN, sRet0, sRetO, sIf, sSet, sSetN, sSetP, sPar, sParEN, sParNE, sPar3, sAsg, gNm, gsNil, gsCons, gTp, sAugI, sIxO, sIxS, sAugS, stoL, setW, iVar, iC, iNil, iCons, iTup, iLst, nLst, iFz, iB, gAdd, gI, gIC, gSub, gMul, gDiv, gMod, gPow, gLt, gLe, gGt, gGe, gEq, gNe, gIn, gIsN, isN, iNeg, tTru', gTru, tBl, iChain, tAnd', tOr', tNot', tYes', iIf, iAnd, iOr, iNot, iIx, gIx, atW, iIxO, ownL, oNone, oSome, iSl, gSl, iRevL, iCall, nCall, iFn, Stt.put, Stt.puts, iMtO, gAppend, gInsert, gExtend, gLen, iLenO, gAbs, gInt, gMinMax, gList, gTuple, iListRg, gIsi, tyN, gRepr, cut_13, cut_1_2, cut_1_3, cut_m2, cut_m3, cut_m4, atI_m2, atI_m3, atI_m4, iOfT, tKdIn, iKdIx, atI_0, atI_1, atI_2, atI_3, ixN_4_0, ixN_4_1, ixN_4_2, ixN_4_3, Sto.put_same, Sto.put_put, toNat_2, List.map, List.replicate, List.length_cons, List.length_nil, List.getElem?_cons_zero, List.getElem?_cons_succ, List.getElem?_nil, List.set_cons_zero, List.set_cons_succ, List.set_nil, List.cons_append, List.nil_append, List.append_nil, if_true, if_false, fz_val, fz_new, so_lst, so_dct, so_ins, eqW_ii, eqW_ss, eqW_tt, eqW_ll, eqW_nn, eqW_bb, eqW_ni, eqW_in, eqW_nt, eqW_tn, eqW_nl, eqW_ln, eqW_is, eqW_si, eqWs_nil, eqWs_cons, eqWs_nc, eqWs_cn, okD_int, okD_str, okD_bl, okD_non, okD_tup, okD_lst, eqOk_ii, eqOk_ss, eqOk_nn, eqOk_bb, eqOk_in, eqOk_ni, eqOk_tt, eqOk_ll, flatW_int, flatW_str, flatW_bl, flatW_non, inW, List.any_cons, List.any_nil, List.all_cons, List.all_nil, Bool.or_false, Bool.or_true, Bool.true_or, Bool.false_or, Bool.and_true, Bool.true_and, Bool.and_false, Bool.false_and, Bool.not_true, Bool.not_false, Bool.false_eq_true, true_and, and_true, beq_self_eq_true, List.isEmpty_cons, List.isEmpty_nil, Int.reduceNeg, eq_self, forall_const, iFld, objOf, iProp, iMeth, nMake, iInv, iMulM, iLenM, iIsi, sAtt, iRevT, lIter, nRep, lEnum, lZip, iEqM, gOwn, iDGet2, iAddO, nDisp, nDNew, iPairs, keysW, keyW, nFn, gListN, nListRg, iTupRg, nIf, sParM, iItems, putsR, Sh.R.slot, gIsB, isB, iPeek, tPeek, iPeekS, Stt.ps, noOwn, gInD, nPeek, Stt.pk, frzS, plainW, plainWs, tyS, tyIn, cOk, isAny, isOne, Option.map_some, lk_ne, List.lookup_nil, putW, lk_self, iXf, iIsE, Hnd.w, sRaise1, sRaise0, sTryE, gMax3, gEqN, gReprN, iIdxT, iIdxL, iInRg, nListM, iBR, iFnR, iPub, iMtR, drW, drWs, nOwn, nMeth, nSl, nAdd, nAddO, iMtN, sAugL, gSortedG, tTruO, refW_tup, refW_lst, refW_dct, refW_int, refW_str, refW_bl, refW_non, kb_NoneType_int, kb_NoneType_bool, kb_NoneType_str, kb_NoneType_tuple, kb_NoneType_list, kb_NoneType_dict, kb_bool_int, kb_bool_bool, kb_bool_str, kb_bool_tuple, kb_bool_list, kb_bool_dict, kb_int_int, kb_int_bool, kb_int_str, kb_int_tuple, kb_int_list, kb_int_dict, kb_str_int, kb_str_bool, kb_str_str, kb_str_tuple, kb_str_list, kb_str_dict, kb_tuple_int, kb_tuple_bool, kb_tuple_str, kb_tuple_tuple, kb_tuple_list, kb_tuple_dict, kb_list_int, kb_list_bool, kb_list_str, kb_list_tuple, kb_list_list, kb_list_dict, kb_dict_int, kb_dict_bool, kb_dict_str, kb_dict_tuple, kb_dict_list, kb_dict_dict]
      exact q
    | str i =>
      simp (decide := true) only [bodyI, start0, sSeq, sNext, sNever, sCont, sBreak, sDrop, sRet, sRetN, sRet0, sRetO, sIf, sSet, sSetN, sSetP, sPar, sParEN, sParNE, sPar3, sAsg, gNm, gsNil, gsCons, gTp, sAugI, sIxO, sIxS, sAugS, stoL, setW, iVar, iC, iNil, iCons, iTup, iLst, nLst, iFz, iB, gAdd, gI, gIC, gSub, gMul, gDiv, gMod, gPow, gLt, gLe, gGt, gGe, gEq, gNe, gIn, gIsN, isN, iNeg, tTru', gTru, tBl, iChain, tAnd', tOr', tNot', tYes', iIf, iAnd, iOr, iNot, iIx, gIx, atW, iIxO, ownL, oNone, oSome, iSl, gSl, iRevL, iCall, nCall, iFn, Stt.put, Stt.puts, iMtO, gAppend, gInsert, gExtend, gLen, iLenO, gAbs, gInt, gMinMax, gList, gTuple, iListRg, gIsi, tyN, gRepr, cut_13, cut_1_2, cut_1_3, cut_m2, cut_m3, cut_m4, atI_m2, atI_m3, atI_m4, iOfT, tKdIn, iKdIx, atI_0, atI_1, atI_2, atI_3, ixN_4_0, ixN_4_1, ixN_4_2, ixN_4_3, Sto.put_same, Sto.put_put, toNat_2, List.map, List.replicate, List.length_cons, List.length_nil, List.getElem?_cons_zero, List.getElem?_cons_succ, List.getElem?_nil, List.set_cons_zero, List.set_cons_succ, List.set_nil, List.cons_append, List.nil_append, List.append_nil, if_true, if_false, fz_val, fz_new, so_lst, so_dct, so_ins, eqW_ii, eqW_ss, eqW_tt, eqW_ll, eqW_nn, eqW_bb, eqW_ni, eqW_in, eqW_nt, eqW_tn, eqW_nl, eqW_ln, eqW_is, eqW_si, eqWs_nil, eqWs_cons, eqWs_nc, eqWs_cn, okD_int, okD_str, okD_bl, okD_non, okD_tup, okD_lst, eqOk_ii, eqOk_ss, eqOk_nn, eqOk_bb, eqOk_in, eqOk_ni, eqOk_tt, eqOk_ll, flatW_int, flatW_str, flatW_bl, flatW_non, inW, List.any_cons, List.any_nil, List.all_cons, List.all_nil, Bool.or_false, Bool.or_true, Bool.true_or, Bool.false_or, Bool.and_true, Bool.true_and, Bool.and_false, Bool.false_and, Bool.not_true, Bool.not_false, Bool.false_eq_true, true_and, and_true, beq_self_eq_true, List.isEmpty_cons, List.isEmpty_nil, Int.reduceNeg, eq_self, forall_const, iFld, objOf, iProp, iMeth, nMake, iInv, iMulM, iLenM, iIsi, sAtt, iRevT, lIter, nRep, lEnum, lZip, iEqM, gOwn, iDGet2, iAddO, nDisp, nDNew, iPairs, keysW, keyW, nFn, gListN, nListRg, iTupRg, nIf, sParM, iItems, putsR, Sh.R.slot, gIsB, isB, iPeek, tPeek, iPeekS, Stt.ps, noOwn, gInD, nPeek, Stt.pk, frzS, plainW, plainWs, tyS, tyIn, cOk, isAny, isOne, Option.map_some, lk_ne, List.lookup_nil, putW, lk_self, iXf, iIsE, Hnd.w, sRaise1, sRaise0, sTryE, gMax3, gEqN, gReprN, iIdxT, iIdxL, iInRg, nListM, iBR, iFnR, iPub, iMtR, drW, drWs, nOwn, nMeth, nSl, nAdd, nAddO, iMtN, sAugL, gSortedG, tTruO, refW_tup, refW_lst, refW_dct, refW_int, refW_str, refW_bl, refW_non, kb_NoneType_int, kb_NoneType_bool, kb_NoneType_str, kb_NoneType_tuple, kb_NoneType_list, kb_NoneType_dict, kb_bool_int, kb_bool_bool, kb_bool_str, kb_bool_tuple, kb_bool_list, kb_bool_dict, kb_int_int, kb_int_bool, kb_int_str, kb_int_tuple, kb_int_list, kb_int_dict, kb_str_int, kb_str_bool, kb_str_str, kb_str_tuple, kb_str_list, kb_str_dict, kb_tuple_int, kb_tuple_bool, kb_tuple_str, kb_tuple_tuple, kb_tuple_list, kb_tuple_dict, kb_list_int, kb_list_bool, kb_list_str, kb_list_tuple, kb_list_list, kb_list_dict, kb_dict_int, kb_dict_bool, kb_dict_str, kb_dict_tuple, kb_dict_list, kb_dict_dict]
      exact q
    | lst i =>
      simp (decide := true) only [bodyI, start0, sSeq, sNext, sNever, sCont, sBreak, sDrop, sRet, sRetN, sRet0, sRetO, sIf, sSet, sSetN, sSetP, sPar, sParEN, sParNE, sPar3, sAsg, gNm, gsNil, gsCons, gTp, sAugI, sIxO, sIxS, sAugS, stoL, setW, iVar, iC, iNil, iCons, iTup, iLst, nLst, iFz, iB, gAdd, gI, gIC, gSub, gMul, gDiv, gMod, gPow, gLt, gLe, gGt, gGe, gEq, gNe, gIn, gIsN, isN, iNeg, tTru', gTru, tBl, iChain, tAnd', tOr', tNot', tYes', iIf, iAnd, iOr, iNot, iIx, gIx, atW, iIxO, ownL, oNone, oSome, iSl, gSl, iRevL, iCall, nCall, iFn, Stt.put, Stt.puts, iMtO, gAppend, gInsert, gExtend, gLen, iLenO, gAbs, gInt, gMinMax, gList, gTuple, iListRg, gIsi, tyN, gRepr, cut_13, cut_1_2, cut_1_3, cut_m2, cut_m3, cut_m4, atI_m2, atI_m3, atI_m4, iOfT, tKdIn, iKdIx, atI_0, atI_1, atI_2, atI_3, ixN_4_0, ixN_4_1, ixN_4_2, ixN_4_3, Sto.put_same, Sto.put_put, toNat_2, List.map, List.replicate, List.length_cons, List.length_nil, List.getElem?_cons_zero, List.getElem?_cons_succ, List.getElem?_nil, List.set_cons_zero, List.set_cons_succ, List.set_nil, List.cons_append, List.nil_append, List.append_nil, if_true, if_false, fz_val, fz_new, so_lst, so_dct, so_ins, eqW_ii, eqW_ss, eqW_tt, eqW_ll, eqW_nn, eqW_bb, eqW_ni, eqW_in, eqW_nt, eqW_tn, eqW_nl, eqW_ln, eqW_is, eqW_si, eqWs_nil, eqWs_cons, eqWs_nc, eqWs_cn, okD_int, okD_str, okD_bl, okD_non, okD_tup, okD_lst, eqOk_ii, eqOk_ss, eqOk_nn, eqOk_bb, eqOk_in, eqOk_ni, eqOk_tt, eqOk_ll, flatW_int, flatW_str, flatW_bl, flatW_non, inW, List.any_cons, List.any_nil, List.all_cons, List.all_nil, Bool.or_false, Bool.or_true, Bool.true_or, Bool.false_or, Bool.and_true, Bool.true_and, Bool.and_false, Bool.false_and, Bool.not_true, Bool.not_false, Bool.false_eq_true, true_and, and_true, beq_self_eq_true, List.isEmpty_cons, List.isEmpty_nil, Int.reduceNeg, eq_self, forall_const, iFld, objOf, iProp, iMeth, nMake, iInv, iMulM, iLenM, iIsi, sAtt, iRevT, lIter, nRep, lEnum, lZip, iEqM, gOwn, iDGet2, iAddO, nDisp, nDNew, iPairs, keysW, keyW, nFn, gListN, nListRg, iTupRg, nIf, sParM, iItems, putsR, Sh.R.slot, gIsB, isB, iPeek, tPeek, iPeekS, Stt.ps, noOwn, gInD, nPeek, Stt.pk, frzS, plainW, plainWs, tyS, tyIn, cOk, isAny, isOne, Option.map_some, lk_ne, List.lookup_nil, putW, lk_self, iXf, iIsE, Hnd.w, sRaise1, sRaise0, sTryE, gMax3, gEqN, gReprN, iIdxT, iIdxL, iInRg, nListM, iBR, iFnR, iPub, iMtR, drW, drWs, nOwn, nMeth, nSl, nAdd, nAddO, iMtN, sAugL, gSortedG, tTruO, refW_tup, refW_lst, refW_dct, refW_int, refW_str, refW_bl, refW_non, kb_NoneType_int, kb_NoneType_bool, kb_NoneType_str, kb_NoneType_tuple, kb_NoneType_list, kb_NoneType_dict, kb_bool_int, kb_bool_bool, kb_bool_str, kb_bool_tuple, kb_bool_list, kb_bool_dict, kb_int_int, kb_int_bool, kb_int_str, kb_int_tuple, kb_int_list, kb_int_dict, kb_str_int, kb_str_bool, kb_str_str, kb_str_tuple, kb_str_list, kb_str_dict, kb_tuple_int, kb_tuple_bool, kb_tuple_str, kb_tuple_tuple, kb_tuple_list, kb_tuple_dict, kb_list_int, kb_list_bool, kb_list_str, kb_list_tuple, kb_list_list, kb_list_dict, kb_dict_int, kb_dict_bool, kb_dict_str, kb_dict_tuple, kb_dict_list, kb_dict_dict]
      exact q
    | _ => simp [okD] at x60
  · have qN := qN hg
    refine seq_go fun nx e => ?_
    walk_at "r"
    refine ⟨hm, m.toNat, (b % m).toNat, ?_, ?_⟩
    · rw [Int.toNat_of_nonneg (by omega), Int.toNat_of_nonneg (Int.emod_nonneg _ (by omega))]
    · walk_at "r"
      refine ifT ?_ qN
      simp
      omega
structure OkS (v : W) : Prop where
  rep : Rep 2 8300000 v
  len : ∀ ys, v = .lst ys → ys.length ≤ 1000000
theorem oks_lst {ws : List W} (h : ∀ w ∈ ws, Rep 1 201 w) (hl : ws.length ≤ 40002) : OkS (.lst ws) :=
  ⟨(rep_lst (d := 1) (n := 201) h).up (Nat.le_refl _) (by omega), fun ys e => by cases e; omega⟩
theorem oks_tup {ws : List W} (h : ∀ w ∈ ws, Rep 1 201 w) (hl : ws.length ≤ 40002) : OkS (.tup ws) :=
  ⟨(rep_tup (d := 1) (n := 201) h).up (Nat.le_refl _) (by omega), fun ys e => by cases e⟩
theorem oks_non : OkS .non := ⟨rep_non.up (Nat.le_refl _) (by decide), fun ys e => by cases e⟩
theorem oks_int {i : Int} (h : Bd i) : OkS (.int i) := ⟨(rep_int h).up (Nat.le_refl _) (by decide), fun ys e => by cases e⟩
theorem oks_bl (b : Bool) : OkS (.bl b) := ⟨(rep_bl b).up (Nat.le_refl _) (by decide), fun ys e => by cases e⟩
theorem lenB_pair {u v : W} (h : OkS v) : lenB (.tup [u, v]) = true := by
  cases v with
  | lst ys => exact decide_eq_true (h.len ys rfl)
  | _ => rfl
theorem th_two {u v : W} (hu : OkS u) (hv : OkS v) : Th (.tup [u, v]) := by
  refine th_rep (rep_tup (d := 2) (n := 8300000) fun w hw => ?_) (lenB_pair hv) (by decide) (by show 8300000 * 2 + 2 * 2 + 3 ≤ _; rw [sizeLine_eq]; omega)
  simp only [List.mem_cons, List.not_mem_nil, or_false] at hw
  rcases hw with rfl | rfl
  · exact hu.rep
  · exact hv.rep
theorem th_lst2 {u v : W} (hu : OkS u) (hv : OkS v) : Th (.lst [u, v]) := by
  refine th_rep (rep_lst (d := 2) (n := 8300000) fun w hw => ?_) rfl (by decide) (by show 8300000 * 2 + 2 * 2 + 3 ≤ _; rw [sizeLine_eq]; omega)
  simp only [List.mem_cons, List.not_mem_nil, or_false] at hw
  rcases hw with rfl | rfl
  · exact hu.rep
  · exact hv.rep
theorem th_one {u : W} (hu : OkS u) : Th (.tup [u]) := by
  refine th_rep (rep_tup (d := 2) (n := 8300000) fun w hw => ?_) rfl (by decide) (by show 8300000 * 1 + 2 * 1 + 3 ≤ _; rw [sizeLine_eq]; omega)
  rw [List.mem_singleton.mp hw]
  exact hu.rep
theorem th_three {r : Nat} {u v : W} (h : r ≤ 20000) (hu : Rep 1 201 u) (hv : Rep 1 201 v) : Th (.tup [u, .lst (natW (primes r)), v]) := by
  refine th_rep (rep_tup (d := 1) (n := 4060206) fun w hw => ?_) rfl (by decide) (by show 4060206 * 3 + 2 * 3 + 3 ≤ _; rw [sizeLine_eq]; omega)
  simp only [List.mem_cons, List.not_mem_nil, or_false] at hw
  rcases hw with rfl | rfl | rfl
  · exact hu.up (Nat.le_refl _) (by decide)
  · exact ps_lst h
  · exact hv.up (Nat.le_refl _) (by decide)
theorem cut_mem {α : Type} {xs : List α} {lo hi : Option Int} {x : α} (h : x ∈ cutW xs lo hi) : x ∈ xs := by
  unfold cutW at h
  exact List.mem_of_mem_drop (List.mem_of_mem_take h)
theorem cut_le {α : Type} {xs : List α} {lo hi : Option Int} : (cutW xs lo hi).length ≤ xs.length := by
  unfold cutW
  exact Nat.le_trans (List.length_take_le' _ _) (by rw [List.length_drop]; omega)
theorem big39 : Bd (10 ^ Int.toNat 39 + 3) := by unfold Bd lim; exact ⟨by decide, by decide⟩
theorem big30 : Bd (10 ^ Int.toNat 30) := by unfold Bd lim; exact ⟨by decide, by decide⟩
def dblF (ps : List W) (j : Int) (k : Nat) : W := match (ps[k]?).getD .non with
  | .int p => if ((k : Int) == j) = true then .int (2 * p) else .int p
  | _ => .non
def ib_l7_bent : IS := (sSeq (sAsg (iTup (iCons (iCall sp_l_take (iCons (iVar 0) (iCons (iC (.int 9)) iNil))) (iCons (iCall sp_l_take (iCons (iVar 0) (iCons (iB gAdd (iFn gLen (iCons (iVar 2) iNil)) (iC (.int 1))) iNil))) iNil))) (gTp 2 (gsCons (gNm 3) (gsCons (gNm 4) gsNil))))
  (sSeq (sIf (tBl (iB gEq (iVar 3) (iC (.int 0)))) (sRet (iCall sp_l7_odd (iCons (iVar 0) iNil))) sNext)
  (sSeq (sIf (tBl (iB gEq (iVar 3) (iC (.int 1)))) (sRet (iTup (iCons (iCall sp_l_one (iCons (iVar 0) (iCons (iLst (iCons (iB gMul (iVar 1) (iC (.int 2))) (iCons (iB gAdd (iVar 1) (iC (.int 1))) (iCons (iB gSub (iVar 1) (iC (.int 1))) (iCons (iC (.int 0)) (iCons (iB gSub (iC (.int 0)) (iVar 1)) (iCons (iB gDiv (iVar 1) (iC (.int 2))) iNil))))))) iNil))) (iCons (iVar 2) iNil)))) sNext)
  (sSeq (sIf (tBl (iB gEq (iVar 3) (iC (.int 2)))) (sSeq (sSetN 5 (nLst (iCons (iSl (iVar 2) (oSome (iC (.int 1))) oNone) (iCons (iB gAdd (iVar 2) (iLst (iCons (iC (.int 2)) iNil))) (iCons (iB gAdd (iVar 2) (iVar 2)) (iCons (iRevL (iVar 2)) (iCons (iFn gTuple (iCons (iVar 2) iNil)) (iCons (iC .non) (iCons (iLst (iCons (iVar 1) iNil)) iNil)))))))))
    (sSeq (sDrop (iMtO 5 gAppend (iCons (iFz (nLc (lEnum (iVar 2)) (gTp 2 (gsCons (gNm 6) (gsCons (gNm 7) gsNil))) tYes' (iIf (tBl (iB gEq (iVar 6) (iVar 4))) (iB gMul (iC (.int 2)) (iVar 7)) (iVar 7)) [6, 7])) iNil)))
    (sRet (iTup (iCons (iVar 1) (iCons (iCall sp_l_one (iCons (iVar 0) (iCons (iAddO 5 (iLst (iCons (iB gAdd (iSl (iVar 2) oNone (oSome (iVar 4))) (iSl (iVar 2) (oSome (iB gAdd (iVar 4) (iC (.int 1)))) oNone)) iNil))) iNil))) iNil)))))) sNext)
  (sSeq (sIf (tBl (iB gEq (iVar 3) (iC (.int 3)))) (sRet (iCall sp_l_one (iCons (iVar 0) (iCons (iLst (iCons (iLst (iCons (iVar 1) (iCons (iVar 2) iNil))) (iCons (iTup (iCons (iVar 1) iNil)) (iCons (iTup (iCons (iVar 1) (iCons (iVar 2) (iCons (iC (.int 0)) iNil)))) (iCons (iTup (iCons (iC .non) (iCons (iVar 2) iNil))) (iCons (iTup (iCons (iB gEq (iVar 1) (iC (.int 1))) (iCons (iVar 2) iNil))) iNil)))))) iNil)))) sNext)
  (sSeq (sIf (tBl (iB gEq (iVar 3) (iC (.int 4)))) (sRet (iTup (iCons (iVar 1) (iCons (iB gAdd (iVar 2) (iLst (iCons (iCall sp_l_one (iCons (iVar 0) (iCons (iLst (iCons (iC (.bl true)) (iCons (iB gAdd (iB gPow (iC (.int 10)) (iC (.int 39))) (iC (.int 3))) (iCons (iC (.int 1)) (iCons (iC (.int 0)) (iCons (iNeg (iC (.int 2))) (iCons (iC .non) (iCons (iC (.str "2")) (iCons (iLst iNil) (iCons (iTup (iCons (iC (.int 2)) iNil)) iNil)))))))))) iNil))) iNil))) iNil)))) sNext)
  (sSeq (sIf (tBl (iB gEq (iVar 3) (iC (.int 5)))) (sRet (iTup (iCons (iCall sp_l_one (iCons (iVar 0) (iCons (iLst (iCons (iB gAdd (iB gPow (iC (.int 10)) (iC (.int 39))) (iC (.int 3))) (iCons (iB gMul (iVar 1) (iB gPow (iC (.int 10)) (iC (.int 30)))) (iCons (iB gAdd (iVar 1) (iB gPow (iC (.int 10)) (iC (.int 24)))) (iCons (iB gMul (iVar 1) (iC (.int 3))) iNil))))) iNil))) (iCons (iFn gList (iCons (iVar 2) iNil)) iNil)))) sNext)
  (sRet (iTup (iCons (iVar 1) (iCons (iFn gList (iCons (iVar 2) iNil)) iNil)))))))))))
def sp_l7_bent : ISp := fun ws S Q E => ∃ (a : Addr) (r : Nat), ws = [.ref a, .int r, .lst (natW (primes r))] ∧ 1 ≤ r ∧ r ≤ 20000 ∧ Bg S a ∧ ∀ x S', Th x → Bx a S S' → Q (.val x) S'
theorem ok_l7_bent (ws : List W) (S : Sto) (Q : R → Sto → Prop) (E : Exn → Sto → Prop) (h : sp_l7_bent ws S Q E) : bodyI 8 ib_l7_bent ws S Q E := by
  obtain ⟨a, r, rfl, r1, r2, hb, q⟩ := h
  unfold ib_l7_bent
  have hl := ps_len r2
  generalize hps : natW (primes r) = ps at hl
  have hp : ∀ w ∈ ps, Rep 1 201 w := fun w hw => ps_rep r2 (by rw [hps]; exact hw)
  have op : OkS (.lst ps) := oks_lst hp (by omega)
  have pint : ∀ w ∈ ps, ∃ p : Int, w = .int p ∧ 0 ≤ p ∧ p ≤ 20000 := fun w hw => by
    rw [← hps] at hw
    obtain ⟨p, hp, rfl⟩ := List.mem_map.mp hw
    have := ps_mem hp
    exact ⟨_, rfl, by omega, by omega⟩
  have pk : ∀ k, k < ps.length → ∃ p : Int, (ps[k]?).getD .non = .int p ∧ 0 ≤ p ∧ p ≤ 20000 := fun k hk => by
    obtain ⟨p, e, p0, p1⟩ := pint ps[k] (List.getElem_mem hk)
    exact ⟨p, by rw [List.getElem?_eq_getElem hk]; exact e, p0, p1⟩
  have oi : OkS (.int (r : Int)) := oks_int (bd_of (by omega) (by omega))
  refine seq_go fun nx e => ?_
  walk_at "r"
  refine cl_take (by omega) (bd_of (by omega) (by omega)) hb fun i S1 i0 i1 b1 => ?_
  walk_at "r"
  refine cl_take (by omega) (bd_of (by omega) (by omega)) b1.bg fun j S2 j0 j1 b2 => ?_
  have b2 := b1.trans b2
  walk_at "r"
  subst e
  refine seq_go fun nx e => ?_
  walk_at "r"
  refine ifb (fun z => ?_) (fun z => ?_)
  · exact ⟨a, rfl, b2.bg, fun x S' hx b => q x S' (odd7_th x hx) (b2.trans b)⟩
  subst e
  refine seq_go fun nx e => ?_
  walk_at "r"
  refine ifb (fun z => ?_) (fun z => ?_)
  · refine ⟨.inl ⟨bd_of (by omega) (by omega), bd_of (by omega) (by omega)⟩, bd_of (by omega) (by omega), cl_one (by simp) (by simp) b2.bg fun y S3 hy b3 => ?_⟩
    have hy : ∃ i : Int, y = .int i ∧ -50000 ≤ i ∧ i ≤ 50000 := by
      simp only [List.mem_cons, List.not_mem_nil, or_false] at hy
      rcases hy with rfl | rfl | rfl | rfl | rfl | rfl <;> exact ⟨_, rfl, by omega, by omega⟩
    obtain ⟨k, rfl, k0, k1⟩ := hy
    walk_at "r"
    exact q _ _ (th_two (oks_int (bd_of (by omega) (by omega))) op) (b2.trans b3)
  subst e
  refine seq_go fun nx e => ?_
  generalize hB : sSeq (sSetN 5 _) _ = B
  walk_at "r"
  refine ifb (fun z => ?_) (fun z => ?_)
  · subst hB
    clear e
    refine seq_go fun nx2 e2 => ?_
    walk_at "r"
    refine ⟨by rw [sizeLine_eq]; omega, by rw [sizeLine_eq]; omega, ?_⟩
    subst e2
    refine seq_go fun nx2 e2 => ?_
    walk_at "rnLc_lEnum"
    unfold enumW
    refine lc_fn ⟨[.val (.ref a), .val (.int r), .val (.lst ps), .val (.int i), .val (.int j), .own (.lst [.lst (cutW ps (some 1) none), .lst (ps ++ [.int 2]), .lst (ps ++ ps), .lst ps.reverse, .tup ps, .non, .lst [.int r]]), .none, .none], S2⟩ (fun k : Nat => .tup [.int (k : Int), (ps[k]?).getD .non]) (dblF ps j) (List.range ps.length) _ (fun k hk Y hY => ?_) rfl (by rw [List.length_range, sizeLine_eq]; omega) fun st' es => ?_
    · obtain ⟨p, ep, p0, p1⟩ := pk k (List.mem_range.mp hk)
      have ef : dblF ps j k = if ((k : Int) == j) = true then .int (2 * p) else .int p := by unfold dblF; rw [ep]
      rw [ep]
      walk_at "r"
      refine ifb (fun y => ⟨.inl ⟨bd_of (by omega) (by omega), bd_of (by omega) (by omega)⟩, ?_⟩) (fun y => ?_)
      · rw [if_pos y] at ef
        rw [← ef]
        exact hY _ rfl
      · rw [if_neg (by rw [y]; decide)] at ef
        rw [← ef]
        exact hY _ rfl
    · rw [es]
      generalize hD : (List.range ps.length).map (dblF ps j) = D
      have oD : OkS (.lst D) := by
        refine oks_lst (fun w hw => ?_) (by rw [← hD, List.length_map, List.length_range]; omega)
        rw [← hD] at hw
        obtain ⟨k, hk, rfl⟩ := List.mem_map.mp hw
        obtain ⟨p, ep, p0, p1⟩ := pk k (List.mem_range.mp hk)
        unfold dblF
        rw [ep]
        dsimp only
        split
        · exact rep_int (bd_of (by omega) (by omega))
        · exact rep_int (bd_of (by omega) (by omega))
      walk_at "r"
      subst e2
      walk_at "r"
      have c1 := cut_le (xs := ps) (lo := none) (hi := some j)
      have c2 := cut_le (xs := ps) (lo := some (j + 1)) (hi := none)
      have c3 := cut_le (xs := ps) (lo := some 1) (hi := none)
      refine ⟨by rw [sizeLine_eq]; omega, cl_one (by simp) (by simp) b2.bg fun y S3 hy b3 => q _ _ (th_two oi ?_) (b2.trans b3)⟩
      simp only [List.mem_cons, List.not_mem_nil, or_false] at hy
      rcases hy with rfl | rfl | rfl | rfl | rfl | rfl | rfl | rfl | rfl
      · exact oks_lst (fun w hw => hp w (cut_mem hw)) (by omega)
      · refine oks_lst (fun w hw => ?_) (by rw [List.length_append, List.length_singleton]; omega)
        rcases List.mem_append.mp hw with hw | hw
        · exact hp w hw
        · rw [List.mem_singleton.mp hw]
          exact rep_int (bd_of (by omega) (by omega))
      · refine oks_lst (fun w hw => ?_) (by rw [List.length_append]; omega)
        rcases List.mem_append.mp hw with hw | hw <;> exact hp w hw
      · exact oks_lst (fun w hw => hp w (List.mem_reverse.mp hw)) (by rw [List.length_reverse]; omega)
      · exact oks_tup hp (by omega)
      · exact oks_non
      · refine oks_lst (fun w hw => ?_) (by simp)
        rw [List.mem_singleton.mp hw]
        exact rep_int (bd_of (by omega) (by omega))
      · exact oD
      · refine oks_lst (fun w hw => ?_) (by rw [List.length_append]; omega)
        rcases List.mem_append.mp hw with hw | hw <;> exact hp w (cut_mem hw)
  subst e
  refine seq_go fun nx e => ?_
  walk_at "r"
  refine ifb (fun z => ?_) (fun z => ?_)
  · refine cl_one (by simp) (by simp) b2.bg fun y S3 hy b3 => q _ _ ?_ (b2.trans b3)
    simp only [List.mem_cons, List.not_mem_nil, or_false] at hy
    rcases hy with rfl | rfl | rfl | rfl | rfl
    · exact th_lst2 oi op
    · exact th_one oi
    · rw [← hps]
      exact th_three r2 (rep_int (bd_of (by omega) (by omega))) (rep_int (bd_of (by omega) (by omega)))
    · exact th_two oks_non op
    · exact th_two (oks_bl _) op
  subst e
  refine seq_go fun nx e => ?_
  walk_at "r"
  refine ifb (fun z => ?_) (fun z => ?_)
  · refine ⟨cpow10 (by omega) (by omega), cl_one (by simp) (by simp) b2.bg fun y S3 hy b3 => ⟨by rw [sizeLine_eq]; omega, q _ _ (th_two oi (oks_lst (fun w hw => ?_) ?_)) (b2.trans b3)⟩⟩
    · rcases List.mem_append.mp hw with hw | hw
      · exact hp w hw
      · rw [List.mem_singleton.mp hw]
        simp only [List.mem_cons, List.not_mem_nil, or_false] at hy
        rcases hy with rfl | rfl | rfl | rfl | rfl | rfl | rfl | rfl | rfl
        · exact (rep_bl _).up (Nat.le_refl _) (by decide)
        · exact rep_int big39
        · exact rep_int (bd_of (by omega) (by omega))
        · exact rep_int (bd_of (by omega) (by omega))
        · exact rep_int (bd_of (by omega) (by omega))
        · exact rep_non.up (Nat.le_refl _) (by decide)
        · exact ⟨by decide +kernel, by decide +kernel, by decide +kernel⟩
        · exact ⟨by decide +kernel, by decide +kernel, by decide +kernel⟩
        · exact ⟨by decide +kernel, by decide +kernel, by decide +kernel⟩
    · rw [List.length_append, List.length_singleton]
      omega
  subst e
  refine seq_go fun nx e => ?_
  walk_at "r"
  refine ifb (fun z => ?_) (fun z => ?_)
  · refine ⟨cpow10 (by omega) (by omega), cpow10 (by omega) (by omega), .inl ⟨bd_of (by omega) (by omega), big30⟩, cpow10 (by omega) (by omega), .inl ⟨bd_of (by omega) (by omega), bd_of (by omega) (by omega)⟩, cl_one (by simp) (by simp) b2.bg fun y S3 hy b3 => ?_⟩
    have hy : ∃ i : Int, y = .int i ∧ Bd i := by
      simp only [List.mem_cons, List.not_mem_nil, or_false] at hy
      have p30 : (10 : Int) ^ Int.toNat 30 = 1000000000000000000000000000000 := by decide
      have p24 : (10 : Int) ^ Int.toNat 24 = 1000000000000000000000000 := by decide
      have p100 : (10 : Int) ^ 100 ≤ lim := by decide
      have p10 : (10000000000000000000000000000000000000000 : Int) < 10 ^ 100 := by decide
      rcases hy with rfl | rfl | rfl | rfl
      · exact ⟨_, rfl, big39⟩
      · refine ⟨_, rfl, ?_⟩
        rw [p30]
        unfold Bd
        omega
      · refine ⟨_, rfl, ?_⟩
        rw [p24]
        unfold Bd
        omega
      · exact ⟨_, rfl, bd_of (by omega) (by omega)⟩
    obtain ⟨k, rfl, hk⟩ := hy
    walk_at "r"
    exact q _ _ (th_two (oks_int hk) op) (b2.trans b3)
  subst e
  walk_at "r"
  exact q _ _ (th_two oi op) b2
theorem ak_refl {x : W} (h : RepOk x) : akB x x = true := by
  have hk : akB x x = (eqW x x && ((toN x).shown == (toN x).shown)) := by
    cases x with
    | dct kvs => exact absurd h.1 (by simp [okD])
    | _ => rfl
  rw [hk, eqW_refl 60 x h.1]
  simp
theorem rep_th {x : W} (h : RepOk x) (k : lenB x = true) : Th x := ⟨⟨(toN_of x h.1).2, by rw [(toN_of x h.1).1]; exact h.2.1, by rw [(toN_of x h.1).1]; exact h.2.2⟩, .inr h, k⟩
theorem lenB_told (x : W) (r : Nat) : lenB (.tup [x, pap r]) = true := rfl
theorem lenB_pap {r : Nat} (h : r ≤ 20000) : lenB (pap r) = true := by
  have := ps_len h
  show decide ((natW (primes r)).length ≤ 1000000) = true
  exact decide_eq_true (by omega)
def ib_law_1 : IS := (sSeq (sSet 9 (iCall sp_l7_told (iCons (iVar 5) (iCons (iVar 4) iNil))))
      (sSeq (sIf (tNot' (tTru' (iCall sp_lk_alike (iCons (iVar 9) (iCons (iTup (iCons (iC (.str "told")) (iCons (iTup (iCons (iVar 6) (iCons (iVar 7) iNil))) iNil))) iNil))))) (sRet (iC (.bl false))) sNext)
      (sDrop (iMtR (iIx (iIx (iVar 9) (iC (.int 1))) (iC (.int 1))) gAppend (iCons (iC (.int 0)) iNil)))))
def ib_law_2 : IS := (sSeq (sSet 11 (iCall sp_l7_bent (iCons (iVar 1) (iCons (iVar 6) (iCons (iFn gList (iCons (iVar 7) iNil)) iNil)))))
      (sSeq (sPar 12 13 (iFn gReprN (iCons (iVar 11) iNil)) (iCall sp_lk_alike (iCons (iVar 11) (iCons (iTup (iCons (iVar 6) (iCons (iVar 7) iNil))) iNil))))
      (sIf (tOr' (tNot' (tTru' (iCall sp_l7_truth (iCons (iCall sp_p_is_order_paper (iCons (iVar 5) (iCons (iVar 4) (iCons (iVar 11) iNil)))) (iCons (iVar 13) iNil))))) (tBl (iB gNe (iFn gReprN (iCons (iVar 11) iNil)) (iVar 12)))) (sRet (iC (.bl false))) sNext)))
def ib_law_3 : IS := (sSeq (sSet 3 (iLst (iCons (iB gAdd (iC (.int 1)) (iCall sp_l_take (iCons (iVar 1) (iCons (iC (.int 40)) iNil)))) (iCons (iB gAdd (iC (.int 1)) (iCall sp_l_take (iCons (iVar 1) (iCons (iC (.int 400)) iNil)))) (iCons (iB gSub (iC (.int 20000)) (iCall sp_l_take (iCons (iVar 1) (iCons (iC (.int 9)) iNil)))) (iCons (iB gAdd (iC (.int 1)) (iCall sp_l_take (iCons (iVar 1) (iCons (iC (.int 20000)) iNil)))) iNil))))))
    (sSeq (sSet 4 (iCall sp_l_one (iCons (iVar 1) (iCons (iVar 3) iNil))))
    (sSeq (sSet 3 (iLst (iCons (iC (.int 2)) (iCons (iC (.int 3)) (iCons (iB gSub (iCall sp_l_take (iCons (iVar 1) (iCons (iC (.int 50)) iNil))) (iC (.int 25))) (iCons (iB gAdd (iB gPow (iC (.int 10)) (iC (.int 39))) (iCall sp_l_take (iCons (iVar 1) (iCons (iC (.int 99)) iNil)))) (iCons (iB gAdd (iVar 4) (iC (.int 1))) (iCons (iC (.int 0)) (iCons (iB gSub (iB gSub (iC (.int 0)) (iVar 4)) (iC (.int 2))) iNil)))))))))
    (sSeq (sSet 5 (iCall sp_l_one (iCons (iVar 1) (iCons (iB gAdd (iVar 3) (iLst (iCons (iB gSub (iC (.int 0)) (iB gPow (iC (.int 10)) (iC (.int 39)))) iNil))) iNil))))
    (sSeq (sIf (tBl (iB gNe (iCall sp_l7_divisor (iCons (iVar 4) (iCons (iB gMod (iFn gInt (iCons (iVar 5) iNil)) (iVar 4)) iNil))) (iC (.int 1)))) (sSeq (sIf (tNot' (tTru' (iCall sp_lk_alike (iCons (iCall sp_l7_told (iCons (iVar 5) (iCons (iVar 4) iNil))) (iCons (iTup (iCons (iC (.str "none")) (iCons (iVar 5) (iCons (iVar 4) iNil)))) iNil))))) (sRet (iC (.bl false))) sNext)
      (sSeq (sIf (tBl (iB (gIsB true) (iCall sp_p_is_order_paper (iCons (iVar 5) (iCons (iVar 4) (iCons (iTup (iCons (iC (.int 1)) (iCons (iLst iNil) iNil))) iNil)))) (iC (.bl false)))) (sRet (iC (.bl false))) sNext)
      sCont)) sNext)
    (sSeq (sSet 6 (iCall sp_l7_order (iCons (iVar 5) (iCons (iVar 4) iNil))))
    (sSeq (sSet 7 (iCall sp_l7_primes (iCons (iVar 6) iNil)))
    (sSeq (sFor (lRange1 (iC (.int 2))) (gNm 8) ib_law_1)
    (sFor (lRange1 (iC (.int 6))) (gNm 10) ib_law_2)))))))))
def ib_law : IS := (sSeq (sSetP 1 (nCall sp_l_bag (iCons (iVar 0) iNil)))
  (sSeq (sFor (lRange1 (iC (.int 3))) (gNm 2) ib_law_3)
  (sRet (iC (.bl true)))))
theorem law_1 {EI : XI} {D : IEnds} {S : Sto} {sc tn sm : W} {a : Addr} {m b : Int} {T : Nat} {x_again x_found x_k x_thing x_shown x_due : Slot} (hb : Bg S a) (m0 : 0 < m) (m1 : m ≤ 20000) (bb : Bd b) (hg : Nat.gcd m.toNat (b % m).toNat = 1) (hT : IsOrd m b T) (hT2 : T ≤ 20000)
    (q : ∀ x_again x_found S, Bg S a → D.nx ⟨[.val (sc), .val (.ref a), .val (tn), .val (sm), .val (.int m), .val (.int b), .val (.int (T : Nat)), .val (.lst (natW (primes T))), x_again, x_found, x_k, x_thing, x_shown, x_due], S⟩) :
    ib_law_1 EI D ⟨[.val (sc), .val (.ref a), .val (tn), .val (sm), .val (.int m), .val (.int b), .val (.int (T : Nat)), .val (.lst (natW (primes T))), x_again, x_found, x_k, x_thing, x_shown, x_due], S⟩ := by
  unfold ib_law_1
  refine seq_go fun nx e => ?_
  walk_at "r"
  refine ⟨b, m, rfl, m0, by omega, bb, fun h => absurd hg h, fun _ r hr x hx => ?_⟩
  have : r = T := by
    have := hr.le hT.1 hT.2.1
    have := hT.le hr.1 hr.2.1
    omega
  subst this
  walk_at "r"
  subst e
  refine seq_go fun nx e => ?_
  walk_at "r"
  have ok := pap_told hT2
  refine ⟨_, _, .tup [.str "told", pap r], .tup [.str "told", pap r], rfl, ?_, drW_data (n := 60) _ (toN_of _ ok.1).2, rep_th ok (lenB_told _ _), rep_th ok (lenB_told _ _), ⟨_, rfl⟩, ?_⟩
  · unfold ppr pap
    walk_at "r"
  rw [ak_refl ok]
  walk_at "r"
  subst e
  unfold ppr
  walk_at "r"
  have hl : (natW (primes r)).length < sizeLine := by
    have := ps_len hT2
    rw [sizeLine_eq]
    omega
  refine ⟨x, _, rfl, Sto.put_same, _, Sto.put_same, hl, ?_⟩
  rw [Sto.put_put]
  refine q _ _ _ ?_
  obtain ⟨o, ho, ib⟩ := hb
  have ne : a ≠ x := fun z => by rw [← z, ho] at hx; cases hx
  exact ⟨o, by rw [Sto.put_ne ne]; exact ho, ib⟩
theorem gReprN_th {x : W} (h : Th x) {P : W → Prop} (p : P (.str (toN x).shown)) : gReprN [x] P := by
  show if refW x = true then RepN x ∧ P (.str (toN x).shown) else RepOk x ∧ P (.str (toD x).shown)
  refine ifb (fun e => ⟨h.rn, p⟩) (fun e => ?_)
  rcases h.dat with ⟨kvs, rfl⟩ | r
  · cases e
  · rw [(toN_of x r.1).1] at p
    exact ⟨r, p⟩
theorem law_2 {EI : XI} {D : IEnds} {S : Sto} {sc tn sm : W} {a : Addr} {m b : Int} {T : Nat} {x_again x_found x_k x_thing x_shown x_due : Slot} (hb : Bg S a) (m0 : 0 < m) (m1 : m ≤ 20000) (bb : Bd b) (hg : Nat.gcd m.toNat (b % m).toNat = 1) (hT : IsOrd m b T) (hT2 : T ≤ 20000)
    (q : ∀ x_thing x_shown x_due S, Bg S a → D.nx ⟨[.val (sc), .val (.ref a), .val (tn), .val (sm), .val (.int m), .val (.int b), .val (.int (T : Nat)), .val (.lst (natW (primes T))), x_again, x_found, x_k, x_thing, x_shown, x_due], S⟩) :
    ib_law_2 EI D ⟨[.val (sc), .val (.ref a), .val (tn), .val (sm), .val (.int m), .val (.int b), .val (.int (T : Nat)), .val (.lst (natW (primes T))), x_again, x_found, x_k, x_thing, x_shown, x_due], S⟩ := by
  unfold ib_law_2
  have tp : Th (pap T) := rep_th (pap_rep hT2 (d := 2)).ok (lenB_pap hT2)
  refine seq_go fun nx e => ?_
  walk_at "r"
  refine ⟨a, T, rfl, hT.1, hT2, hb, fun x S1 th b1 => ?_⟩
  walk_at "r"
  subst e
  generalize hG : gReprN = G
  refine seq_go fun nx e => ?_
  walk_at "r"
  rw [← hG]
  refine gReprN_th th ?_
  refine ⟨_, _, x, pap T, rfl, drW_data (n := 60) x th.rn.1, drW_data (n := 60) _ tp.rn.1, th, tp, ⟨_, rfl⟩, ?_⟩
  walk_at "r"
  subst e
  walk_at "r"
  trace_state
  refine ⟨b, m, x, rfl, m0, m1, bb, th, fun h => absurd hg h, fun _ r hr S2 hS2 => ?_⟩
  have hb2 : Bg S2 a := by
    rcases hS2 with rfl | ⟨y, hy, rfl⟩
    · exact b1.bg
    · obtain ⟨o, ho, ib⟩ := b1.bg
      have ne : a ≠ y := fun z => by rw [← z, ho] at hy; cases hy
      exact ⟨o, by rw [Sto.put_ne ne]; exact ho, ib⟩
  have : r = T := by
    have := hr.le hT.1 hT.2.1
    have := hT.le hr.1 hr.2.1
    omega
  subst this
  walk_at "r"
  refine ⟨papB r x, by rw [ak_pap hT.1 hT2], ?_⟩
  walk_at "r"
  rw [← hG]
  refine gReprN_th th ?_
  walk_at "r"
  exact q _ _ _ _ hb2
theorem law_3 {EI : XI} {D : IEnds} {S : Sto} {sc : W} {a : Addr} {t : Int} {x_some x_modulus x_base x_order_here x_primes_here x_again x_found x_k x_thing x_shown x_due : Slot} (hb : Bg S a)
    (q : ∀ (x_some x_modulus x_base x_order_here x_primes_here x_again x_found x_k x_thing x_shown x_due : Slot) (S : Sto), Bg S a → D.nx ⟨[.val (sc), .val (.ref a), .val (.int t), x_some, x_modulus, x_base, x_order_here, x_primes_here, x_again, x_found, x_k, x_thing, x_shown, x_due], S⟩ ∧ D.ct ⟨[.val (sc), .val (.ref a), .val (.int t), x_some, x_modulus, x_base, x_order_here, x_primes_here, x_again, x_found, x_k, x_thing, x_shown, x_due], S⟩) :
    ib_law_3 EI D ⟨[.val (sc), .val (.ref a), .val (.int t), x_some, x_modulus, x_base, x_order_here, x_primes_here, x_again, x_found, x_k, x_thing, x_shown, x_due], S⟩ := by
  unfold ib_law_3
  refine seq_go fun nx e => ?_
  walk_at "r"
  refine cl_take (by omega) (bd_of (by omega) (by omega)) hb fun i1 S1 i10 i11 b1 => ?_
  walk_at "r"
  refine cl_take (by omega) (bd_of (by omega) (by omega)) b1.bg fun i2 S2 i20 i21 b2 => ?_
  walk_at "r"
  refine cl_take (by omega) (bd_of (by omega) (by omega)) b2.bg fun i3 S3 i30 i31 b3 => ?_
  walk_at "r"
  refine cl_take (by omega) (bd_of (by omega) (by omega)) b3.bg fun i4 S4 i40 i41 b4 => ?_
  walk_at "r"
  subst e
  refine seq_go fun nx e => ?_
  walk_at "r"
  refine cl_one (by simp) (by simp) b4.bg fun y S5 hy b5 => ?_
  have hy : ∃ m : Int, y = .int m ∧ 1 ≤ m ∧ m ≤ 20000 := by
    simp only [List.mem_cons, List.not_mem_nil, or_false] at hy
    rcases hy with rfl | rfl | rfl | rfl <;> exact ⟨_, rfl, by omega, by omega⟩
  obtain ⟨m, rfl, m0, m1⟩ := hy
  walk_at "r"
  subst e
  refine seq_go fun nx e => ?_
  walk_at "r"
  refine cl_take (by omega) (bd_of (by omega) (by omega)) b5.bg fun i6 S6 i60 i61 b6 => ?_
  walk_at "r"
  refine ⟨cpow10 (by omega) (by omega), cl_take (by omega) (bd_of (by omega) (by omega)) b6.bg fun i7 S7 i70 i71 b7 => ?_⟩
  walk_at "r"
  subst e
  refine seq_go fun nx e => ?_
  walk_at "r"
  refine ⟨cpow10 (by omega) (by omega), cl_one (by simp) (by simp) b7.bg fun y S8 hy b8 => ?_⟩
  have hy : ∃ b : Int, y = .int b ∧ Bd b := by
    have p39 : (10 : Int) ^ Int.toNat 39 = 1000000000000000000000000000000000000000 := by decide
    have p100 : (10 : Int) ^ 100 ≤ lim := by decide
    have p10 : (10000000000000000000000000000000000000000 : Int) < 10 ^ 100 := by decide
    simp only [List.mem_cons, List.not_mem_nil, or_false] at hy
    rcases hy with rfl | rfl | rfl | rfl | rfl | rfl | rfl | rfl
    · exact ⟨_, rfl, bd_of (by omega) (by omega)⟩
    · exact ⟨_, rfl, bd_of (by omega) (by omega)⟩
    · exact ⟨_, rfl, bd_of (by omega) (by omega)⟩
    · refine ⟨_, rfl, ?_⟩
      rw [p39]
      unfold Bd
      omega
    · exact ⟨_, rfl, bd_of (by omega) (by omega)⟩
    · exact ⟨_, rfl, bd_of (by omega) (by omega)⟩
    · exact ⟨_, rfl, bd_of (by omega) (by omega)⟩
    · refine ⟨_, rfl, ?_⟩
      rw [p39]
      unfold Bd
      omega
  obtain ⟨b, rfl, bb⟩ := hy
  walk_at "r"
  subst e
  have hb8 := b8.bg
  clear b1 b2 b3 b4 b5 b6 b7 b8
  generalize (W.lst [.int 2, .int 3, .int (i6 - 25), .int (10 ^ Int.toNat 39 + i7), .int (m + 1), .int 0, .int (0 - m - 2)]) = sm
  generalize hB : sSeq (sIf (tNot' _) _ _) _ = B
  refine seq_go fun nx e => ?_
  walk_at "r"
  refine ⟨by omega, m.toNat, (b % m).toNat, ?_, ?_⟩
  · rw [Int.toNat_of_nonneg (by omega), Int.toNat_of_nonneg (Int.emod_nonneg _ (by omega))]
  walk_at "r"
  by_cases hg : Nat.gcd m.toNat (b % m).toNat = 1
  · rw [hg]
    refine ifF rfl ?_
    clear hB
    obtain ⟨r0, r1, r2, rc⟩ := ord_ex (b := b) (by omega : 0 < m) hg
    subst e
    refine seq_go fun nx e => ?_
    walk_at "r"
    refine ⟨b, m, r0, rfl, by omega, bd_of (by omega) (by omega), bb, r1, rc, fun T hT => ?_⟩
    have hT2 : T ≤ 20000 := by have := hT.le r1 rc; omega
    walk_at "r"
    subst e
    refine seq_go fun nx e => ?_
    walk_at "r"
    refine ⟨T, rfl, hT.1, by omega, ?_⟩
    walk_at "r"
    subst e
    refine seq_cut (fun st => ∃ (x_again x_found x_k x_thing x_shown x_due : Slot) (S : Sto), Bg S a ∧ st = ⟨[.val (sc), .val (.ref a), .val (.int t), .val (sm), .val (.int m), .val (.int b), .val (.int (T : Nat)), .val (.lst (natW (primes T))), x_again, x_found, x_k, x_thing, x_shown, x_due], S⟩) (fun nx h => ?_) (fun st ⟨x_again, x_found, x_k, x_thing, x_shown, x_due, S9, hb9, es⟩ => ?_)
    · walk_at "rsFor_lRange1"
      refine ⟨by unfold i62; omega, ?_⟩
      refine for_same (fun st => ∃ (x_again x_found x_k x_thing x_shown x_due : Slot) (S : Sto), Bg S a ∧ st = ⟨[.val (sc), .val (.ref a), .val (.int t), .val (sm), .val (.int m), .val (.int b), .val (.int (T : Nat)), .val (.lst (natW (primes T))), x_again, x_found, x_k, x_thing, x_shown, x_due], S⟩) _ _ ⟨_, _, _, _, _, _, S8, hb8, rfl⟩ (fun st => h st) fun w hw st nx ⟨x_again, x_found, x_k, x_thing, x_shown, x_due, S', hb', es⟩ hn => ?_
      subst es
      exact law_1 hb' (by omega) m1 bb hg hT hT2 fun x y S hb => hn _ ⟨_, _, _, _, _, _, S, hb, rfl⟩
    subst es
    walk_at "rsFor_lRange1"
    refine ⟨by unfold i62; omega, ?_⟩
    refine for_same (fun st => ∃ (x_again x_found x_k x_thing x_shown x_due : Slot) (S : Sto), Bg S a ∧ st = ⟨[.val (sc), .val (.ref a), .val (.int t), .val (sm), .val (.int m), .val (.int b), .val (.int (T : Nat)), .val (.lst (natW (primes T))), x_again, x_found, x_k, x_thing, x_shown, x_due], S⟩) _ _ ⟨_, _, _, _, _, _, S9, hb9, rfl⟩ (fun st ⟨x_again, x_found, x_k, x_thing, x_shown, x_due, S', hb', es⟩ => ?_) fun w hw st nx ⟨x_again, x_found, x_k, x_thing, x_shown, x_due, S', hb', es⟩ hn => ?_
    · subst es
      exact (q _ _ _ _ _ _ _ _ _ _ _ S' hb').1
    · subst es
      exact law_2 hb' (by omega) m1 bb hg hT hT2 fun x y z S hb => hn _ ⟨_, _, _, _, _, _, S, hb, rfl⟩
  · refine ifT (by simp; omega) ?_
    subst hB
    clear e
    refine seq_go fun nx2 e2 => ?_
    walk_at "r"
    refine ⟨b, m, rfl, by omega, by omega, bb, fun _ => ?_, fun h => absurd h hg⟩
    walk_at "r"
    have ok : RepOk (.tup [.str "none", .int b, .int m]) := by
      have t := rep_tup (d := 0) (n := 300) (ws := [.str "none", .int b, .int m]) fun w hw => by
        simp only [List.mem_cons, List.not_mem_nil, or_false] at hw
        rcases hw with rfl | rfl | rfl
        · exact ⟨by decide +kernel, by decide +kernel, by decide +kernel⟩
        · exact (rep_int bb).up (Nat.le_refl _) (by decide)
        · exact (rep_int (bd_of (by omega) (by omega))).up (Nat.le_refl _) (by decide)
      exact t.ok (hn := by show 300 * 3 + 2 * 3 + 3 ≤ _; rw [sizeLine_eq]; omega)
    refine ⟨_, _, .tup [.str "none", .int b, .int m], .tup [.str "none", .int b, .int m], rfl, rfl, rfl, rep_th ok rfl, rep_th ok rfl, ⟨_, rfl⟩, ?_⟩
    rw [ak_refl ok]
    walk_at "r"
    subst e2
    refine seq_go fun nx2 e2 => ?_
    walk_at "r"
    have t1 : Th (.tup [.int 1, .lst []]) := rep_th ⟨by decide +kernel, by decide +kernel, by decide +kernel⟩ rfl
    refine ⟨b, m, _, rfl, by omega, m1, bb, t1, fun _ => ?_, fun h => absurd h hg⟩
    walk_at "r"
    subst e2
    exact (q _ _ _ _ _ _ _ _ _ _ _ S8 hb8).2
theorem pure_law (ns : List Int) (hn : ns.length ≤ 63) : bodyI 14 ib_law [.scr ns] S0 (fun r _ => r = .val (.bl true)) fun _ _ => False := by
  unfold ib_law
  refine seq_go fun nx e => ?_
  walk_at "r"
  refine ⟨ns, rfl, hn, fun o hb ad _ => ?_⟩
  subst e
  refine seq_cut (fun _ => True) (fun nx h => ?_) (fun st _ => rfl)
  walk_at "rsFor_lRange1"
  refine ⟨by unfold i62; omega, for_rng (fun i st => ∃ (x_turn x_some x_modulus x_base x_order_here x_primes_here x_again x_found x_k x_thing x_shown x_due : Slot) (S : Sto), Bg S ad ∧ st = ⟨[.val (.scr ns), .val (.ref ad), x_turn, x_some, x_modulus, x_base, x_order_here, x_primes_here, x_again, x_found, x_k, x_thing, x_shown, x_due], S⟩) _ _ ⟨_, _, _, _, _, _, _, _, _, _, _, _, _, ⟨o, Sto.put_same, hb⟩, rfl⟩ (fun st _ => h st trivial) fun i hi st nx ⟨x_turn, x_some, x_modulus, x_base, x_order_here, x_primes_here, x_again, x_found, x_k, x_thing, x_shown, x_due, S, hb, es⟩ hn => ?_⟩
  subst es
  walk_at "r"
  exact law_3 hb fun x1 x2 x3 x4 x5 x6 x7 x8 x9 x10 x11 S hb => ⟨hn _ ⟨_, _, _, _, _, _, _, _, _, _, _, _, S, hb, rfl⟩, hn _ ⟨_, _, _, _, _, _, _, _, _, _, _, _, S, hb, rfl⟩⟩
end Sh
namespace Law
open PySem PySem.Spec L2 Sh
open PyProof.Rows hiding St
open Law0
section
variable {P : Program} {w : World} {K : PySem.W.Frag} {mg : Str → Option Value} {base : Heap}
theorem sc_l_bag : FnScope ["_law_script", "_law_cell"] ["_law_script"] (defScope s_l_bag) := ⟨rfl, rfl, rfl, by decide +kernel, rfl, by decide +kernel, by decide +kernel⟩
theorem d_l_bag (D : Df K mg "_law_bag" s_l_bag) (b_abs : mg "abs" = none) : Cal P w K mg base "_law_bag" 1 1 (bodyI 2 ib_l_bag) := by
  refine calI (k := 0) (ps := ["_law_script"]) (N := ["_law_script", "_law_cell"]) D sc_l_bag (fun _ _ _ _ _ _ us hl => match us, hl with | [_], _ => rfl) fun f cdv A outer s H E hr gu F Wx tk => ?_
  have hN := sc_l_bag.nd
  have hu := hr.units
  exact (s_one (s_retN (n_lst (ia_cons i_int (ia_cons i_int (ia_cons i_int (ia_cons (i_fz (n_lc [("_law_cell", 1)] hN (l_seq (i_sl (i_var 0) o_none (o_some i_int))) (blkOk_by rfl) (fun s H C cl fp F => (g_name (vs := [1]) 1 hN)) (fun s H C cl fp => ti_nil) (fun s H C cl fp F => (i_abs b_abs (ia_cons (i_var 1) ia_nil))))) ia_nil)))))))
theorem sc_l_take : FnScope ["_law_bag_here", "_law_upto", "_law_cell", "_law_mixed", "_law_drawn", "_law_begin", "_law_second"] ["_law_bag_here", "_law_upto"] (defScope s_l_take) := ⟨rfl, rfl, rfl, by decide +kernel, rfl, by decide +kernel, by decide +kernel⟩
theorem d_l_take (D : Df K mg "_law_take" s_l_take) (b_len : mg "len" = none) (b_int : mg "int" = none) : Cal P w K mg base "_law_take" 1 2 (bodyI 7 ib_l_take) := by
  refine calI (k := 0) (ps := ["_law_bag_here", "_law_upto"]) (N := ["_law_bag_here", "_law_upto", "_law_cell", "_law_mixed", "_law_drawn", "_law_begin", "_law_second"]) D sc_l_take (fun _ _ _ _ _ _ us hl => match us, hl with | [_, _], _ => rfl) fun f cdv A outer s H E hr gu F Wx tk => ?_
  have hN := sc_l_take.nd
  have hu := hr.units
  exact (s_cons (s_if (t_eq hu (i_ix (i_var 0) i_int) i_int) (s_cons (s_set 2 hN i_int)
    (s_cons (s_if (t_lt (i_ix (i_var 0) i_int) (i_len b_len (ia_cons (i_ix (i_var 0) i_int) ia_nil))) (s_one (s_set 2 hN (i_ix (i_ix (i_var 0) i_int) (i_ix (i_var 0) i_int)))) s_nil)
    (s_cons (s_augS 0 ip_add i_int i_int)
    (s_cons (s_if (t_ge (i_var 2) i_int) (s_one (s_ixS 0 (i_var 2) i_int)) s_nil)
    (s_cons (s_set 3 hN (i_add (i_add (i_mul (i_ix (i_var 0) i_int) i_int) (i_mod (i_toint b_int (ia_cons (i_var 2) ia_nil)) i_int)) (i_mul i_int (i_ix (i_var 0) i_int))))
    (s_one (s_ixS 0 (i_mod (i_toint b_int (ia_cons (i_var 3) ia_nil)) i_int) i_int))))))) s_nil)
  (s_cons (s_if (t_gt (i_ix (i_var 0) i_int) i_int) (s_cons (s_set 4 hN (i_mod (i_toint b_int (ia_cons (i_ix (i_var 0) i_int) ia_nil)) (i_var 1)))
    (s_cons (s_ixS 0 (i_div (i_toint b_int (ia_cons (i_ix (i_var 0) i_int) ia_nil)) (i_var 1)) i_int)
    (s_one (s_ret (i_var 4))))) s_nil)
  (s_cons (s_set 5 hN (i_mod (i_toint b_int (ia_cons (i_mul (i_add (i_ix (i_var 0) i_int) i_int) i_int) ia_nil)) i_int))
  (s_cons (s_set 6 hN (i_mod (i_toint b_int (ia_cons (i_mul (i_mod (i_toint b_int (ia_cons (i_mul (i_var 5) (i_var 5)) ia_nil)) i_int) i_int) ia_nil)) i_int))
  (s_one (s_ret (i_mod (i_toint b_int (ia_cons (i_div (i_var 6) i_int) ia_nil)) (i_var 1))))))))
theorem sc_l_one : FnScope ["_law_bag_here", "_law_some"] ["_law_bag_here", "_law_some"] (defScope s_l_one) := ⟨rfl, rfl, rfl, by decide +kernel, rfl, by decide +kernel, by decide +kernel⟩
theorem d_l_one (D : Df K mg "_law_one" s_l_one) (b_len : mg "len" = none) (c_l_take : Cal P w K mg base "_law_take" 1 2 sp_l_take) : Cal P w K mg base "_law_one" 2 2 (bodyI 2 ib_l_one) := by
  refine calI (k := 1) (ps := ["_law_bag_here", "_law_some"]) (N := ["_law_bag_here", "_law_some"]) D sc_l_one (fun _ _ _ _ _ _ us hl => match us, hl with | [_, _], _ => rfl) fun f cdv A outer s H E hr gu F Wx tk => ?_
  have hN := sc_l_one.nd
  have hu := hr.units
  exact (s_one (s_ret (i_ix (i_var 1) (i_cal c_l_take (hr.mono (by decide)) gu tk (ia_cons (i_var 0) (ia_cons (i_len b_len (ia_cons (i_var 1) ia_nil)) ia_nil))))))
theorem sc_l7_divisor : FnScope ["_law_one_here", "_law_other"] ["_law_one_here", "_law_other"] (defScope s_l7_divisor) := ⟨rfl, rfl, rfl, by decide +kernel, rfl, by decide +kernel, by decide +kernel⟩
theorem d_l7_divisor (D : Df K mg "_law_divisor" s_l7_divisor) (b_int : mg "int" = none) : Cal P w K mg base "_law_divisor" 1 2 (bodyI 2 ib_l7_divisor) := by
  refine calI (k := 0) (ps := ["_law_one_here", "_law_other"]) (N := ["_law_one_here", "_law_other"]) D sc_l7_divisor (fun _ _ _ _ _ _ us hl => match us, hl with | [_, _], _ => rfl) fun f cdv A outer s H E hr gu F Wx tk => ?_
  have hN := sc_l7_divisor.nd
  have hu := hr.units
  exact (s_cons (s_while (passes_of rfl) (t_gt (i_var 1) i_int) (s_one (s_par 0 1 hN (i_var 1) (i_mod (i_toint b_int (ia_cons (i_var 0) ia_nil)) (i_var 1)))))
  (s_one (s_ret (i_var 0))))
theorem sc_lk_alike : FnScope ["_law_found", "_law_due"] ["_law_found", "_law_due"] (defScope s_lk_alike) := ⟨rfl, rfl, rfl, by decide +kernel, rfl, by decide +kernel, by decide +kernel⟩
theorem d_lk_alike (D : Df K mg "_law_alike" s_lk_alike) (b_repr : mg "repr" = none) (sys_ : sysB K = true) : Cal P w K mg base "_law_alike" 1 2 (bodyI 2 ib_lk_alike) := by
  refine calI (k := 0) (ps := ["_law_found", "_law_due"]) (N := ["_law_found", "_law_due"]) D sc_lk_alike (fun _ _ _ _ _ _ us hl => match us, hl with | [_, _], _ => rfl) fun f cdv A outer s H E hr gu F Wx tk => ?_
  have hN := sc_lk_alike.nd
  have hu := hr.units
  exact (s_one (s_ret (i_and (i_eqRK hu (i_var 0) (i_var 1)) (i_one (i_eqRK hu (i_reprRN sys_ gu hu b_repr (ia_cons (i_var 0) ia_nil)) (i_reprRN sys_ gu hu b_repr (ia_cons (i_var 1) ia_nil)))))))
theorem sc_p_common : FnScope ["one", "other"] ["one", "other"] (defScope s_p_common) := ⟨rfl, rfl, rfl, by decide +kernel, rfl, by decide +kernel, by decide +kernel⟩
theorem d_p_common (D : Df K mg "common" s_p_common) : Cal P w K mg base "common" 1 2 (bodyI 2 ib_p_common) := by
  refine calI (k := 0) (ps := ["one", "other"]) (N := ["one", "other"]) D sc_p_common (fun _ _ _ _ _ _ us hl => match us, hl with | [_, _], _ => rfl) fun f cdv A outer s H E hr gu F Wx tk => ?_
  have hN := sc_p_common.nd
  have hu := hr.units
  exact (s_cons (s_while (passes_of rfl) (t_tru (i_var 1)) (s_one (s_par 0 1 hN (i_var 1) (i_mod (i_var 0) (i_var 1)))))
  (s_one (s_ret (i_var 0))))
theorem sc_p_order_of : FnScope ["base", "modulus", "order", "power"] ["base", "modulus"] (defScope s_p_order_of) := ⟨rfl, rfl, rfl, by decide +kernel, rfl, by decide +kernel, by decide +kernel⟩
theorem d_p_order_of (D : Df K mg "order_of" s_p_order_of) : Cal P w K mg base "order_of" 1 2 (bodyI 4 ib_p_order_of) := by
  refine calI (k := 0) (ps := ["base", "modulus"]) (N := ["base", "modulus", "order", "power"]) D sc_p_order_of (fun _ _ _ _ _ _ us hl => match us, hl with | [_, _], _ => rfl) fun f cdv A outer s H E hr gu F Wx tk => ?_
  have hN := sc_p_order_of.nd
  have hu := hr.units
  exact (s_cons (s_par 2 3 hN i_int (i_mod (i_var 0) (i_var 1)))
  (s_cons (s_while (passes_of rfl) (t_ne hu (i_var 3) (i_mod i_int (i_var 1))) (s_one (s_par 2 3 hN (i_add (i_var 2) i_int) (i_mod (i_mul (i_var 3) (i_var 0)) (i_var 1)))))
  (s_one (s_ret (i_var 2)))))
theorem sc_p_primes_of : FnScope ["number", "found", "divisor"] ["number"] (defScope s_p_primes_of) := ⟨rfl, rfl, rfl, by decide +kernel, rfl, by decide +kernel, by decide +kernel⟩
theorem d_p_primes_of (D : Df K mg "primes_of" s_p_primes_of) : Cal P w K mg base "primes_of" 1 1 (bodyI 3 ib_p_primes_of) := by
  refine calI (k := 0) (ps := ["number"]) (N := ["number", "found", "divisor"]) D sc_p_primes_of (fun _ _ _ _ _ _ us hl => match us, hl with | [_], _ => rfl) fun f cdv A outer s H E hr gu F Wx tk => ?_
  have hN := sc_p_primes_of.nd
  have hu := hr.units
  exact (s_cons (s_parNE 1 2 hN (n_lst ia_nil) (fun F => i_int))
  (s_cons (s_while (passes_of rfl) (t_gt (i_var 0) i_int) (s_cons (s_if (t_eq hu (i_mod (i_var 0) (i_var 2)) i_int) (s_cons (s_expr (i_mtO 1 mg_append mt_append PySem.F.slot_list_append PySem.F.type_list_append (ia_cons (i_var 2) ia_nil)))
      (s_one (s_while (passes_of rfl) (t_eq hu (i_mod (i_var 0) (i_var 2)) i_int) (s_one (s_set 0 hN (i_div (i_var 0) (i_var 2))))))) s_nil)
    (s_one (s_augI 2 ip_add hN i_int))))
  (s_one (s_retO (i := 1)))))
theorem sc_pr_order_paper : FnScope ["base", "modulus", "order"] ["base", "modulus"] (defScope s_pr_order_paper) := ⟨rfl, rfl, rfl, by decide +kernel, rfl, by decide +kernel, by decide +kernel⟩
theorem d_pr_order_paper (D : Df K mg "order_paper" s_pr_order_paper) (b_super : mg "super" = none) (er2_NoOrder : ErrC2 P K mg "NoOrder" "base" "modulus") (c_p_common : Cal P w K mg base "common" 1 2 sp_p_common) (c_p_order_of : Cal P w K mg base "order_of" 1 2 sp_p_order_of) (c_p_primes_of : Cal P w K mg base "primes_of" 1 1 sp_p_primes_of) : Cal P w K mg base "order_paper" 2 2 (bodyI 3 ib_pr_order_paper) := by
  refine calI (k := 1) (ps := ["base", "modulus"]) (N := ["base", "modulus", "order"]) D sc_pr_order_paper (fun _ _ _ _ _ _ us hl => match us, hl with | [_, _], _ => rfl) fun f cdv A outer s H E hr gu F Wx tk => ?_
  have hN := sc_pr_order_paper.nd
  have hu := hr.units
  exact (s_cons (s_if (t_ne hu (i_cal c_p_common (hr.mono (by decide)) gu tk (ia_cons (i_var 1) (ia_cons (i_mod (i_var 0) (i_var 1)) ia_nil))) i_int) (s_one (s_raise2 er2_NoOrder (hr.mono (by decide)) tk (ia_cons (i_var 0) (ia_cons (i_var 1) ia_nil)))) s_nil)
  (s_cons (s_set 2 hN (i_cal c_p_order_of (hr.mono (by decide)) gu tk (ia_cons (i_var 0) (ia_cons (i_var 1) ia_nil))))
  (s_one (s_ret (i_tup (ia_cons (i_var 2) (ia_cons (i_pub (n_cal c_p_primes_of (hr.mono (by decide)) gu tk (ia_cons (i_var 2) ia_nil))) ia_nil)))))))
theorem sc_l7_told : FnScope ["_law_base", "_law_modulus", "e", "_law_found"] ["_law_base", "_law_modulus"] (defScope s_l7_told) := ⟨rfl, rfl, rfl, by decide +kernel, rfl, by decide +kernel, by decide +kernel⟩
theorem d_l7_told (D : Df K mg "_law_told" s_l7_told) (b_isinstance : mg "isinstance" = none) (g_PupilError : mg "PupilError" = some (.ref (He.ga K "PupilError"))) (cat_PupilError : CatF K ["NoOrder"] "PupilError") (ise_ : IsEF K ["NoOrder"] ["NoOrder"]) (g_NoOrder : mg "NoOrder" = some (.ref (He.ga K "NoOrder"))) (xf_modulus : XfF K ["NoOrder"] "modulus") (xf_base : XfF K ["NoOrder"] "base") (c_pr_order_paper : Cal P w K mg base "order_paper" 2 2 sp_pr_order_paper) : Cal P w K mg base "_law_told" 3 2 (bodyI 4 ib_l7_told) := by
  refine calI (k := 2) (ps := ["_law_base", "_law_modulus"]) (N := ["_law_base", "_law_modulus", "e", "_law_found"]) D sc_l7_told (fun _ _ _ _ _ _ us hl => match us, hl with | [_, _], _ => rfl) fun f cdv A outer s H E hr gu F Wx tk => ?_
  have hN := sc_l7_told.nd
  have hu := hr.units
  exact (s_one (s_tryE 2 cat_PupilError g_PupilError hN tk (fun W pn xe tk pw => (s_one (s_set 3 hN (i_cal c_pr_order_paper (hr.mono (by decide)) gu tk (ia_cons (i_var 0) (ia_cons (i_var 1) ia_nil)))))) (fun h oe pn hz hf => (s_one (s_ret (i_if (t_tru (i_isE ise_ hz hf b_isinstance (ia_cons (i_var 2) (ia_cons (i_glo g_NoOrder) ia_nil)))) (i_tup (ia_cons i_str (ia_cons (i_xf xf_base hz hf (i_var 2)) (ia_cons (i_xf xf_modulus hz hf (i_var 2)) ia_nil)))) (i_tup (ia_cons i_str (ia_cons i_int ia_nil))))))) (s_one (s_ret (i_tup (ia_cons i_str (ia_cons (i_var 3) ia_nil)))))))
theorem sc_p_is_integer : FnScope ["thing"] ["thing"] (defScope s_p_is_integer) := ⟨rfl, rfl, rfl, by decide +kernel, rfl, by decide +kernel, by decide +kernel⟩
theorem d_p_is_integer (D : Df K mg "is_integer" s_p_is_integer) (b_isinstance : mg "isinstance" = none) (b_int : mg "int" = none) (b_bool : mg "bool" = none) : Cal P w K mg base "is_integer" 1 1 (bodyI 1 ib_p_is_integer) := by
  refine calI (k := 0) (ps := ["thing"]) (N := ["thing"]) D sc_p_is_integer (fun _ _ _ _ _ _ us hl => match us, hl with | [_], _ => rfl) fun f cdv A outer s H E hr gu F Wx tk => ?_
  have hN := sc_p_is_integer.nd
  have hu := hr.units
  exact (s_one (s_ret (i_and (i_isi b_isinstance (ia_cons (i_var 0) (ia_cons (i_tyv b_int boot_int') ia_nil))) (i_one (i_not (i_isi b_isinstance (ia_cons (i_var 0) (ia_cons (i_tyv b_bool boot_bool') ia_nil))))))))
theorem sc_p_is_order_paper : FnScope ["base", "modulus", "thing", "prime"] ["base", "modulus", "thing"] (defScope s_p_is_order_paper) := ⟨rfl, rfl, rfl, by decide +kernel, rfl, by decide +kernel, by decide +kernel⟩
theorem d_p_is_order_paper (D : Df K mg "is_order_paper" s_p_is_order_paper) (b_isinstance : mg "isinstance" = none) (b_tuple : mg "tuple" = none) (b_len : mg "len" = none) (b_list : mg "list" = none) (b_all : mg "all" = none) (c_p_common : Cal P w K mg base "common" 1 2 sp_p_common) (c_p_is_integer : Cal P w K mg base "is_integer" 1 1 sp_p_is_integer) (c_pr_order_paper : Cal P w K mg base "order_paper" 2 2 sp_pr_order_paper) : Cal P w K mg base "is_order_paper" 3 3 (bodyI 4 ib_p_is_order_paper) := by
  refine calI (k := 2) (ps := ["base", "modulus", "thing"]) (N := ["base", "modulus", "thing", "prime"]) D sc_p_is_order_paper (fun _ _ _ _ _ _ us hl => match us, hl with | [_, _, _], _ => rfl) fun f cdv A outer s H E hr gu F Wx tk => ?_
  have hN := sc_p_is_order_paper.nd
  have hu := hr.units
  exact (s_cons (s_if (pt_w (w_or (t_ne hu (i_cal c_p_common (hr.mono (by decide)) gu tk (ia_cons (i_var 1) (ia_cons (i_mod (i_var 0) (i_var 1)) ia_nil))) i_int) (w_or (t_not (t_tru (i_isi b_isinstance (ia_cons (i_var 2) (ia_cons (i_tyv b_tuple boot_tuple') ia_nil))))) (w_or1 (t_ne hu (i_len b_len (ia_cons (i_var 2) ia_nil)) i_int))))) (s_one (s_ret i_bl)) s_nil)
  (s_cons (s_if (pt_w (w_or (t_not (t_tru (i_cal c_p_is_integer (hr.mono (by decide)) gu tk (ia_cons (i_ix (i_var 2) i_int) ia_nil)))) (w_or1 (t_not (t_tru (i_isi b_isinstance (ia_cons (i_ix (i_var 2) i_int) (ia_cons (i_tyv b_list boot_list') ia_nil)))))))) (s_one (s_ret i_bl)) s_nil)
  (s_one (s_ret (i_and (i_all b_all (ia_cons (i_fz (n_lc [("prime", 3)] hN (l_seq (i_ix (i_var 2) i_int)) (blkOk_by rfl) (fun s H C cl fp F => (g_name (vs := [3]) 3 hN)) (fun s H C cl fp => ti_nil) (fun s H C cl fp F => (i_cal c_p_is_integer (hr.mono (by decide)) gu takes0 (ia_cons (i_var 3) ia_nil))))) ia_nil)) (i_one (i_eqRK hu (i_var 2) (i_cal c_pr_order_paper (hr.mono (by decide)) gu tk (ia_cons (i_var 0) (ia_cons (i_var 1) ia_nil))))))))))
theorem sc_l7_order : FnScope ["_law_base", "_law_modulus", "_law_found", "_law_rest"] ["_law_base", "_law_modulus"] (defScope s_l7_order) := ⟨rfl, rfl, rfl, by decide +kernel, rfl, by decide +kernel, by decide +kernel⟩
theorem d_l7_order (D : Df K mg "_law_order" s_l7_order) (b_int : mg "int" = none) : Cal P w K mg base "_law_order" 1 2 (bodyI 4 ib_l7_order) := by
  refine calI (k := 0) (ps := ["_law_base", "_law_modulus"]) (N := ["_law_base", "_law_modulus", "_law_found", "_law_rest"]) D sc_l7_order (fun _ _ _ _ _ _ us hl => match us, hl with | [_, _], _ => rfl) fun f cdv A outer s H E hr gu F Wx tk => ?_
  have hN := sc_l7_order.nd
  have hu := hr.units
  exact (s_cons (s_par 2 3 hN i_int (i_mod (i_toint b_int (ia_cons (i_var 0) ia_nil)) (i_var 1)))
  (s_cons (s_while (passes_of rfl) (t_ne hu (i_var 3) (i_sub i_int (i_toint b_int (ia_cons (i_eq hu (i_var 1) i_int) ia_nil)))) (s_one (s_par 2 3 hN (i_add (i_var 2) i_int) (i_mod (i_toint b_int (ia_cons (i_mul (i_var 3) (i_var 0)) ia_nil)) (i_var 1)))))
  (s_one (s_ret (i_var 2)))))
theorem sc_l7_is_prime : FnScope ["_law_number", "_law_one_here"] ["_law_number"] (defScope s_l7_is_prime) := ⟨rfl, rfl, rfl, by decide +kernel, rfl, by decide +kernel, by decide +kernel⟩
theorem d_l7_is_prime (D : Df K mg "_law_is_prime" s_l7_is_prime) (b_range : mg "range" = none) (b_int : mg "int" = none) : Cal P w K mg base "_law_is_prime" 1 1 (bodyI 2 ib_l7_is_prime) := by
  refine calI (k := 0) (ps := ["_law_number"]) (N := ["_law_number", "_law_one_here"]) D sc_l7_is_prime (fun _ _ _ _ _ _ us hl => match us, hl with | [_], _ => rfl) fun f cdv A outer s H E hr gu F Wx tk => ?_
  have hN := sc_l7_is_prime.nd
  have hu := hr.units
  exact (s_cons (s_for (passes_of rfl) (l_range2 b_range i_int (i_var 0)) (g_name (vs := [1]) 1 hN) (s_cons (s_if (t_gt (i_mul (i_var 1) (i_var 1)) (i_var 0)) (s_one (s_ret i_bl)) s_nil)
    (s_one (s_if (t_eq hu (i_mod (i_toint b_int (ia_cons (i_var 0) ia_nil)) (i_var 1)) i_int) (s_one (s_ret i_bl)) s_nil))))
  (s_one (s_ret (i_gt (i_var 0) i_int))))
theorem sc_l7_primes : FnScope ["_law_number", "_law_one_here"] ["_law_number"] (defScope s_l7_primes) := ⟨rfl, rfl, rfl, by decide +kernel, rfl, by decide +kernel, by decide +kernel⟩
theorem d_l7_primes (D : Df K mg "_law_primes" s_l7_primes) (b_range : mg "range" = none) (b_int : mg "int" = none) (c_l7_is_prime : Cal P w K mg base "_law_is_prime" 1 1 sp_l7_is_prime) : Cal P w K mg base "_law_primes" 2 1 (bodyI 2 ib_l7_primes) := by
  refine calI (k := 1) (ps := ["_law_number"]) (N := ["_law_number", "_law_one_here"]) D sc_l7_primes (fun _ _ _ _ _ _ us hl => match us, hl with | [_], _ => rfl) fun f cdv A outer s H E hr gu F Wx tk => ?_
  have hN := sc_l7_primes.nd
  have hu := hr.units
  exact (s_one (s_ret (i_fz (n_lc [("_law_one_here", 1)] hN (l_range2 b_range i_int (i_add (i_var 0) i_int)) (blkOk_by rfl) (fun s H C cl fp F => (g_name (vs := [1]) 1 hN)) (fun s H C cl fp => (ti_one fun F => (pt_w (w_and (t_eq hu (i_mod (i_toint b_int (ia_cons (i_var 0) ia_nil)) (i_var 1)) i_int) (w_and1 (t_tru (i_cal c_l7_is_prime (hr.mono (by decide)) gu takes0 (ia_cons (i_var 1) ia_nil)))))))) (fun s H C cl fp F => (i_var 1))))))
theorem sc_l7_odd : FnScope ["_law_bag_here", "_law_some", "_law_deep", "_law_k"] ["_law_bag_here"] (defScope s_l7_odd) := ⟨rfl, rfl, rfl, by decide +kernel, rfl, by decide +kernel, by decide +kernel⟩
theorem d_l7_odd (D : Df K mg "_law_odd" s_l7_odd) (b_range : mg "range" = none) (c_l_one : Cal P w K mg base "_law_one" 2 2 sp_l_one) : Cal P w K mg base "_law_odd" 3 1 (bodyI 4 ib_l7_odd) := by
  refine calI (k := 2) (ps := ["_law_bag_here"]) (N := ["_law_bag_here", "_law_some", "_law_deep", "_law_k"]) D sc_l7_odd (fun _ _ _ _ _ _ us hl => match us, hl with | [_], _ => rfl) fun f cdv A outer s H E hr gu F Wx tk => ?_
  have hN := sc_l7_odd.nd
  have hu := hr.units
  exact (s_cons (s_set 1 hN (i_lst (ia_cons i_non (ia_cons i_bl (ia_cons i_bl (ia_cons i_int (ia_cons (i_neg i_int) (ia_cons i_int (ia_cons i_str (ia_cons i_str (ia_cons i_str (ia_cons (i_tup ia_nil) (ia_cons (i_lst ia_nil) (ia_cons (i_fz n_dnew) (ia_cons (i_tup (ia_cons i_str (ia_cons i_int ia_nil))) (ia_cons (i_lst (ia_cons i_str (ia_cons i_int ia_nil))) (ia_cons (i_tup (ia_cons i_str (ia_cons i_int ia_nil))) (ia_cons (i_tup (ia_cons i_non ia_nil)) (ia_cons (i_lst (ia_cons (i_lst ia_nil) ia_nil)) ia_nil)))))))))))))))))))
  (s_cons (s_set 1 hN (i_add (i_var 1) (i_lst (ia_cons (i_pow i_int i_int) (ia_cons (i_mul i_str i_int) (ia_cons (i_fz (n_disp (pd_cons (fun _ => i_str) (fun _ => i_int) pd_nil))) (ia_cons (i_tup (ia_cons i_str (ia_cons i_int ia_nil))) (ia_cons (i_tup (ia_cons i_str (ia_cons i_int (ia_cons i_int ia_nil)))) (ia_cons (i_tup (ia_cons i_str (ia_cons i_int (ia_cons i_int (ia_cons i_bl ia_nil))))) (ia_cons (i_tup (ia_cons i_int (ia_cons i_int (ia_cons i_int ia_nil)))) ia_nil))))))))))
  (s_cons (s_set 2 hN (i_tup (ia_cons i_str ia_nil)))
  (s_cons (s_for (passes_of rfl) (l_range1 b_range i_int) (g_name (vs := [3]) 3 hN) (s_one (s_set 2 hN (i_tup (ia_cons (i_var 2) ia_nil)))))
  (s_one (s_ret (i_cal c_l_one (hr.mono (by decide)) gu tk (ia_cons (i_var 0) (ia_cons (i_add (i_var 1) (i_lst (ia_cons (i_var 2) ia_nil))) ia_nil)))))))))
theorem sc_l7_bent : FnScope ["_law_bag_here", "_law_order_here", "_law_primes_here", "_law_way", "_law_at", "_law_some", "_law_k", "_law_one_here"] ["_law_bag_here", "_law_order_here", "_law_primes_here"] (defScope s_l7_bent) := ⟨rfl, rfl, rfl, by decide +kernel, rfl, by decide +kernel, by decide +kernel⟩
theorem d_l7_bent (D : Df K mg "_law_bent" s_l7_bent) (b_len : mg "len" = none) (b_tuple : mg "tuple" = none) (b_enumerate : mg "enumerate" = none) (b_list : mg "list" = none) (c_l_take : Cal P w K mg base "_law_take" 1 2 sp_l_take) (c_l7_odd : Cal P w K mg base "_law_odd" 3 1 sp_l7_odd) (c_l_one : Cal P w K mg base "_law_one" 2 2 sp_l_one) : Cal P w K mg base "_law_bent" 4 3 (bodyI 8 ib_l7_bent) := by
  refine calI (k := 3) (ps := ["_law_bag_here", "_law_order_here", "_law_primes_here"]) (N := ["_law_bag_here", "_law_order_here", "_law_primes_here", "_law_way", "_law_at", "_law_some", "_law_k", "_law_one_here"]) D sc_l7_bent (fun _ _ _ _ _ _ us hl => match us, hl with | [_, _, _], _ => rfl) fun f cdv A outer s H E hr gu F Wx tk => ?_
  have hN := sc_l7_bent.nd
  have hu := hr.units
  exact (s_cons (s_asg (i_tup (ia_cons (i_cal c_l_take (hr.mono (by decide)) gu tk (ia_cons (i_var 0) (ia_cons i_int ia_nil))) (ia_cons (i_cal c_l_take (hr.mono (by decide)) gu tk (ia_cons (i_var 0) (ia_cons (i_add (i_len b_len (ia_cons (i_var 2) ia_nil)) i_int) ia_nil))) ia_nil))) (g_tup (gs_cons (g_name (vs := [3, 4]) 3 hN) (gs_cons (g_name (vs := [3, 4]) 4 hN) gs_nil))))
  (s_cons (s_if (t_eq hu (i_var 3) i_int) (s_one (s_ret (i_cal c_l7_odd (hr.mono (by decide)) gu tk (ia_cons (i_var 0) ia_nil)))) s_nil)
  (s_cons (s_if (t_eq hu (i_var 3) i_int) (s_one (s_ret (i_tup (ia_cons (i_cal c_l_one (hr.mono (by decide)) gu tk (ia_cons (i_var 0) (ia_cons (i_lst (ia_cons (i_mul (i_var 1) i_int) (ia_cons (i_add (i_var 1) i_int) (ia_cons (i_sub (i_var 1) i_int) (ia_cons i_int (ia_cons (i_sub i_int (i_var 1)) (ia_cons (i_div (i_var 1) i_int) ia_nil))))))) ia_nil))) (ia_cons (i_var 2) ia_nil))))) s_nil)
  (s_cons (s_if (t_eq hu (i_var 3) i_int) (s_cons (s_setN 5 hN (n_lst (ia_cons (i_sl (i_var 2) (o_some i_int) o_none) (ia_cons (i_add (i_var 2) (i_lst (ia_cons i_int ia_nil))) (ia_cons (i_add (i_var 2) (i_var 2)) (ia_cons (i_revL (i_var 2)) (ia_cons (i_tuple b_tuple (ia_cons (i_var 2) ia_nil)) (ia_cons i_non (ia_cons (i_lst (ia_cons (i_var 1) ia_nil)) ia_nil)))))))))
    (s_cons (s_expr (i_mtO 5 mg_append mt_append PySem.F.slot_list_append PySem.F.type_list_append (ia_cons (i_fz (n_lc [("_law_k", 6), ("_law_one_here", 7)] hN (l_enum b_enumerate (i_var 2)) (blkOk_by rfl) (fun s H C cl fp F => (g_tup (gs_cons (g_name (vs := [6, 7]) 6 hN) (gs_cons (g_name (vs := [6, 7]) 7 hN) gs_nil)))) (fun s H C cl fp => ti_nil) (fun s H C cl fp F => (i_if (t_eq hu (i_var 6) (i_var 4)) (i_mul i_int (i_var 7)) (i_var 7))))) ia_nil)))
    (s_one (s_ret (i_tup (ia_cons (i_var 1) (ia_cons (i_cal c_l_one (hr.mono (by decide)) gu tk (ia_cons (i_var 0) (ia_cons (i_addO (i := 5) (i_lst (ia_cons (i_add (i_sl (i_var 2) o_none (o_some (i_var 4))) (i_sl (i_var 2) (o_some (i_add (i_var 4) i_int)) o_none)) ia_nil))) ia_nil))) ia_nil))))))) s_nil)
  (s_cons (s_if (t_eq hu (i_var 3) i_int) (s_one (s_ret (i_cal c_l_one (hr.mono (by decide)) gu tk (ia_cons (i_var 0) (ia_cons (i_lst (ia_cons (i_lst (ia_cons (i_var 1) (ia_cons (i_var 2) ia_nil))) (ia_cons (i_tup (ia_cons (i_var 1) ia_nil)) (ia_cons (i_tup (ia_cons (i_var 1) (ia_cons (i_var 2) (ia_cons i_int ia_nil)))) (ia_cons (i_tup (ia_cons i_non (ia_cons (i_var 2) ia_nil))) (ia_cons (i_tup (ia_cons (i_eq hu (i_var 1) i_int) (ia_cons (i_var 2) ia_nil))) ia_nil)))))) ia_nil))))) s_nil)
  (s_cons (s_if (t_eq hu (i_var 3) i_int) (s_one (s_ret (i_tup (ia_cons (i_var 1) (ia_cons (i_add (i_var 2) (i_lst (ia_cons (i_cal c_l_one (hr.mono (by decide)) gu tk (ia_cons (i_var 0) (ia_cons (i_lst (ia_cons i_bl (ia_cons (i_add (i_pow i_int i_int) i_int) (ia_cons i_int (ia_cons i_int (ia_cons (i_neg i_int) (ia_cons i_non (ia_cons i_str (ia_cons (i_lst ia_nil) (ia_cons (i_tup (ia_cons i_int ia_nil)) ia_nil)))))))))) ia_nil))) ia_nil))) ia_nil))))) s_nil)
  (s_cons (s_if (t_eq hu (i_var 3) i_int) (s_one (s_ret (i_tup (ia_cons (i_cal c_l_one (hr.mono (by decide)) gu tk (ia_cons (i_var 0) (ia_cons (i_lst (ia_cons (i_add (i_pow i_int i_int) i_int) (ia_cons (i_mul (i_var 1) (i_pow i_int i_int)) (ia_cons (i_add (i_var 1) (i_pow i_int i_int)) (ia_cons (i_mul (i_var 1) i_int) ia_nil))))) ia_nil))) (ia_cons (i_list b_list (ia_cons (i_var 2) ia_nil)) ia_nil))))) s_nil)
  (s_one (s_ret (i_tup (ia_cons (i_var 1) (ia_cons (i_list b_list (ia_cons (i_var 2) ia_nil)) ia_nil))))))))))))
theorem sc_l7_truth : FnScope ["_law_told_here", "_law_due"] ["_law_told_here", "_law_due"] (defScope s_l7_truth) := ⟨rfl, rfl, rfl, by decide +kernel, rfl, by decide +kernel, by decide +kernel⟩
theorem d_l7_truth (D : Df K mg "_law_truth" s_l7_truth) : Cal P w K mg base "_law_truth" 1 2 (bodyI 2 ib_l7_truth) := by
  refine calI (k := 0) (ps := ["_law_told_here", "_law_due"]) (N := ["_law_told_here", "_law_due"]) D sc_l7_truth (fun _ _ _ _ _ _ us hl => match us, hl with | [_, _], _ => rfl) fun f cdv A outer s H E hr gu F Wx tk => ?_
  have hN := sc_l7_truth.nd
  have hu := hr.units
  exact (s_one (s_ret (i_and (i_or (i_isB (i_var 0) i_bl) (i_one (i_isB (i_var 0) i_bl))) (i_one (i_eq hu (i_var 0) (i_var 1))))))
theorem sc_law : FnScope ["_law_script", "_law_bag_here", "_law_turn", "_law_some", "_law_modulus", "_law_base", "_law_order_here", "_law_primes_here", "_law_again", "_law_found", "_law_k", "_law_thing", "_law_shown", "_law_due"] ["_law_script"] (defScope s_law) := ⟨rfl, rfl, rfl, by decide +kernel, rfl, by decide +kernel, by decide +kernel⟩
theorem g_law {f : Addr} {fd : FuncData} (Fd : FunD K "law" "law" (defArgs s_law) (defBody s_law) (defScope s_law) [] [] f fd) (b_range : mg "range" = none) (b_int : mg "int" = none) (b_list : mg "list" = none) (b_repr : mg "repr" = none) (sys_ : sysB K = true) (c_l_bag : Cal P w K mg base "_law_bag" 1 1 sp_l_bag) (c_l_take : Cal P w K mg base "_law_take" 1 2 sp_l_take) (c_l_one : Cal P w K mg base "_law_one" 2 2 sp_l_one) (c_l7_divisor : Cal P w K mg base "_law_divisor" 1 2 sp_l7_divisor) (c_lk_alike : Cal P w K mg base "_law_alike" 1 2 sp_lk_alike) (c_l7_told : Cal P w K mg base "_law_told" 3 2 sp_l7_told) (c_p_is_order_paper : Cal P w K mg base "is_order_paper" 3 3 sp_p_is_order_paper) (c_l7_order : Cal P w K mg base "_law_order" 1 2 sp_l7_order) (c_l7_primes : Cal P w K mg base "_law_primes" 2 1 sp_l7_primes) (c_l7_bent : Cal P w K mg base "_law_bent" 4 3 sp_l7_bent) (c_l7_truth : Cal P w K mg base "_law_truth" 1 2 sp_l7_truth) : FnG P w K mg base 5 f fd ["_law_script"] (spI K 1 (bodyI 14 ib_law)) := by
  refine fnI (k := 4) (ps := ["_law_script"]) (N := ["_law_script", "_law_bag_here", "_law_turn", "_law_some", "_law_modulus", "_law_base", "_law_order_here", "_law_primes_here", "_law_again", "_law_found", "_law_k", "_law_thing", "_law_shown", "_law_due"]) Fd sc_law fun cdv A outer s H E hr gu F Wx tk => ?_
  have hN := sc_law.nd
  have hu := hr.units
  exact (s_cons (s_setP 1 hN (n_cal c_l_bag (hr.mono (by decide)) gu tk (ia_cons (i_var 0) ia_nil)))
  (s_cons (s_for (passes_of rfl) (l_range1 b_range i_int) (g_name (vs := [2]) 2 hN) (s_cons (s_set 3 hN (i_lst (ia_cons (i_add i_int (i_cal c_l_take (hr.mono (by decide)) gu tk (ia_cons (i_var 1) (ia_cons i_int ia_nil)))) (ia_cons (i_add i_int (i_cal c_l_take (hr.mono (by decide)) gu tk (ia_cons (i_var 1) (ia_cons i_int ia_nil)))) (ia_cons (i_sub i_int (i_cal c_l_take (hr.mono (by decide)) gu tk (ia_cons (i_var 1) (ia_cons i_int ia_nil)))) (ia_cons (i_add i_int (i_cal c_l_take (hr.mono (by decide)) gu tk (ia_cons (i_var 1) (ia_cons i_int ia_nil)))) ia_nil))))))
    (s_cons (s_set 4 hN (i_cal c_l_one (hr.mono (by decide)) gu tk (ia_cons (i_var 1) (ia_cons (i_var 3) ia_nil))))
    (s_cons (s_set 3 hN (i_lst (ia_cons i_int (ia_cons i_int (ia_cons (i_sub (i_cal c_l_take (hr.mono (by decide)) gu tk (ia_cons (i_var 1) (ia_cons i_int ia_nil))) i_int) (ia_cons (i_add (i_pow i_int i_int) (i_cal c_l_take (hr.mono (by decide)) gu tk (ia_cons (i_var 1) (ia_cons i_int ia_nil)))) (ia_cons (i_add (i_var 4) i_int) (ia_cons i_int (ia_cons (i_sub (i_sub i_int (i_var 4)) i_int) ia_nil)))))))))
    (s_cons (s_set 5 hN (i_cal c_l_one (hr.mono (by decide)) gu tk (ia_cons (i_var 1) (ia_cons (i_add (i_var 3) (i_lst (ia_cons (i_sub i_int (i_pow i_int i_int)) ia_nil))) ia_nil))))
    (s_cons (s_if (t_ne hu (i_cal c_l7_divisor (hr.mono (by decide)) gu tk (ia_cons (i_var 4) (ia_cons (i_mod (i_toint b_int (ia_cons (i_var 5) ia_nil)) (i_var 4)) ia_nil))) i_int) (s_cons (s_if (t_not (t_tru (i_cal c_lk_alike (hr.mono (by decide)) gu tk (ia_cons (i_cal c_l7_told (hr.mono (by decide)) gu tk (ia_cons (i_var 5) (ia_cons (i_var 4) ia_nil))) (ia_cons (i_tup (ia_cons i_str (ia_cons (i_var 5) (ia_cons (i_var 4) ia_nil)))) ia_nil))))) (s_one (s_ret i_bl)) s_nil)
      (s_cons (s_if (t_isnotB (i_cal c_p_is_order_paper (hr.mono (by decide)) gu tk (ia_cons (i_var 5) (ia_cons (i_var 4) (ia_cons (i_tup (ia_cons i_int (ia_cons (i_lst ia_nil) ia_nil))) ia_nil)))) i_bl) (s_one (s_ret i_bl)) s_nil)
      (s_one s_continue))) s_nil)
    (s_cons (s_set 6 hN (i_cal c_l7_order (hr.mono (by decide)) gu tk (ia_cons (i_var 5) (ia_cons (i_var 4) ia_nil))))
    (s_cons (s_set 7 hN (i_cal c_l7_primes (hr.mono (by decide)) gu tk (ia_cons (i_var 6) ia_nil)))
    (s_cons (s_for (passes_of rfl) (l_range1 b_range i_int) (g_name (vs := [8]) 8 hN) (s_cons (s_set 9 hN (i_cal c_l7_told (hr.mono (by decide)) gu tk (ia_cons (i_var 5) (ia_cons (i_var 4) ia_nil))))
      (s_cons (s_if (t_not (t_tru (i_cal c_lk_alike (hr.mono (by decide)) gu tk (ia_cons (i_var 9) (ia_cons (i_tup (ia_cons i_str (ia_cons (i_tup (ia_cons (i_var 6) (ia_cons (i_var 7) ia_nil))) ia_nil))) ia_nil))))) (s_one (s_ret i_bl)) s_nil)
      (s_one (s_expr (i_mtR mg_append mt_append PySem.F.slot_list_append PySem.F.type_list_append (i_ix (i_ix (i_var 9) i_int) i_int) (ia_cons i_int ia_nil)))))))
    (s_one (s_for (passes_of rfl) (l_range1 b_range i_int) (g_name (vs := [10]) 10 hN) (s_cons (s_set 11 hN (i_cal c_l7_bent (hr.mono (by decide)) gu tk (ia_cons (i_var 1) (ia_cons (i_var 6) (ia_cons (i_list b_list (ia_cons (i_var 7) ia_nil)) ia_nil)))))
      (s_cons (s_par 12 13 hN (i_reprN sys_ gu hu b_repr (ia_cons (i_var 11) ia_nil)) (i_cal c_lk_alike (hr.mono (by decide)) gu tk (ia_cons (i_var 11) (ia_cons (i_tup (ia_cons (i_var 6) (ia_cons (i_var 7) ia_nil))) ia_nil))))
      (s_one (s_if (pt_w (w_or (t_not (t_tru (i_cal c_l7_truth (hr.mono (by decide)) gu tk (ia_cons (i_cal c_p_is_order_paper (hr.mono (by decide)) gu tk (ia_cons (i_var 5) (ia_cons (i_var 4) (ia_cons (i_var 11) ia_nil)))) (ia_cons (i_var 13) ia_nil))))) (w_or1 (t_ne hu (i_reprN sys_ gu hu b_repr (ia_cons (i_var 11) ia_nil)) (i_var 12))))) (s_one (s_ret i_bl)) s_nil)))))))))))))))
  (s_one (s_ret i_bl))))
end
theorem facts {P : Program} {w : World} {K : PySem.W.Frag} {h : Heap} {mg : Str → Option Value} {f : Addr} (X : K.In h) (G : h.Ns mainGlobals mg) (hfa : mg ("law" : Str) = some (.ref f)) (cX : SaysS fa fn tsL [] exL prL spL w h K) (hPf : ((P.main.file : Str) == PySem.Challenge.pw_pupilpairs_k84_orders_with_their_primes.main.file) = true) (hPs : (P.main.scope.names.lookup ("super" : Str)).isSome = false) :
    ∃ fd : FuncData, (∀ (s : Shared) (v : Value), BindsTo s fd ⟨[v], []⟩ [("_law_script", v)]) ∧ ∀ base : Heap, K.In base → base.Ns mainGlobals mg → FnG P w K mg base 5 f fd ["_law_script"] (spI K 1 (bodyI 14 ib_law)) := by
  have c := cX.x.t.d
  have ex := cX.x.more
  simp only [exL, Bool.and_eq_true] at ex
  have sys_ : sysB K = true := ex.1.1.1.1.1.1
  have no2_NoOrder : PySem.W.findIn K (.ref (He.ga K "NoOrder")) "modulus" = some none := He.eqO_ok ex.1.1.1.1.1.2
  have cat_PupilError : CatF K ["NoOrder"] "PupilError" := catFB_ok ex.1.1.1.1.2
  have ise_ : IsEF K ["NoOrder"] ["NoOrder"] := isEFB_ok ex.1.1.1.2
  have xf_modulus : XfF K ["NoOrder"] "modulus" := xfFB_ok ex.1.1.2
  have xf_base : XfF K ["NoOrder"] "base" := xfFB_ok ex.1.2
  have b_abs : mg "abs" = none := He.free_ok X G (c.fact 19 (f := .free "abs") rfl)
  have b_len : mg "len" = none := He.free_ok X G (c.fact 20 (f := .free "len") rfl)
  have b_int : mg "int" = none := He.free_ok X G (c.fact 21 (f := .free "int") rfl)
  have b_repr : mg "repr" = none := He.free_ok X G (c.fact 22 (f := .free "repr") rfl)
  have b_super : mg "super" = none := He.free_ok X G (c.fact 23 (f := .free "super") rfl)
  have b_isinstance : mg "isinstance" = none := He.free_ok X G (c.fact 24 (f := .free "isinstance") rfl)
  have b_bool : mg "bool" = none := He.free_ok X G (c.fact 25 (f := .free "bool") rfl)
  have b_tuple : mg "tuple" = none := He.free_ok X G (c.fact 26 (f := .free "tuple") rfl)
  have b_list : mg "list" = none := He.free_ok X G (c.fact 27 (f := .free "list") rfl)
  have b_all : mg "all" = none := He.free_ok X G (c.fact 28 (f := .free "all") rfl)
  have b_range : mg "range" = none := He.free_ok X G (c.fact 29 (f := .free "range") rfl)
  have b_enumerate : mg "enumerate" = none := He.free_ok X G (c.fact 30 (f := .free "enumerate") rfl)
  have g_PupilError : mg "PupilError" = some (.ref (He.ga K "PupilError")) := He.glo_ok X G (c.fact 32 (f := .glo "PupilError") rfl)
  have g_NoOrder : mg "NoOrder" = some (.ref (He.ga K "NoOrder")) := He.glo_ok X G (c.fact 31 (f := .glo "NoOrder") rfl)
  have er2_NoOrder : ErrC2 P K mg "NoOrder" "base" "modulus" := SupD.errC2 (d := sd_NoOrder) (self := "self") (y := "modulus") (cX.sup 0 (d := sd_NoOrder) rfl).1 (cX.sup 0 (d := sd_NoOrder) rfl).2 hPf hPs b_super (He.glo_ok X G (c.fact 31 (f := .glo "NoOrder") rfl)) no2_NoOrder rfl rfl rfl rfl rfl rfl (fun _ _ _ _ _ _ _ us hl => match us, hl with | [_, _, _], _ => rfl) (by decide +kernel) rfl rfl rfl rfl rfl rfl rfl rfl (by decide) (by decide) (by decide) rfl rfl rfl rfl
  have D_l_bag : Df K mg "_law_bag" s_l_bag := by
    obtain ⟨fd, F⟩ := c.def_ 0 (d := dd_l_bag) rfl
    exact ⟨_, fd, F, He.glo_ok X G (c.fact 0 (f := .glo "_law_bag") rfl)⟩
  have D_l_take : Df K mg "_law_take" s_l_take := by
    obtain ⟨fd, F⟩ := c.def_ 1 (d := dd_l_take) rfl
    exact ⟨_, fd, F, He.glo_ok X G (c.fact 1 (f := .glo "_law_take") rfl)⟩
  have D_l_one : Df K mg "_law_one" s_l_one := by
    obtain ⟨fd, F⟩ := c.def_ 2 (d := dd_l_one) rfl
    exact ⟨_, fd, F, He.glo_ok X G (c.fact 2 (f := .glo "_law_one") rfl)⟩
  have D_l7_divisor : Df K mg "_law_divisor" s_l7_divisor := by
    obtain ⟨fd, F⟩ := c.def_ 3 (d := dd_l7_divisor) rfl
    exact ⟨_, fd, F, He.glo_ok X G (c.fact 3 (f := .glo "_law_divisor") rfl)⟩
  have D_lk_alike : Df K mg "_law_alike" s_lk_alike := by
    obtain ⟨fd, F⟩ := c.def_ 4 (d := dd_lk_alike) rfl
    exact ⟨_, fd, F, He.glo_ok X G (c.fact 4 (f := .glo "_law_alike") rfl)⟩
  have D_p_common : Df K mg "common" s_p_common := by
    obtain ⟨fd, F⟩ := c.def_ 5 (d := dd_p_common) rfl
    exact ⟨_, fd, F, He.glo_ok X G (c.fact 5 (f := .glo "common") rfl)⟩
  have D_p_order_of : Df K mg "order_of" s_p_order_of := by
    obtain ⟨fd, F⟩ := c.def_ 6 (d := dd_p_order_of) rfl
    exact ⟨_, fd, F, He.glo_ok X G (c.fact 6 (f := .glo "order_of") rfl)⟩
  have D_p_primes_of : Df K mg "primes_of" s_p_primes_of := by
    obtain ⟨fd, F⟩ := c.def_ 7 (d := dd_p_primes_of) rfl
    exact ⟨_, fd, F, He.glo_ok X G (c.fact 7 (f := .glo "primes_of") rfl)⟩
  have D_pr_order_paper : Df K mg "order_paper" s_pr_order_paper := by
    obtain ⟨fd, F⟩ := c.def_ 8 (d := dd_pr_order_paper) rfl
    exact ⟨_, fd, F, He.glo_ok X G (c.fact 8 (f := .glo "order_paper") rfl)⟩
  have D_l7_told : Df K mg "_law_told" s_l7_told := by
    obtain ⟨fd, F⟩ := c.def_ 9 (d := dd_l7_told) rfl
    exact ⟨_, fd, F, He.glo_ok X G (c.fact 9 (f := .glo "_law_told") rfl)⟩
  have D_p_is_integer : Df K mg "is_integer" s_p_is_integer := by
    obtain ⟨fd, F⟩ := c.def_ 10 (d := dd_p_is_integer) rfl
    exact ⟨_, fd, F, He.glo_ok X G (c.fact 10 (f := .glo "is_integer") rfl)⟩
  have D_p_is_order_paper : Df K mg "is_order_paper" s_p_is_order_paper := by
    obtain ⟨fd, F⟩ := c.def_ 11 (d := dd_p_is_order_paper) rfl
    exact ⟨_, fd, F, He.glo_ok X G (c.fact 11 (f := .glo "is_order_paper") rfl)⟩
  have D_l7_order : Df K mg "_law_order" s_l7_order := by
    obtain ⟨fd, F⟩ := c.def_ 12 (d := dd_l7_order) rfl
    exact ⟨_, fd, F, He.glo_ok X G (c.fact 12 (f := .glo "_law_order") rfl)⟩
  have D_l7_is_prime : Df K mg "_law_is_prime" s_l7_is_prime := by
    obtain ⟨fd, F⟩ := c.def_ 13 (d := dd_l7_is_prime) rfl
    exact ⟨_, fd, F, He.glo_ok X G (c.fact 13 (f := .glo "_law_is_prime") rfl)⟩
  have D_l7_primes : Df K mg "_law_primes" s_l7_primes := by
    obtain ⟨fd, F⟩ := c.def_ 14 (d := dd_l7_primes) rfl
    exact ⟨_, fd, F, He.glo_ok X G (c.fact 14 (f := .glo "_law_primes") rfl)⟩
  have D_l7_odd : Df K mg "_law_odd" s_l7_odd := by
    obtain ⟨fd, F⟩ := c.def_ 15 (d := dd_l7_odd) rfl
    exact ⟨_, fd, F, He.glo_ok X G (c.fact 15 (f := .glo "_law_odd") rfl)⟩
  have D_l7_bent : Df K mg "_law_bent" s_l7_bent := by
    obtain ⟨fd, F⟩ := c.def_ 16 (d := dd_l7_bent) rfl
    exact ⟨_, fd, F, He.glo_ok X G (c.fact 16 (f := .glo "_law_bent") rfl)⟩
  have D_l7_truth : Df K mg "_law_truth" s_l7_truth := by
    obtain ⟨fd, F⟩ := c.def_ 17 (d := dd_l7_truth) rfl
    exact ⟨_, fd, F, He.glo_ok X G (c.fact 17 (f := .glo "_law_truth") rfl)⟩
  obtain ⟨fd, Fl⟩ := c.def_ 18 (d := dd_law) rfl
  have e := hfa.symm.trans (He.glo_ok X G (c.fact 18 (f := .glo "law") rfl))
  cases e
  have bd := FunD.bindsA (ps := ["_law_script"]) Fl fun _ _ _ _ _ _ us hl => match us, hl with | [_], _ => rfl
  refine ⟨fd, fun s v => bd s [v] rfl, fun base _ _ => ?_⟩
  have c_l_bag : Cal P w K mg base "_law_bag" 1 1 sp_l_bag := (d_l_bag D_l_bag b_abs).spec ok_l_bag
  have c_l_take : Cal P w K mg base "_law_take" 1 2 sp_l_take := (d_l_take D_l_take b_len b_int).spec ok_l_take
  have c_l_one : Cal P w K mg base "_law_one" 2 2 sp_l_one := (d_l_one D_l_one b_len c_l_take).spec ok_l_one
  have c_l7_divisor : Cal P w K mg base "_law_divisor" 1 2 sp_l7_divisor := (d_l7_divisor D_l7_divisor b_int).spec ok_l7_divisor
  have c_lk_alike : Cal P w K mg base "_law_alike" 1 2 sp_lk_alike := (d_lk_alike D_lk_alike b_repr sys_).spec ok_lk_alike
  have c_p_common : Cal P w K mg base "common" 1 2 sp_p_common := (d_p_common D_p_common).spec ok_p_common
  have c_p_order_of : Cal P w K mg base "order_of" 1 2 sp_p_order_of := (d_p_order_of D_p_order_of).spec ok_p_order_of
  have c_p_primes_of : Cal P w K mg base "primes_of" 1 1 sp_p_primes_of := (d_p_primes_of D_p_primes_of).spec ok_p_primes_of
  have c_pr_order_paper : Cal P w K mg base "order_paper" 2 2 sp_pr_order_paper := (d_pr_order_paper D_pr_order_paper b_super er2_NoOrder c_p_common c_p_order_of c_p_primes_of).spec ok_pr_order_paper
  have c_l7_told : Cal P w K mg base "_law_told" 3 2 sp_l7_told := (d_l7_told D_l7_told b_isinstance g_PupilError cat_PupilError ise_ g_NoOrder xf_modulus xf_base c_pr_order_paper).spec ok_l7_told
  have c_p_is_integer : Cal P w K mg base "is_integer" 1 1 sp_p_is_integer := (d_p_is_integer D_p_is_integer b_isinstance b_int b_bool).spec ok_p_is_integer
  have c_p_is_order_paper : Cal P w K mg base "is_order_paper" 3 3 sp_p_is_order_paper := (d_p_is_order_paper D_p_is_order_paper b_isinstance b_tuple b_len b_list b_all c_p_common c_p_is_integer c_pr_order_paper).spec ok_p_is_order_paper
  have c_l7_order : Cal P w K mg base "_law_order" 1 2 sp_l7_order := (d_l7_order D_l7_order b_int).spec ok_l7_order
  have c_l7_is_prime : Cal P w K mg base "_law_is_prime" 1 1 sp_l7_is_prime := (d_l7_is_prime D_l7_is_prime b_range b_int).spec ok_l7_is_prime
  have c_l7_primes : Cal P w K mg base "_law_primes" 2 1 sp_l7_primes := (d_l7_primes D_l7_primes b_range b_int c_l7_is_prime).spec ok_l7_primes
  have c_l7_odd : Cal P w K mg base "_law_odd" 3 1 sp_l7_odd := (d_l7_odd D_l7_odd b_range c_l_one).spec ok_l7_odd
  have c_l7_bent : Cal P w K mg base "_law_bent" 4 3 sp_l7_bent := (d_l7_bent D_l7_bent b_len b_tuple b_enumerate b_list c_l_take c_l7_odd c_l_one).spec ok_l7_bent
  have c_l7_truth : Cal P w K mg base "_law_truth" 1 2 sp_l7_truth := (d_l7_truth D_l7_truth).spec ok_l7_truth
  exact g_law Fl b_range b_int b_list b_repr sys_ c_l_bag c_l_take c_l_one c_l7_divisor c_lk_alike c_l7_told c_p_is_order_paper c_l7_order c_l7_primes c_l7_bent c_l7_truth
end Law
open PyProof.Rows PySem.Calls PySem.W PySem
theorem PySem.Challenge.cw_pupilpairs_k84_orders_with_their_primes_holds : PySem.Challenge.rw_pupilpairs_k84_orders_with_their_primes.Holds := by
  w_on; o_law
  refine HandSHeadRun.head_any (r := OpenLaw.row PySem.Challenge.rw_pupilpairs_k84_orders_with_their_primes) (q := view (OpenLaw.row PySem.Challenge.rw_pupilpairs_k84_orders_with_their_primes).prog [25]) (H := Law0.hkL) (ob := Law0.obL) (M := 8000) (loose := Law0.loose) (d := HandSHeadRun.topDef (OpenLaw.row PySem.Challenge.rw_pupilpairs_k84_orders_with_their_primes).prog 25) (kwd := []) Law0.obL_eq
    (by kernel_rfl) (fun s => by kernel_rfl) Law0.run (by kernel_rfl) (by kernel_rfl) (by kernel_rfl) (by rfl) (by first | assumption | decide +kernel) (by decide +kernel) ⟨rfl, rfl, rfl, rfl, rfl, by decide +kernel⟩ ?hw ?hc
  case hw => w_witness2
  case hc =>
    refine Sh.walkG (l := PySem.Challenge.rw_pupilpairs_k84_orders_with_their_primes) (n := 63) (k := 5) (x := "_law_script") rfl (by decide) (by kernel_rfl) ⟨rfl, by decide, by decide⟩ ?T
    intro w mg fa h Y G hmg0
    obtain ⟨K, KX, c⟩ := Y
    have hmg : mg ("law" : PySem.Str) = some (.ref fa) := by
      have e : (HandSHeadRun.topDef (OpenLaw.row PySem.Challenge.rw_pupilpairs_k84_orders_with_their_primes).prog 25).name = ("law" : PySem.Str) := by kernel_rfl
      rw [← e]
      exact hmg0
    obtain ⟨fd, hb, hF⟩ := Law.facts (P := (PySem.Challenge.rw_pupilpairs_k84_orders_with_their_primes).prog) (w := w) KX G hmg c (by kernel_rfl) (by kernel_rfl)
    exact ⟨K, fd, Sh.bodyI 14 Sh.ib_law, KX, hb, fun ns hl => Sh.pure_law ns hl, hF⟩
