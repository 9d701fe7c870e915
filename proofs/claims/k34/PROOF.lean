import PyProof.Rows.All
import Wide.All
import OpenK.AllK
import Wide.FinOn
import HandS.ForMost
import HandS.ForExc
import HandS.Wide
import HandS.Defaults
import HandS.HeadHook1
import HandS.HeadHook4
import HandS.Lambda
import HandS.Flow
import HandS.TupAny
import HandS.Style
import HandS.Deep
import HandS.NoneIn
import HandS.More
import HandS.Comp
import HandS.IsInst
import HandS.RaiseMore
import HandS.Conv
import HandS.SortInts
import PyProof.ReprRoads
import HandS.Ends
import HandS.HeadEnd
import HandS.HeadHook2
import HandS.HeadHook3
import HandS.Head0
import HandS.Head1
import HandS.Head2
import HandS.SortRule
import HandS.Property
import HandS.IterVal
import HandS.OwnEq
import KE.KOpsOwn
import KE.KOwnIter
import PyProof.InstNe
import HandS.Star
import KE.KExcLine
import HandS.ExcInit
import HandS.ExcField
import HandS.ExcIs
import KE.KExcIs
import HandS.HotCalls
import HandS.EndTab
import HandS.DeepEq
import PyProof.MaxThree
import PyProof.MeetsIn
import KE.KIndexOf
import HandS.Sort
import HandS.OwnIter
import KE.SortData
import HandS.Zip
import KE.DataMinMax
import HandS.DictComp
import KE.KDictPairs
import PyProof.EqAt
import PyProof.NeKinds
import PyProof.FactsAll.dict
import PySem.Challenge.RW_pupilpairs_k34_stretches_judged
import PyProof.ReprLen
import PyProof.Rows.ReprOcc
set_option Elab.async false
set_option linter.all false
set_option maxRecDepth 100000
set_option maxHeartbeats 0
namespace Sh
open PySem L2

inductive W where
  | non | bl (b : Bool) | int (i : Int) | str (x : Str)
  | tup (xs : List W) | lst (xs : List W) | dct (kvs : List (Key × W)) | dcT (kvs : List (List Key × W))
  | obj (C : Str) (fs : List (Str × W)) | exn (C : Str) (fs : List (Str × W)) (a : Addr) (d : Option Addr) | ref (a : Addr) | ty (n : String) | scr (ns : List Int) | glo (n : Str)
/-- an object that may be written -/
inductive SO where
  | lst (ws : List W) | dct (kvs : List (Key × W)) | dcT (kvs : List (List Key × W)) | ins (C : Str) (fs : List (Str × W)) | tbl (a : Addr) (d : Str)
inductive Slot where
  | none | val (w : W) | own (o : SO)
abbrev Sto := Addr → Option SO
structure Stt where
  ρ : List Slot
  S : Sto
/-- a result: a value; a new object that nobody else holds -/
inductive R where
  | val (w : W) | new (o : SO)
def SO.fz : SO → W
  | .lst ws => .lst ws
  | .dct kvs => .dct kvs
  | .dcT kvs => .dcT kvs
  | .ins C fs => .obj C fs
  | .tbl a _ => .ref a
def R.fz : R → W
  | .val w => w
  | .new o => o.fz

def FzL (Lv : Addr → Prop) (H : Hp) (a : Addr) (xs : List V) : Prop := H a = some (.lst xs) ∧ ¬ Lv a
/-- the script: read, never written -/
def FzS (K : PySem.W.Frag) (Lv : Addr → Prop) (H : Hp) (a : Addr) (xs : List V) : Prop :=
  ((∃ o, H a = some (.frz o (.lst xs))) ∧ ¬ Lv a) ∨ FzL Lv H a xs ∨ ∃ (o : Obj) (its : Array Value) (n : Nat), K.lookup a = some o ∧ o.cls = .type "list" ∧ o.dict = none ∧ o.data = .seq its n ∧ its.size ≤ sizeLine ∧ Vals xs its.toList
def FzT (K : PySem.W.Frag) (Lv : Addr → Prop) (H : Hp) (a : Addr) (xs : List V) : Prop :=
  (H a = some (.tup xs) ∧ ¬ Lv a) ∨ ∃ (o : Obj) (its : Array Value) (n : Nat), K.lookup a = some o ∧ o.cls = .type "tuple" ∧ o.data = .seq its n ∧ its.size ≤ sizeLine ∧ Vals xs its.toList
theorem FzL.sq {K : PySem.W.Frag} {Lv : Addr → Prop} {H : Hp} {a : Addr} {xs : List V} (h : FzL Lv H a xs) : SqL K H a xs := SqL.of h.1
theorem FzS.sq {K : PySem.W.Frag} {Lv : Addr → Prop} {H : Hp} {a : Addr} {xs : List V} (h : FzS K Lv H a xs) : SqL K H a xs := by
  rcases h with ⟨h, _⟩ | h | h
  · exact .inl (.inr h)
  · exact h.sq
  · exact .inr h
theorem FzT.sq {K : PySem.W.Frag} {Lv : Addr → Prop} {H : Hp} {a : Addr} {xs : List V} (h : FzT K Lv H a xs) : SqT K H a xs := h.imp (fun z => .inl z.1) id
mutual
inductive RelW (K : PySem.W.Frag) (Lv : Addr → Prop) (H : Hp) : W → V → Prop
  | non : RelW K Lv H .non .non
  | bl (b : Bool) : RelW K Lv H (.bl b) (.bl b)
  | int (i : Int) : RelW K Lv H (.int i) (.int i)
  | str (x : Str) : RelW K Lv H (.str x) (.str x)
  | ty (n : String) : RelW K Lv H (.ty n) (.ty n)
  | ref (a : Addr) : RelW K Lv H (.ref a) (.ref a)
  | glo (n : Str) : RelW K Lv H (.glo n) (.ref (He.ga K n))
  | tup {a : Addr} {ws : List W} {vs : List V} : FzT K Lv H a vs → RelWs K Lv H ws vs → RelW K Lv H (.tup ws) (.ref a)
  | scr {a : Addr} {ns : List Int} : FzS K Lv H a (ns.map V.int) → RelW K Lv H (.scr ns) (.ref a)
  | lst {a : Addr} {ws : List W} {vs : List V} : FzL Lv H a vs → RelWs K Lv H ws vs → RelW K Lv H (.lst ws) (.ref a)
  | dct {a : Addr} {ws : List (Key × W)} {vs : List (Key × V)} : H a = some (.dK vs) → ¬ Lv a → RelKs K Lv H ws vs → RelW K Lv H (.dct ws) (.ref a)
  | dcT {a : Addr} {ws : List (List Key × W)} {vs : List (List Key × V)} : H a = some (.dT vs) → ¬ Lv a → RelTs K Lv H ws vs → RelW K Lv H (.dcT ws) (.ref a)
  | obj {a dx : Addr} {C : Str} {ws : List (Str × W)} {vs : List (Str × V)} : H a = some (.ins (He.ga K C) dx vs) → ¬ Lv a → RelFs K Lv H ws vs → RelW K Lv H (.obj C ws) (.ref a)
  | exn0 {a : Addr} {C : Str} : RelW K Lv H (.exn C [] a none) (.ref a)
  | exn1 {a dd : Addr} {C : Str} {ws : List (Str × W)} {vs : List (Str × V)} : H dd = some (.xd vs) → ¬ Lv dd → RelFs K Lv H ws vs → RelW K Lv H (.exn C ws a (some dd)) (.ref a)
inductive RelWs (K : PySem.W.Frag) (Lv : Addr → Prop) (H : Hp) : List W → List V → Prop
  | nil : RelWs K Lv H [] []
  | cons {w : W} {v : V} {ws : List W} {vs : List V} : RelW K Lv H w v → RelWs K Lv H ws vs → RelWs K Lv H (w :: ws) (v :: vs)
inductive RelKs (K : PySem.W.Frag) (Lv : Addr → Prop) (H : Hp) : List (Key × W) → List (Key × V) → Prop
  | nil : RelKs K Lv H [] []
  | cons {k : Key} {w : W} {v : V} {ws : List (Key × W)} {vs : List (Key × V)} : RelW K Lv H w v → RelKs K Lv H ws vs → RelKs K Lv H ((k, w) :: ws) ((k, v) :: vs)
inductive RelTs (K : PySem.W.Frag) (Lv : Addr → Prop) (H : Hp) : List (List Key × W) → List (List Key × V) → Prop
  | nil : RelTs K Lv H [] []
  | cons {k : List Key} {w : W} {v : V} {ws : List (List Key × W)} {vs : List (List Key × V)} : RelW K Lv H w v → RelTs K Lv H ws vs → RelTs K Lv H ((k, w) :: ws) ((k, v) :: vs)
inductive RelFs (K : PySem.W.Frag) (Lv : Addr → Prop) (H : Hp) : List (Str × W) → List (Str × V) → Prop
  | nil : RelFs K Lv H [] []
  | cons {k : Str} {w : W} {v : V} {ws : List (Str × W)} {vs : List (Str × V)} : RelW K Lv H w v → RelFs K Lv H ws vs → RelFs K Lv H ((k, w) :: ws) ((k, v) :: vs)
end
/-- what is not live stays, and stays not live -/
def Mv (Lv : Addr → Prop) (H : Hp) (Lv' : Addr → Prop) (H' : Hp) : Prop := ∀ a u, H a = some u → ¬ Lv a → H' a = some u ∧ ¬ Lv' a
section
variable {K : PySem.W.Frag} {Lv Lv' : Addr → Prop} {H H' : Hp}
theorem FzL.mono (m : Mv Lv H Lv' H') {a : Addr} {xs : List V} (h : FzL Lv H a xs) : FzL Lv' H' a xs := m _ _ h.1 h.2
theorem FzS.mono (m : Mv Lv H Lv' H') {a : Addr} {xs : List V} (h : FzS K Lv H a xs) : FzS K Lv' H' a xs := by
  rcases h with ⟨⟨o, h⟩, n⟩ | h | h
  · exact .inl ⟨⟨o, (m _ _ h n).1⟩, (m _ _ h n).2⟩
  · exact .inr (.inl (h.mono m))
  · exact .inr (.inr h)
theorem FzT.mono (m : Mv Lv H Lv' H') {a : Addr} {xs : List V} (h : FzT K Lv H a xs) : FzT K Lv' H' a xs := by
  rcases h with ⟨h, n⟩ | h
  · exact .inl ⟨(m _ _ h n).1, (m _ _ h n).2⟩
  · exact .inr h
mutual
theorem RelW.mono (m : Mv Lv H Lv' H') : ∀ {w : W} {v : V}, RelW K Lv H w v → RelW K Lv' H' w v
  | _, _, .non => .non
  | _, _, .bl b => .bl b
  | _, _, .int i => .int i
  | _, _, .str x => .str x
  | _, _, .ty n => .ty n
  | _, _, .ref a => .ref a
  | _, _, .glo n => .glo n
  | _, _, .tup h r => .tup (h.mono m) (RelWs.mono m r)
  | _, _, .lst h r => .lst (h.mono m) (RelWs.mono m r)
  | _, _, .scr h => .scr (h.mono m)
  | _, _, .dct h n r => .dct (m _ _ h n).1 (m _ _ h n).2 (RelKs.mono m r)
  | _, _, .obj h n r => .obj (m _ _ h n).1 (m _ _ h n).2 (RelFs.mono m r)
  | _, _, .dcT h n r => .dcT (m _ _ h n).1 (m _ _ h n).2 (RelTs.mono m r)
  | _, _, .exn0 => .exn0
  | _, _, .exn1 h n r => .exn1 (m _ _ h n).1 (m _ _ h n).2 (RelFs.mono m r)
theorem RelWs.mono (m : Mv Lv H Lv' H') : ∀ {ws : List W} {vs : List V}, RelWs K Lv H ws vs → RelWs K Lv' H' ws vs
  | _, _, .nil => .nil
  | _, _, .cons h r => .cons (RelW.mono m h) (RelWs.mono m r)
theorem RelKs.mono (m : Mv Lv H Lv' H') : ∀ {ws : List (Key × W)} {vs : List (Key × V)}, RelKs K Lv H ws vs → RelKs K Lv' H' ws vs
  | _, _, .nil => .nil
  | _, _, .cons h r => .cons (RelW.mono m h) (RelKs.mono m r)
theorem RelTs.mono (m : Mv Lv H Lv' H') : ∀ {ws : List (List Key × W)} {vs : List (List Key × V)}, RelTs K Lv H ws vs → RelTs K Lv' H' ws vs
  | _, _, .nil => .nil
  | _, _, .cons h r => .cons (RelW.mono m h) (RelTs.mono m r)
theorem RelFs.mono (m : Mv Lv H Lv' H') : ∀ {ws : List (Str × W)} {vs : List (Str × V)}, RelFs K Lv H ws vs → RelFs K Lv' H' ws vs
  | _, _, .nil => .nil
  | _, _, .cons h r => .cons (RelW.mono m h) (RelFs.mono m r)
end
theorem RelWs.length : ∀ {ws : List W} {vs : List V}, RelWs K Lv H ws vs → ws.length = vs.length
  | _, _, .nil => rfl
  | _, _, .cons _ r => congrArg Nat.succ (RelWs.length r)
theorem RelWs.get : ∀ {ws : List W} {vs : List V} {i : Nat} {w : W}, RelWs K Lv H ws vs → ws[i]? = some w → ∃ v, vs[i]? = some v ∧ RelW K Lv H w v
  | _, _, _, _, .nil, e => by simp at e
  | _, _, 0, _, .cons h _, e => by
    have e2 := Option.some.inj e
    subst e2
    exact ⟨_, rfl, h⟩
  | _, _, i + 1, w, .cons _ r, e => RelWs.get (i := i) r (by simpa using e)
theorem RelWs.append : ∀ {ws ws' : List W} {vs vs' : List V}, RelWs K Lv H ws vs → RelWs K Lv H ws' vs' → RelWs K Lv H (ws ++ ws') (vs ++ vs')
  | _, _, _, _, .nil, s => s
  | _, _, _, _, .cons h r, s => .cons h (RelWs.append r s)
end
/-- the name of a lambda of a def -/
def lamN (d : Str) : Str := d ++ ".<locals>." ++ "<lambda>"
/-- the table of the lambdas of the def d -/
def TabO (K : PySem.W.Frag) (Lv : Addr → Prop) (H : Hp) (a : Addr) (d : Str) : Prop := a = (He.cT K (d, none)).2 ∧ ∃ ps : Array Value, H a = some (.tbl ps) ∧ TriplesOk ps.toList ∧ ∀ (pos : Pos) (cv : Value), codeAmong pos ps.toList = some cv → ∃ c, cv = .ref c ∧ H c = some (LamX.CodeO c (lamN d)) ∧ ¬ Lv c
/-- what stands at an address that may be written -/
def RelO (K : PySem.W.Frag) (Lv : Addr → Prop) (H : Hp) (a : Addr) : SO → Prop
  | .lst ws => ∃ vs, H a = some (.lst vs) ∧ RelWs K Lv H ws vs
  | .dct kvs => ∃ vs, H a = some (.dK vs) ∧ RelKs K Lv H kvs vs
  | .dcT kvs => ∃ vs, H a = some (.dT vs) ∧ RelTs K Lv H kvs vs
  | .ins C fs => ∃ dx vs, H a = some (.ins (He.ga K C) dx vs) ∧ RelFs K Lv H fs vs
  | .tbl b d => a = b ∧ TabO K Lv H a d
theorem RelO.at {K : PySem.W.Frag} {Lv : Addr → Prop} {H : Hp} {a : Addr} {o : SO} (h : RelO K Lv H a o) : ∃ u, H a = some u := by
  cases o with
  | lst ws => obtain ⟨vs, e, _⟩ := h; exact ⟨_, e⟩
  | dct ws => obtain ⟨vs, e, _⟩ := h; exact ⟨_, e⟩
  | dcT ws => obtain ⟨vs, e, _⟩ := h; exact ⟨_, e⟩
  | ins C ws => obtain ⟨dx, vs, e, _⟩ := h; exact ⟨_, e⟩
  | tbl b d => obtain ⟨_, _, ps, e, _⟩ := h; exact ⟨_, e⟩
theorem RelO.move {K : PySem.W.Frag} {Lv Lv' : Addr → Prop} {H H' : Hp} {a : Addr} {o : SO} (h : RelO K Lv H a o) (e : ∀ u, H a = some u → H' a = some u) (m : Mv Lv H Lv' H') : RelO K Lv' H' a o := by
  cases o with
  | lst ws => obtain ⟨vs, q, r⟩ := h; exact ⟨vs, e _ q, r.mono m⟩
  | dct ws => obtain ⟨vs, q, r⟩ := h; exact ⟨vs, e _ q, r.mono m⟩
  | dcT ws => obtain ⟨vs, q, r⟩ := h; exact ⟨vs, e _ q, r.mono m⟩
  | ins C ws => obtain ⟨dx, vs, q, r⟩ := h; exact ⟨dx, vs, e _ q, r.mono m⟩
  | tbl b d =>
    obtain ⟨e0, e1, ps, q, r1, r2⟩ := h
    refine ⟨e0, e1, ps, e _ q, r1, fun pos cv hc => ?_⟩
    obtain ⟨c, e2, e3, e4⟩ := r2 pos cv hc
    exact ⟨c, e2, (m _ _ e3 e4).1, (m _ _ e3 e4).2⟩
theorem RelO.fz {K : PySem.W.Frag} {Lv : Addr → Prop} {H : Hp} {a : Addr} {o : SO} (h : RelO K Lv H a o) (n : ¬ Lv a) : RelW K Lv H o.fz (.ref a) := by
  cases o with
  | lst ws => obtain ⟨vs, q, r⟩ := h; exact .lst ⟨q, n⟩ r
  | dct ws => obtain ⟨vs, q, r⟩ := h; exact .dct q n r
  | dcT ws => obtain ⟨vs, q, r⟩ := h; exact .dcT q n r
  | ins C ws => obtain ⟨dx, vs, q, r⟩ := h; exact .obj q n r
  | tbl b d => obtain ⟨e0, _⟩ := h; rw [e0]; exact .ref b

/-- the addresses of the objects that slots own -/
def Ow (ρ : List Slot) (σ : St) (a : Addr) : Prop := ∃ (i : Nat) (o : SO), ρ[i]? = some (.own o) ∧ σ[i]? = some (some (.ref a))
/-- may be written by us -/
def Wr (st : Stt) (σ : St) (a : Addr) : Prop := st.S a ≠ none ∨ Ow st.ρ σ a
def Live (F : Addr → Prop) (st : Stt) (σ : St) (a : Addr) : Prop := Wr st σ a ∨ F a
structure Lk (K : PySem.W.Frag) (F : Addr → Prop) (st : Stt) (σ : St) (H : Hp) : Prop where
  len : st.ρ.length = σ.length
  val : ∀ (i : Nat) (w : W), st.ρ[i]? = some (.val w) → ∃ v, σ[i]? = some (some v) ∧ RelW K (Live F st σ) H w v
  own : ∀ (i : Nat) (o : SO), st.ρ[i]? = some (.own o) → ∃ a, σ[i]? = some (some (.ref a)) ∧ RelO K (Live F st σ) H a o ∧ st.S a = none ∧ ¬ F a
  inj : ∀ (i j : Nat) (o o' : SO) (a : Addr), st.ρ[i]? = some (.own o) → st.ρ[j]? = some (.own o') → σ[i]? = some (some (.ref a)) → σ[j]? = some (some (.ref a)) → i = j
  sto : ∀ a o, st.S a = some o → RelO K (Live F st σ) H a o
  ftr : ∀ a, F a → ∃ u, H a = some u
  fdis : ∀ a, F a → st.S a = none
structure Step (st : Stt) (σ : St) (H : Hp) (st' : Stt) (σ' : St) (H' : Hp) : Prop where
  keep : ∀ a u, H a = some u → ¬ Wr st σ a → H' a = some u
  new : ∀ a, Wr st' σ' a → Wr st σ a ∨ H a = none
theorem Step.refl {st : Stt} {σ : St} {H : Hp} : Step st σ H st σ H := ⟨fun _ _ e _ => e, fun _ w => .inl w⟩
theorem Step.trans {st st1 st2 : Stt} {σ σ1 σ2 : St} {H H1 H2 : Hp} (a : Step st σ H st1 σ1 H1) (b : Step st1 σ1 H1 st2 σ2 H2) : Step st σ H st2 σ2 H2 := by
  refine ⟨fun x u e n => b.keep x u (a.keep x u e n) fun w => ?_, fun x w => ?_⟩
  · rcases a.new x w with z | z
    · exact n z
    · rw [e] at z; cases z
  · rcases b.new x w with z | z
    · exact a.new x z
    · by_cases h : Wr st σ x
      · exact .inl h
      · cases e : H x with
        | none => exact .inr rfl
        | some u =>
          rw [a.keep x u e h] at z
          cases z
theorem Step.mv {F : Addr → Prop} {st st' : Stt} {σ σ' : St} {H H' : Hp} (s : Step st σ H st' σ' H') : Mv (Live F st σ) H (Live F st' σ') H' := fun a u e n =>
  ⟨s.keep a u e fun w => n (.inl w), fun l => by
    rcases l with l | l
    · rcases s.new a l with z | z
      · exact n (.inl z)
      · rw [e] at z; cases z
    · exact n (.inr l)⟩
section
variable {K : PySem.W.Frag} {F : Addr → Prop} {st st' : Stt} {σ σ' : St} {H H' : Hp}
theorem Lk.wtr (l : Lk K F st σ H) {a : Addr} (w : Wr st σ a) : ∃ u, H a = some u := by
  rcases w with w | ⟨i, o, e1, e2⟩
  · cases e : st.S a with
    | none => exact absurd e w
    | some o => exact (l.sto a o e).at
  · obtain ⟨b, e3, r, _⟩ := l.own i o e1
    rw [e2] at e3
    cases e3
    exact r.at
theorem Lk.fresh (l : Lk K F st σ H) {a : Addr} (e : H a = none) : ¬ Live F st σ a := fun z => by
  rcases z with z | z
  · obtain ⟨u, q⟩ := l.wtr z
    rw [e] at q; cases q
  · obtain ⟨u, q⟩ := l.ftr a z
    rw [e] at q; cases q
/-- a new object, tracked, that is nobody's -/
theorem Step.laid (l : Lk K F st σ H) {p : Addr} {o : HO} (e : H p = none) : Step st σ H st σ (upd H p o) :=
  ⟨fun a u q _ => by rw [upd_ne (ne_of_none q e)]; exact q, fun _ w => .inl w⟩
theorem Lk.laid (l : Lk K F st σ H) {p : Addr} {o : HO} (e : H p = none) : Lk K F st σ (upd H p o) := by
  have s : Step st σ H st σ (upd H p o) := Step.laid l e
  have k : ∀ a u, H a = some u → upd H p o a = some u := fun a u q => by rw [upd_ne (ne_of_none q e)]; exact q
  refine ⟨l.len, fun i w q => ?_, fun i o q => ?_, l.inj, fun a o q => (l.sto a o q).move (k a) s.mv, fun a q => ?_, l.fdis⟩
  · obtain ⟨v, e1, r⟩ := l.val i w q
    exact ⟨v, e1, r.mono s.mv⟩
  · obtain ⟨a, e1, r, n1, n2⟩ := l.own i o q
    exact ⟨a, e1, r.move (k a) s.mv, n1, n2⟩
  · obtain ⟨u, z⟩ := l.ftr a q
    exact ⟨u, k a u z⟩
theorem FzT.new (l : Lk K F st σ H) {p : Addr} {vs : List V} (e : H p = none) : FzT K (Live F st σ) (upd H p (.tup vs)) p vs := .inl ⟨upd_same, l.fresh e⟩
theorem FzL.new (l : Lk K F st σ H) {p : Addr} {vs : List V} (e : H p = none) : FzL (Live F st σ) (upd H p (.lst vs)) p vs := ⟨upd_same, l.fresh e⟩
/-- fewer are foreign -/
theorem Lk.less {F' : Addr → Prop} (l : Lk K F st σ H) (h : ∀ a, F' a → F a) : Lk K F' st σ H := by
  have m : Mv (Live F st σ) H (Live F' st σ) H := fun a u e n => ⟨e, fun z => n (z.imp id (h a))⟩
  refine ⟨l.len, fun i w q => ?_, fun i o q => ?_, l.inj, fun a o q => (l.sto a o q).move (fun _ e => e) m, fun a q => l.ftr a (h a q), fun a q => l.fdis a (h a q)⟩
  · obtain ⟨v, e1, r⟩ := l.val i w q
    exact ⟨v, e1, r.mono m⟩
  · obtain ⟨a, e1, r, n1, n2⟩ := l.own i o q
    exact ⟨a, e1, r.move (fun _ e => e) m, n1, fun z => n2 (h a z)⟩
end
end Sh
namespace Sh
open PySem L2

structure Exn where
  C : Str
  fs : List (Str × W)
abbrev XI := Exn → Stt → Prop
abbrev IE := XI → Stt → (W → Stt → Prop) → Prop
abbrev IN := XI → Stt → (SO → Stt → Prop) → Prop
abbrev IT := XI → Stt → (Bool → Stt → Prop) → Prop
abbrev IA := XI → Stt → (List W → Stt → Prop) → Prop
structure IEnds where
  nx : Stt → Prop
  rt : R → Sto → Prop
  bk : Stt → Prop := fun _ => False
  ct : Stt → Prop := fun _ => False
abbrev IS := XI → IEnds → Stt → Prop
abbrev ISp := List W → Sto → (R → Sto → Prop) → (Exn → Sto → Prop) → Prop

/-- nobody else can know it -/
def NewAt (st : Stt) (σ : St) (H : Hp) (a : Addr) : Prop := Wr st σ a ∨ H a = none
def FA (F : Addr → Prop) (a : Addr) : Addr → Prop := fun b => F b ∨ b = a
def RelX (K : PySem.W.Frag) (Lv : Addr → Prop) (H : Hp) (x : Exn) (cls : Value) (d : Option Addr) : Prop :=
  cls = .ref (He.ga K x.C) ∧ ((x.fs = [] ∧ d = none) ∨ ∃ a vs, d = some a ∧ H a = some (.xd vs) ∧ ¬ Lv a ∧ RelFs K Lv H x.fs vs)
/-- an error leaves an expression: the slots are as they were -/
def UpX (K : PySem.W.Frag) (F : Addr → Prop) (Wx : WX) (st : Stt) (σ : St) (H : Hp) (EI : XI) : Prop :=
  ∀ x st' cls d H', EI x st' → Lk K F st' σ H' → Step st σ H st' σ H' → RelX K (Live F st' σ) H' x cls d → Wx cls d σ H'
/-- an error leaves a statement -/
def UpXs (K : PySem.W.Frag) (F : Addr → Prop) (Wx : WX) (st : Stt) (σ : St) (H : Hp) (EI : XI) : Prop :=
  ∀ x st' σ' cls d H', EI x st' → Lk K F st' σ' H' → Step st σ H st' σ' H' → RelX K (Live F st' σ') H' x cls d → Wx cls d σ' H'
def LE (K : PySem.W.Frag) (F : Addr → Prop) (Wx : WX) (i : IE) : TE := fun σ H Q => ∃ st QI EI, Lk K F st σ H ∧ i EI st QI ∧ UpX K F Wx st σ H EI ∧
  ∀ w st' v H', QI w st' → Lk K F st' σ H' → Step st σ H st' σ H' → RelW K (Live F st' σ) H' w v → Q v H'
def LT (K : PySem.W.Frag) (F : Addr → Prop) (Wx : WX) (i : IT) : TT := fun σ H Q => ∃ st QI EI, Lk K F st σ H ∧ i EI st QI ∧ UpX K F Wx st σ H EI ∧
  ∀ b st' H', QI b st' → Lk K F st' σ H' → Step st σ H st' σ H' → Q b H'
def LA (K : PySem.W.Frag) (F : Addr → Prop) (Wx : WX) (n : Nat) (i : IA) : TA := fun σ H Q => ∃ st QI EI, Lk K F st σ H ∧ i EI st QI ∧ UpX K F Wx st σ H EI ∧
  ∀ ws st' vs H', ws.length = n → QI ws st' → Lk K F st' σ H' → Step st σ H st' σ H' → RelWs K (Live F st' σ) H' ws vs → Q vs H'
def LN (K : PySem.W.Frag) (F : Addr → Prop) (Wx : WX) (i : IN) : TE := fun σ H Q => ∃ st QI EI, Lk K F st σ H ∧ i EI st QI ∧ UpX K F Wx st σ H EI ∧
  ∀ o st' a H', QI o st' → Lk K (FA F a) st' σ H' → Step st σ H st' σ H' → RelO K (Live (FA F a) st' σ) H' a o → NewAt st σ H a → Q (.ref a) H'
def RetOk (K : PySem.W.Frag) (F : Addr → Prop) (st : Stt) (σ : St) (H : Hp) (r : R) (S' : Sto) (v : V) (H' : Hp) : Prop :=
  Step st σ H ⟨[], S'⟩ [] H' ∧ match r with
    | .val w => Lk K F ⟨[], S'⟩ [] H' ∧ RelW K (Live F ⟨[], S'⟩ []) H' w v
    | .new o => ∃ a, v = .ref a ∧ Lk K (FA F a) ⟨[], S'⟩ [] H' ∧ RelO K (Live (FA F a) ⟨[], S'⟩ []) H' a o ∧ NewAt st σ H a
structure Up (K : PySem.W.Frag) (F : Addr → Prop) (Wx : WX) (st : Stt) (σ : St) (H : Hp) (EI : XI) (DI : IEnds) (D : Ends) : Prop where
  xs : UpXs K F Wx st σ H EI
  nx : ∀ st' σ' H', DI.nx st' → Lk K F st' σ' H' → Step st σ H st' σ' H' → D.nx σ' H'
  bk : ∀ st' σ' H', DI.bk st' → Lk K F st' σ' H' → Step st σ H st' σ' H' → D.bk σ' H'
  ct : ∀ st' σ' H', DI.ct st' → Lk K F st' σ' H' → Step st σ H st' σ' H' → D.ct σ' H'
  rt : ∀ r S' v H', DI.rt r S' → RetOk K F st σ H r S' v H' → D.rt v H'
def LS (K : PySem.W.Frag) (F : Addr → Prop) (Wx : WX) (i : IS) : TS := fun D σ H => ∃ st DI EI, Lk K F st σ H ∧ i EI DI st ∧ Up K F Wx st σ H EI DI D

section
variable {K : PySem.W.Frag} {F : Addr → Prop} {Wx : WX} {st st1 : Stt} {σ σ1 : St} {H H1 : Hp} {EI : XI} {DI : IEnds} {D : Ends}
theorem UpX.step (u : UpX K F Wx st σ H EI) (s : Step st σ H st1 σ H1) : UpX K F Wx st1 σ H1 EI := fun x st' cls d H' e l s' r => u x st' cls d H' e l (s.trans s') r
theorem UpXs.step (u : UpXs K F Wx st σ H EI) (s : Step st σ H st1 σ1 H1) : UpXs K F Wx st1 σ1 H1 EI := fun x st' σ' cls d H' e l s' r => u x st' σ' cls d H' e l (s.trans s') r
theorem Up.x (u : Up K F Wx st σ H EI DI D) : UpX K F Wx st σ H EI := fun x st' cls d H' e l s r => u.xs x st' σ cls d H' e l s r
theorem NewAt.step {a : Addr} (s : Step st σ H st1 σ1 H1) (h : NewAt st1 σ1 H1 a) : NewAt st σ H a := by
  rcases h with h | h
  · exact s.new a h
  · by_cases w : Wr st σ a
    · exact .inl w
    · cases q : H a with
      | none => exact .inr q
      | some u =>
        rw [s.keep a u q w] at h
        cases h
theorem NewAt.nf {a : Addr} (l : Lk K F st σ H) (h : NewAt st σ H a) : ¬ F a := fun z => by
  rcases h with (h | ⟨i, o, e1, e2⟩) | h
  · exact h (l.fdis a z)
  · obtain ⟨b, e3, _, _, n⟩ := l.own i o e1
    rw [e2] at e3
    cases e3
    exact n z
  · obtain ⟨u, q⟩ := l.ftr a z
    rw [h] at q
    cases q
theorem RetOk.step {r : R} {S' : Sto} {v : V} {H' : Hp} (s : Step st σ H st1 σ1 H1) (h : RetOk K F st1 σ1 H1 r S' v H') : RetOk K F st σ H r S' v H' := by
  obtain ⟨s', h⟩ := h
  refine ⟨s.trans s', ?_⟩
  cases r with
  | val w => exact h
  | new o =>
    obtain ⟨a, e, l, r, n⟩ := h
    exact ⟨a, e, l, r, n.step s⟩
theorem Up.step (u : Up K F Wx st σ H EI DI D) (s : Step st σ H st1 σ1 H1) : Up K F Wx st1 σ1 H1 EI DI D :=
  ⟨u.xs.step s, fun st' σ' H' q l s' => u.nx st' σ' H' q l (s.trans s'), fun st' σ' H' q l s' => u.bk st' σ' H' q l (s.trans s'), fun st' σ' H' q l s' => u.ct st' σ' H' q l (s.trans s'), fun r S' v H' q h => u.rt r S' v H' q (h.step s)⟩

def Stt.put (st : Stt) (i : Nat) (x : Slot) : Stt := { st with ρ := st.ρ.set i x }
theorem get_set {α : Type} {l : List α} {i j : Nat} {x y : α} (h : (l.set i x)[j]? = some y) : (j = i ∧ y = x ∧ i < l.length) ∨ (j ≠ i ∧ l[j]? = some y) := by
  by_cases e : j = i
  · subst e
    rw [List.getElem?_set_self'] at h
    cases q : l[j]? with
    | none =>
      rw [q] at h
      cases h
    | some z =>
      rw [q] at h
      exact .inl ⟨rfl, (Option.some.inj h).symm, (List.getElem?_eq_some_iff.mp q).1⟩
  · rw [List.getElem?_set_ne (Ne.symm e)] at h
    exact .inr ⟨e, h⟩
theorem set_get {α : Type} {l : List α} {i : Nat} {x : α} (h : i < l.length) : (l.set i x)[i]? = some x := by simp [h]
/-- a slot takes a value -/
theorem Ow.put {ρ : List Slot} {i : Nat} {w : W} {v : V} {a : Addr} (h : Ow (ρ.set i (.val w)) (σ.set i (some v)) a) : Ow ρ σ a := by
  obtain ⟨j, o, e1, e2⟩ := h
  rcases get_set e1 with ⟨_, z, _⟩ | ⟨n, e1⟩
  · cases z
  · rw [List.getElem?_set_ne (Ne.symm n)] at e2
    exact ⟨j, o, e1, e2⟩
theorem Step.put {i : Nat} {w : W} {v : V} : Step st σ H (st.put i (.val w)) (σ.set i (some v)) H :=
  ⟨fun _ _ e _ => e, fun a h => .inl (h.imp id Ow.put)⟩
theorem Lk.put (l : Lk K F st σ H) {i : Nat} {w : W} {v : V} (r : RelW K (Live F st σ) H w v) : Lk K F (st.put i (.val w)) (σ.set i (some v)) H := by
  have s : Step st σ H (st.put i (.val w)) (σ.set i (some v)) H := Step.put
  refine ⟨by simp [Stt.put, l.len], fun j y e => ?_, fun j o e => ?_, fun j k o o' a e1 e2 e3 e4 => ?_, fun a o e => (l.sto a o e).move (fun _ q => q) s.mv, l.ftr, l.fdis⟩
  · rcases get_set e with ⟨rfl, z, b⟩ | ⟨n, e⟩
    · cases z
      exact ⟨v, set_get (by rw [← l.len]; exact b), r.mono s.mv⟩
    · obtain ⟨u, e1, r1⟩ := l.val j y e
      exact ⟨u, by rw [List.getElem?_set_ne (Ne.symm n)]; exact e1, r1.mono s.mv⟩
  · rcases get_set e with ⟨_, z, _⟩ | ⟨n, e⟩
    · cases z
    · obtain ⟨a, e1, r1, n1, n2⟩ := l.own j o e
      exact ⟨a, by rw [List.getElem?_set_ne (Ne.symm n)]; exact e1, r1.move (fun _ q => q) s.mv, n1, n2⟩
  · rcases get_set e1 with ⟨_, z, _⟩ | ⟨n, e1⟩
    · cases z
    · rcases get_set e2 with ⟨_, z, _⟩ | ⟨m, e2⟩
      · cases z
      · rw [List.getElem?_set_ne (Ne.symm n)] at e3
        rw [List.getElem?_set_ne (Ne.symm m)] at e4
        exact l.inj j k o o' a e1 e2 e3 e4
/-- a slot is forgotten -/
theorem Lk.wipe (l : Lk K F st σ H) {i : Nat} {x : Option V} : Lk K F (st.put i .none) (σ.set i x) H ∧ Step st σ H (st.put i .none) (σ.set i x) H := by
  have ow : ∀ a, Ow (st.put i .none).ρ (σ.set i x) a → Ow st.ρ σ a := fun a h => by
    obtain ⟨j, o, e1, e2⟩ := h
    rcases get_set e1 with ⟨_, z, _⟩ | ⟨n, e1⟩
    · cases z
    · rw [List.getElem?_set_ne (Ne.symm n)] at e2
      exact ⟨j, o, e1, e2⟩
  have s : Step st σ H (st.put i .none) (σ.set i x) H := ⟨fun _ _ e _ => e, fun a h => .inl (h.imp id (ow a))⟩
  refine ⟨⟨by simp [Stt.put, l.len], fun j y e => ?_, fun j o e => ?_, fun j k o o' a e1 e2 e3 e4 => ?_, fun a o e => (l.sto a o e).move (fun _ q => q) s.mv, l.ftr, l.fdis⟩, s⟩
  · rcases get_set e with ⟨rfl, z, b⟩ | ⟨n, e⟩
    · cases z
    · obtain ⟨u, e1, r1⟩ := l.val j y e
      exact ⟨u, by rw [List.getElem?_set_ne (Ne.symm n)]; exact e1, r1.mono s.mv⟩
  · rcases get_set e with ⟨_, z, _⟩ | ⟨n, e⟩
    · cases z
    · obtain ⟨a, e1, r1, n1, n2⟩ := l.own j o e
      exact ⟨a, by rw [List.getElem?_set_ne (Ne.symm n)]; exact e1, r1.move (fun _ q => q) s.mv, n1, n2⟩
  · rcases get_set e1 with ⟨_, z, _⟩ | ⟨n, e1⟩
    · cases z
    · rcases get_set e2 with ⟨_, z, _⟩ | ⟨m, e2⟩
      · cases z
      · rw [List.getElem?_set_ne (Ne.symm n)] at e3
        rw [List.getElem?_set_ne (Ne.symm m)] at e4
        exact l.inj j k o o' a e1 e2 e3 e4
/-- an owned object is given free for reading, never to be written again -/
theorem Lk.freeze (l : Lk K F st σ H) {i : Nat} {o : SO} (e : st.ρ[i]? = some (.own o)) : Lk K F (st.put i (.val o.fz)) σ H ∧ Step st σ H (st.put i (.val o.fz)) σ H := by
  obtain ⟨a, ea, ra, na, nf⟩ := l.own i o e
  have hσ : σ.set i (some (.ref a)) = σ := by
    apply List.ext_getElem?
    intro j
    by_cases q : j = i
    · subst q
      rw [List.getElem?_set_self', ea]
      rfl
    · rw [List.getElem?_set_ne (Ne.symm q)]
  have s : Step st σ H (st.put i (.val o.fz)) σ H := by
    have z := Step.put (st := st) (σ := σ) (H := H) (i := i) (w := o.fz) (v := .ref a)
    rw [hσ] at z
    exact z
  have nl : ¬ Live F (st.put i (.val o.fz)) σ a := fun z => by
    rcases z with (z | ⟨j, o', e1, e2⟩) | z
    · exact z na
    · rcases get_set e1 with ⟨_, z, _⟩ | ⟨n, e1⟩
      · cases z
      · exact n (l.inj j i o' o a e1 e e2 ea)
    · exact nf z
  refine ⟨⟨by simp [Stt.put, l.len], fun j y q => ?_, fun j o' q => ?_, fun j k o1 o2 b e1 e2 e3 e4 => ?_, fun b o' q => (l.sto b o' q).move (fun _ q => q) s.mv, l.ftr, l.fdis⟩, s⟩
  · rcases get_set q with ⟨rfl, z, b⟩ | ⟨n, q⟩
    · cases z
      exact ⟨.ref a, ea, (ra.move (fun _ z => z) s.mv).fz nl⟩
    · obtain ⟨u, e1, r1⟩ := l.val j y q
      exact ⟨u, e1, r1.mono s.mv⟩
  · rcases get_set q with ⟨_, z, _⟩ | ⟨n, q⟩
    · cases z
    · obtain ⟨b, e1, r1, n1, n2⟩ := l.own j o' q
      exact ⟨b, e1, r1.move (fun _ q => q) s.mv, n1, n2⟩
  · rcases get_set e1 with ⟨_, z, _⟩ | ⟨n, e1⟩
    · cases z
    · rcases get_set e2 with ⟨_, z, _⟩ | ⟨m, e2⟩
      · cases z
      · exact l.inj j k o1 o2 b e1 e2 e3 e4
/-- a new object goes into a slot -/
theorem Lk.keepNew {a : Addr} {o : SO} {i : Nat} (l : Lk K (FA F a) st σ H) (r : RelO K (Live (FA F a) st σ) H a o) (nF : ¬ F a) : Lk K F (st.put i (.own o)) (σ.set i (some (.ref a))) H := by
  have ow : ∀ b, Ow (st.put i (.own o)).ρ (σ.set i (some (.ref a))) b → Ow st.ρ σ b ∨ b = a := fun b h => by
    obtain ⟨j, o', e1, e2⟩ := h
    rcases get_set e1 with ⟨rfl, _, b⟩ | ⟨n, e1⟩
    · rw [set_get (by rw [← l.len]; exact b)] at e2
      cases e2
      exact .inr rfl
    · rw [List.getElem?_set_ne (Ne.symm n)] at e2
      exact .inl ⟨j, o', e1, e2⟩
  have m : Mv (Live (FA F a) st σ) H (Live F (st.put i (.own o)) (σ.set i (some (.ref a)))) H := fun b u e n => ⟨e, fun z => n (by
    rcases z with (z | z) | z
    · exact .inl (.inl z)
    · rcases ow b z with z | z
      · exact .inl (.inr z)
      · exact .inr (.inr z)
    · exact .inr (.inl z))⟩
  have nS : st.S a = none := l.fdis a (.inr rfl)
  have nO : ∀ (j : Nat) (o' : SO), st.ρ[j]? = some (.own o') → σ[j]? = some (some (.ref a)) → False := fun j o' e1 e2 => by
    obtain ⟨b, e3, _, _, n⟩ := l.own j o' e1
    rw [e2] at e3
    cases e3
    exact n (.inr rfl)
  refine ⟨by simp [Stt.put, l.len], fun j y q => ?_, fun j o' q => ?_, fun j k o1 o2 b e1 e2 e3 e4 => ?_, fun b o' q => (l.sto b o' q).move (fun _ q => q) m, fun b q => l.ftr b (.inl q), fun b q => l.fdis b (.inl q)⟩
  · rcases get_set q with ⟨_, z, _⟩ | ⟨n, q⟩
    · cases z
    · obtain ⟨u, e1, r1⟩ := l.val j y q
      exact ⟨u, by rw [List.getElem?_set_ne (Ne.symm n)]; exact e1, r1.mono m⟩
  · rcases get_set q with ⟨rfl, z, b⟩ | ⟨n, q⟩
    · cases z
      refine ⟨a, set_get (by rw [← l.len]; exact b), r.move (fun _ q => q) m, nS, nF⟩
    · obtain ⟨b, e1, r1, n1, n2⟩ := l.own j o' q
      exact ⟨b, by rw [List.getElem?_set_ne (Ne.symm n)]; exact e1, r1.move (fun _ q => q) m, n1, fun z => n2 (.inl z)⟩
  · rcases get_set e1 with ⟨q1, z1, b1⟩ | ⟨n, e1⟩
    · rw [q1, set_get (by rw [← l.len]; exact b1)] at e3
      cases e3
      rcases get_set e2 with ⟨q2, z, _⟩ | ⟨m', e2⟩
      · rw [q1, q2]
      · rw [List.getElem?_set_ne (Ne.symm m')] at e4
        exact (nO _ _ e2 e4).elim
    · rw [List.getElem?_set_ne (Ne.symm n)] at e3
      rcases get_set e2 with ⟨q2, z, b2⟩ | ⟨m', e2⟩
      · rw [q2, set_get (by rw [← l.len]; exact b2)] at e4
        cases e4
        exact (nO _ _ e1 e3).elim
      · rw [List.getElem?_set_ne (Ne.symm m')] at e4
        exact l.inj j k o1 o2 b e1 e2 e3 e4
end
end Sh
namespace Sh
open PySem L2
open PyProof.Rows hiding St
section
variable {K : PySem.W.Frag} {F : Addr → Prop} {Wx : WX} {st st1 : Stt} {σ σ1 : L2.St} {H H1 : Hp} {EI : XI} {DI : IEnds} {D : Ends}
def Sto.put (S : Sto) (a : Addr) (o : SO) : Sto := fun b => if b = a then some o else S b
theorem Sto.put_same {S : Sto} {a : Addr} {o : SO} : S.put a o a = some o := if_pos rfl
theorem Sto.put_ne {S : Sto} {a b : Addr} {o : SO} (h : b ≠ a) : S.put a o b = S b := if_neg h
def Stt.puts (st : Stt) (a : Addr) (o : SO) : Stt := { st with S := st.S.put a o }
/-- what is written at a live address touches nothing that is frozen -/
theorem Mv.write {a : Addr} {u : HO} {Lv Lv' : Addr → Prop} (la : Lv a) (h : ∀ b, Lv' b → Lv b) : Mv Lv H Lv' (upd H a u) := fun b z e n =>
  ⟨(upd_ne (show b ≠ a from fun q => n (by rw [q]; exact la))).trans e, fun q => n (h b q)⟩
/-- an owned object is written -/
theorem Lk.write (l : Lk K F st σ H) {i : Nat} {o o' : SO} {a : Addr} {u : HO} (e : st.ρ[i]? = some (.own o)) (ea : σ[i]? = some (some (.ref a)))
    (r : RelO K (Live F st σ) (upd H a u) a o') : Lk K F (st.put i (.own o')) σ (upd H a u) ∧ Step st σ H (st.put i (.own o')) σ (upd H a u) := by
  have ow : ∀ b, Ow (st.put i (.own o')).ρ σ b → Ow st.ρ σ b := fun b h => by
    obtain ⟨j, q, e1, e2⟩ := h
    rcases get_set e1 with ⟨rfl, _, _⟩ | ⟨n, e1⟩
    · exact ⟨j, o, e, e2⟩
    · exact ⟨j, q, e1, e2⟩
  have lv : ∀ b, Live F (st.put i (.own o')) σ b → Live F st σ b := fun b z => z.imp (fun w => w.imp id (ow b)) id
  have la : Live F st σ a := .inl (.inr ⟨i, o, e, ea⟩)
  have m : Mv (Live F st σ) H (Live F (st.put i (.own o')) σ) (upd H a u) := Mv.write la lv
  have m2 : Mv (Live F st σ) (upd H a u) (Live F (st.put i (.own o')) σ) (upd H a u) := fun b z q n => ⟨q, fun w => n (lv b w)⟩
  obtain ⟨a', ea', _, na, nf⟩ := l.own i o e
  rw [ea] at ea'
  cases ea'
  refine ⟨⟨by simp [Stt.put, l.len], fun j y q => ?_, fun j q z => ?_, fun j k o1 o2 b e1 e2 e3 e4 => ?_, fun b q z => ?_, fun b z => ?_, l.fdis⟩, ⟨fun b z q n => ?_, fun b z => .inl (z.imp id (ow b))⟩⟩
  · rcases get_set q with ⟨_, z, _⟩ | ⟨n, q⟩
    · cases z
    · obtain ⟨v, e1, r1⟩ := l.val j y q
      exact ⟨v, e1, r1.mono m⟩
  · rcases get_set z with ⟨rfl, z, _⟩ | ⟨n, z⟩
    · cases z
      exact ⟨a, ea, r.move (fun _ q => q) m2, na, nf⟩
    · obtain ⟨b, e1, r1, n1, n2⟩ := l.own j q z
      have nb : b ≠ a := fun q' => n (l.inj j i q o a z e (by rw [e1, q']) ea)
      exact ⟨b, e1, r1.move (fun _ q => by rw [upd_ne nb]; exact q) m, n1, n2⟩
  · have e1' : ∃ o1', st.ρ[j]? = some (.own o1') := by
      rcases get_set e1 with ⟨rfl, _, _⟩ | ⟨_, z⟩
      · exact ⟨o, e⟩
      · exact ⟨o1, z⟩
    have e2' : ∃ o2', st.ρ[k]? = some (.own o2') := by
      rcases get_set e2 with ⟨rfl, _, _⟩ | ⟨_, z⟩
      · exact ⟨o, e⟩
      · exact ⟨o2, z⟩
    obtain ⟨o1', e1'⟩ := e1'
    obtain ⟨o2', e2'⟩ := e2'
    exact l.inj j k o1' o2' b e1' e2' e3 e4
  · have nb : b ≠ a := fun q' => by
      rw [q'] at z
      have z2 : st.S a = some q := z
      rw [na] at z2
      cases z2
    exact (l.sto b q z).move (fun _ q => by rw [upd_ne nb]; exact q) m
  · obtain ⟨x, q⟩ := l.ftr b z
    have nb : b ≠ a := fun q' => nf (q' ▸ z)
    exact ⟨x, by rw [upd_ne nb]; exact q⟩
  · have nb : b ≠ a := fun q' => n (.inr ⟨i, o, e, q' ▸ ea⟩)
    rw [upd_ne nb]
    exact q
/-- an object of the store is written -/
theorem Lk.writeS (l : Lk K F st σ H) {o o' : SO} {a : Addr} {u : HO} (e : st.S a = some o)
    (r : RelO K (Live F st σ) (upd H a u) a o') : Lk K F (st.puts a o') σ (upd H a u) ∧ Step st σ H (st.puts a o') σ (upd H a u) := by
  have sw : ∀ b, (st.puts a o').S b ≠ none → st.S b ≠ none := fun b h => by
    by_cases q : b = a
    · rw [q, e]
      exact fun z => nomatch z
    · have z : (st.puts a o').S b = st.S b := Sto.put_ne q
      rw [← z]
      exact h
  have lv : ∀ b, Live F (st.puts a o') σ b → Live F st σ b := fun b z => z.imp (fun w => w.imp (sw b) id) id
  have la : Live F st σ a := .inl (.inl (by rw [e]; exact fun z => nomatch z))
  have m : Mv (Live F st σ) H (Live F (st.puts a o') σ) (upd H a u) := Mv.write la lv
  have m2 : Mv (Live F st σ) (upd H a u) (Live F (st.puts a o') σ) (upd H a u) := fun b z q n => ⟨q, fun w => n (lv b w)⟩
  refine ⟨⟨l.len, fun j y q => ?_, fun j q z => ?_, l.inj, fun b q z => ?_, fun b z => ?_, fun b z => ?_⟩, ⟨fun b z q n => ?_, fun b z => .inl (z.imp (sw b) id)⟩⟩
  · obtain ⟨v, e1, r1⟩ := l.val j y q
    exact ⟨v, e1, r1.mono m⟩
  · obtain ⟨b, e1, r1, n1, n2⟩ := l.own j q z
    have nb : b ≠ a := fun q' => by
      rw [q', e] at n1
      cases n1
    exact ⟨b, e1, r1.move (fun _ q => by rw [upd_ne nb]; exact q) m, (Sto.put_ne nb).trans n1, n2⟩
  · by_cases nb : b = a
    · subst nb
      have z2 : st.S.put b o' b = some q := z
      rw [Sto.put_same] at z2
      cases z2
      exact r.move (fun _ q => q) m2
    · have z2 : st.S.put a o' b = some q := z
      rw [Sto.put_ne nb] at z2
      exact (l.sto b q z2).move (fun _ q => by rw [upd_ne nb]; exact q) m
  · obtain ⟨x, q⟩ := l.ftr b z
    have nb : b ≠ a := fun q' => by
      have q2 := l.fdis b z
      rw [q', e] at q2
      cases q2
    exact ⟨x, by rw [upd_ne nb]; exact q⟩
  · have nb : b ≠ a := fun q' => by
      have q2 := l.fdis b z
      rw [q', e] at q2
      cases q2
    exact (Sto.put_ne nb).trans (l.fdis b z)
  · have nb : b ≠ a := fun q' => n (.inl (by rw [q', e]; exact fun z => nomatch z))
    rw [upd_ne nb]
    exact q

/-- what a callee sees as foreign -/
def Fo (F : Addr → Prop) (st : Stt) (σ : L2.St) : Addr → Prop := fun a => F a ∨ Ow st.ρ σ a
theorem ow_nil {a : Addr} : ¬ Ow [] [] a := fun ⟨_, _, e, _⟩ => by simp at e
theorem live_enter {a : Addr} : Live (Fo F st σ) ⟨[], st.S⟩ [] a ↔ Live F st σ a := by
  constructor
  · rintro ((z | z) | (z | z))
    · exact .inl (.inl z)
    · exact (ow_nil z).elim
    · exact .inr z
    · exact .inl (.inr z)
  · rintro ((z | z) | z)
    · exact .inl (.inl z)
    · exact .inr (.inr z)
    · exact .inr (.inl z)
theorem mv_same {Lv Lv' : Addr → Prop} (h : ∀ a, Lv' a → Lv a) : Mv Lv H Lv' H := fun a _ e n => ⟨e, fun z => n (h a z)⟩
theorem Lk.enter (l : Lk K F st σ H) : Lk K (Fo F st σ) ⟨[], st.S⟩ [] H := by
  refine ⟨rfl, fun i w e => by simp at e, fun i o e => by simp at e, fun i j o o' a e => by simp at e, fun a o e => (l.sto a o e).move (fun _ q => q) (mv_same fun b z => live_enter.mp z), fun a z => ?_, fun a z => ?_⟩
  · rcases z with z | z
    · exact l.ftr a z
    · exact l.wtr (.inr z)
  · rcases z with z | ⟨i, o, e1, e2⟩
    · exact l.fdis a z
    · obtain ⟨b, e3, _, n, _⟩ := l.own i o e1
      rw [e2] at e3
      cases e3
      exact n
theorem Lk.back {F2 : Addr → Prop} {S' : Sto} (l : Lk K F st σ H) (s : Step ⟨[], st.S⟩ [] H ⟨[], S'⟩ [] H1) (l2 : Lk K (Fo F2 st σ) ⟨[], S'⟩ [] H1) (hF : ∀ a, F a → F2 a)
    (h2 : ∀ a, F2 a → F a ∨ st.S a ≠ none ∨ H a = none) : Lk K F2 { st with S := S' } σ H1 ∧ Step st σ H { st with S := S' } σ H1 := by
  have wr0 : ∀ a, ¬ Wr st σ a → ¬ Wr ⟨[], st.S⟩ [] a := fun a n z => z.elim (fun z => n (.inl z)) ow_nil
  have st' : Step st σ H { st with S := S' } σ H1 := by
    refine ⟨fun a u e n => s.keep a u e (wr0 a n), fun a z => ?_⟩
    rcases z with z | z
    · rcases s.new a (.inl z) with (z | z) | z
      · exact .inl (.inl z)
      · exact (ow_nil z).elim
      · exact .inr z
    · exact .inl (.inr z)
  have m : Mv (Live F st σ) H (Live F2 { st with S := S' } σ) H1 := fun a u e n => by
    refine ⟨st'.keep a u e fun z => n (.inl z), fun z => ?_⟩
    rcases z with z | z
    · rcases st'.new a z with z | z
      · exact n (.inl z)
      · rw [e] at z; cases z
    · rcases h2 a z with z | z | z
      · exact n (.inr z)
      · exact n (.inl (.inl z))
      · rw [e] at z; cases z
  have lv : ∀ a, Live F2 { st with S := S' } σ a → Live (Fo F2 st σ) ⟨[], S'⟩ [] a := fun a z => (live_enter (F := F2) (st := { st with S := S' }) (σ := σ)).mpr z
  refine ⟨⟨l.len, fun i w e => ?_, fun i o e => ?_, l.inj, fun a o e => (l2.sto a o e).move (fun _ q => q) (mv_same lv), fun a z => l2.ftr a (.inl z), fun a z => l2.fdis a (.inl z)⟩, st'⟩
  · obtain ⟨v, e1, r⟩ := l.val i w e
    exact ⟨v, e1, r.mono m⟩
  · obtain ⟨a, e1, r, n1, n2⟩ := l.own i o e
    have oa : Ow st.ρ σ a := ⟨i, o, e, e1⟩
    refine ⟨a, e1, r.move (fun u q => s.keep a u q fun z => z.elim (fun z => z n1) ow_nil) m, l2.fdis a (.inr oa), fun z => ?_⟩
    rcases h2 a z with z | z | z
    · exact n2 z
    · exact z n1
    · obtain ⟨u, q⟩ := r.at
      rw [z] at q
      cases q
end

/-- spec over values: from the arguments and the store -/
def spI (K : PySem.W.Frag) (n : Nat) (spec : ISp) : Sp := fun vs H Q E => ∃ F S ws QI EI, Lk K F ⟨[], S⟩ [] H ∧ RelWs K (Live F ⟨[], S⟩ []) H ws vs ∧ ws.length = n ∧ spec ws S QI EI ∧
  (∀ r S' v H', QI r S' → RetOk K F ⟨[], S⟩ [] H r S' v H' → Q v H') ∧
  ∀ x S' cls d H', EI x S' → Lk K F ⟨[], S'⟩ [] H' → Step ⟨[], S⟩ [] H ⟨[], S'⟩ [] H' → RelX K (Live F ⟨[], S'⟩ []) H' x cls d → E cls d H'
theorem spI.len {K : PySem.W.Frag} {n : Nat} {spec : ISp} {vs : List V} {H : Hp} {Q : VK} {E : XK} (h : spI K n spec vs H Q E) : vs.length = n := by
  obtain ⟨F, S, ws, QI, EI, _, r, e, _⟩ := h
  rw [← r.length, e]
theorem spI.imp {K : PySem.W.Frag} {n : Nat} {spec spec' : ISp} (h : ∀ ws S Q E, spec' ws S Q E → spec ws S Q E) {vs : List V} {H : Hp} {Q : VK} {E : XK} (q : spI K n spec' vs H Q E) : spI K n spec vs H Q E := by
  obtain ⟨F, S, ws, QI, EI, l, r, e, s, k1, k2⟩ := q
  exact ⟨F, S, ws, QI, EI, l, r, e, h _ _ _ _ s, k1, k2⟩
/-- the slots at the entry -/
def start0 (m : Nat) (ws : List W) : List Slot := ws.map .val ++ List.replicate (m - ws.length) .none
/-- a body as a spec -/
def bodyI (m : Nat) (ib : IS) : ISp := fun ws S Q E => ib (fun x st => E x st.S) { nx := fun st => Q (.val .non) st.S, rt := Q } ⟨start0 m ws, S⟩
theorem start_rel {K : PySem.W.Frag} {Lv : Addr → Prop} {H : Hp} : ∀ {ws : List W} {vs : List V} {m : Nat} {i : Nat} {w : W}, RelWs K Lv H ws vs → (ws.map Slot.val ++ List.replicate m .none)[i]? = some (.val w) →
    ∃ v, (vs.map some ++ List.replicate m none)[i]? = some (some v) ∧ RelW K Lv H w v
  | _, _, m, i, w, .nil, e => by
    have e2 : (List.replicate m Slot.none)[i]? = some (.val w) := by simpa using e
    rw [List.getElem?_replicate] at e2
    split at e2 <;> cases e2
  | _, _, m, 0, w, .cons h r, e => by
    have e2 := Option.some.inj e
    cases e2
    exact ⟨_, rfl, h⟩
  | _, _, m, i + 1, w, .cons _ r, e => start_rel (i := i) r (by simpa using e)
theorem start_own {ws : List W} {m i : Nat} {o : SO} (e : (ws.map Slot.val ++ List.replicate m .none)[i]? = some (.own o)) : False := by
  have h := List.mem_of_getElem? e
  rcases List.mem_append.mp h with h | h
  · obtain ⟨w, _, q⟩ := List.mem_map.mp h
    cases q
  · have q := List.eq_of_mem_replicate h
    cases q
structure FnG (P : Program) (w : World) (K : PySem.W.Frag) (mg : Str → Option Value) (base : Heap) (k : Nat) (f : Addr) (fd : FuncData) (ps : List Str) (sp : Sp) : Prop where
  len : ∀ {vs H Q E}, sp vs H Q E → vs.length = ps.length
  go : ∀ {A : Around} {outer : List Env} {s : Shared} {H : Hp} {args : Args} {us : List Value} {vs : List V} {Q : VK} {E : XK}, Room k A → A.guards = some [] → Env0 P w K mg base A outer s H →
    BindsTo s fd args (ps.zip us) → Vals vs us → sp vs H Q E → codeAny (model P w) A (.call (.ref f) args) (CR (L2.CX P w) outer P w H s Q E) s
theorem FnG.imp {P : Program} {w : World} {K : PySem.W.Frag} {mg : Str → Option Value} {base : Heap} {k : Nat} {f : Addr} {fd : FuncData} {ps : List Str} {sp sp' : Sp} (G : FnG P w K mg base k f fd ps sp) (h : ∀ {vs H Q E}, sp' vs H Q E → sp vs H Q E) : FnG P w K mg base k f fd ps sp' :=
  ⟨fun q => G.len (h q), fun r g e b v q => G.go r g e b v (h q)⟩
theorem FnG.up {P : Program} {w : World} {K : PySem.W.Frag} {mg : Str → Option Value} {base : Heap} {j k : Nat} {f : Addr} {fd : FuncData} {ps : List Str} {sp : Sp} (G : FnG P w K mg base j f fd ps sp) (h : j ≤ k) : FnG P w K mg base k f fd ps sp :=
  ⟨G.len, fun r g e b v q => G.go (r.mono h) g e b v q⟩
/-- a nicer spec -/
theorem FnG.spec {P : Program} {w : World} {K : PySem.W.Frag} {mg : Str → Option Value} {base : Heap} {k n : Nat} {f : Addr} {fd : FuncData} {ps : List Str} {spec spec' : ISp} (G : FnG P w K mg base k f fd ps (spI K n spec)) (h : ∀ ws S Q E, spec' ws S Q E → spec ws S Q E) : FnG P w K mg base k f fd ps (spI K n spec') :=
  G.imp fun q => spI.imp h q
section
variable {P : Program} {w : World} {K : PySem.W.Frag} {mg : Str → Option Value} {base : Heap} {x qual : Str} {params : Arguments} {body : List Stmt} {scope : Scope} {f : Addr} {fd : FuncData}
theorem fn_run {N ps : List Str} {k : Nat} {sp : Sp} (Fd : FunD K x qual params body scope [] [] f fd) (Sc : FnScope N ps scope) (len : ∀ {vs H Q E}, sp vs H Q E → vs.length = ps.length)
    (hbody : ∀ (cdv : Value) (A : Around) (outer : List Env) (s : Shared) (H : Hp) (vs : List V) (Q : VK) (E : XK), Room k (A.deeper (envOfC qual scope s.heap.objs.size f cdv)) → A.guards = some [] → sp vs H Q E →
      ∃ t, PSs (cxOf (L2.CX P w) P w K mg base N qual scope f cdv A outer s H E) body t ∧ t { nx := fun _ H' => Q .non H', rt := Q } (L2.start N vs) H) : FnG P w K mg base (k + 1) f fd ps sp := by
  obtain ⟨oc, od, dV, kV, doc, pm, an, cdv, ct, osl, rfl, lk, hcd, _, _⟩ := Fd.ex
  refine ⟨len, fun {A outer s H args us vs Q E} room gu e0 bd rel hq => ?_⟩
  have hv := len hq
  have kin : K.In s.heap := e0.mod.kin.keeps fun b o e => (e0.bs b o e).1
  have noLim : s.heap.NoLimit := e0.mod.nolimit.keeps fun b o e => (e0.bs b o e).1
  have kinds : ∀ y ∈ ps.zip us, scope.names.lookup y.1 = some .local ∨
      (scope.names.lookup y.1 = some .cell ∧ ((cellsFrom (s.heap.objs.size + 1) scope.names []).lookup y.1).isSome = true) := fun y hy => by
    rcases Sc.par y.1 (List.of_mem_zip hy).1 with q | q
    · exact .inl q
    · exact .inr ⟨q, PySem.W.cellsFrom_some _ _ _ (.inl q)⟩
  refine codeAny_call_function room.depth (kin _ _ lk) rfl Sc.co Sc.gen rfl (PySem.W.codeRec_of kin hcd) (bd _ _ _ _ ?_)
  refine wpAny_newFunctionEnv_cells Sc.kind kinds fun env he s1 z => ?_
  subst he
  refine ⟨noLim.keeps z.toInCall.keep, codeAny_func ?_⟩
  obtain ⟨t, ht, hq2⟩ := hbody cdv A outer s H vs Q E (room.deeper _) gu hq
  have I := inv_start (CX := L2.CX P w) (E := E) Sc room.hd e0 hv rel z
  refine wpAny_mono (ht.run [] s1 _ H _ I hq2) (fun fl s' hs => ?_) fun _ _ h => h
  have fin : ∀ {σ' : L2.St} {H' : Hp} {v : V} {u : Value}, Inv (cxOf (L2.CX P w) P w K mg base N qual scope f cdv A outer s H E) [] σ' H' s' →
      RelV v u → Q v H' → CE outer P w H s Q u s' := fun {σ' H' v u} J rv q => ⟨v, H', J.os, J.bare, J.base, J.hok, rv, q⟩
  cases fl with
  | ret u => obtain ⟨v, σ', H', J, rv, q⟩ := hs; exact fin J rv q
  | next => obtain ⟨σ', H', J, q⟩ := hs; exact fin (v := V.non) (u := Value.none) J rfl q
  | brk => obtain ⟨_, _, _, q⟩ := hs; exact q.elim
  | cont => obtain ⟨_, _, _, q⟩ := hs; exact q.elim
/-- THE RULE for a def -/
theorem fnI {N ps : List Str} {k : Nat} {ib : IS} (Fd : FunD K x qual params body scope [] [] f fd) (Sc : FnScope N ps scope)
    (hb : ∀ (cdv : Value) (A : Around) (outer : List Env) (s : Shared) (H : Hp) (E : XK), Room k (A.deeper (envOfC qual scope s.heap.objs.size f cdv)) → A.guards = some [] → ∀ (F : Addr → Prop) (Wx : WX), Takes (cxOf (L2.CX P w) P w K mg base N qual scope f cdv A outer s H E) Wx →
      PSs (cxOf (L2.CX P w) P w K mg base N qual scope f cdv A outer s H E) body (LS K F Wx ib)) : FnG P w K mg base (k + 1) f fd ps (spI K ps.length (bodyI N.length ib)) := by
  refine fn_run Fd Sc (fun h => h.len) fun cdv A outer s H vs Q E hr gu h => ?_
  obtain ⟨F, S, ws, QI, EI, l, r, e, hs, kr, kx⟩ := h
  refine ⟨_, hb cdv A outer s H E hr gu F (fun cls d _ H => E cls d H) (takes_of rfl rfl rfl rfl), ?_⟩
  have hlen : ws.length = vs.length := r.length
  have nOw : ∀ a, ¬ Ow (start0 N.length ws) (L2.start N vs) a := fun a ⟨i, o, e1, _⟩ => start_own e1
  have lv : ∀ a, Live F ⟨start0 N.length ws, S⟩ (L2.start N vs) a → Live F ⟨[], S⟩ [] a := fun a z => z.imp (fun z => z.elim .inl fun z => (nOw a z).elim) id
  have lk : Lk K F ⟨start0 N.length ws, S⟩ (L2.start N vs) H := by
    refine ⟨?_, fun i y q => ?_, fun i o q => (start_own q).elim, fun i j o o' a q => (start_own q).elim, fun a o q => (l.sto a o q).move (fun _ z => z) (mv_same lv), l.ftr, l.fdis⟩
    · simp [start0, L2.start, hlen]
    · have q2 : (ws.map Slot.val ++ List.replicate (N.length - ws.length) .none)[i]? = some (.val y) := q
      rw [hlen] at q2
      obtain ⟨v, e1, r1⟩ := start_rel r q2
      exact ⟨v, e1, r1.mono (mv_same lv)⟩
  have s0 : Step ⟨[], S⟩ [] H ⟨start0 N.length ws, S⟩ (L2.start N vs) H := ⟨fun _ _ e _ => e, fun a z => .inl (z.elim .inl fun z => (nOw a z).elim)⟩
  refine ⟨⟨start0 N.length ws, S⟩, _, _, lk, hs, ⟨fun x st' σ' cls d H' q l' s' r' => ?_, fun st' σ' H' q l' s' => ?_, fun _ _ _ q => q.elim, fun _ _ _ q => q.elim, fun r' S' v H' q h' => kr r' S' v H' q (h'.step s0)⟩⟩
  all_goals
    have nx : ∀ a, Live F ⟨[], st'.S⟩ [] a → Live F st' σ' a := fun a z => z.imp (fun z => z.elim .inl fun z => (ow_nil z).elim) id
    have l3 : Lk K F ⟨[], st'.S⟩ [] H' := ⟨rfl, fun i w e => by simp at e, fun i o e => by simp at e, fun i j o o' a e => by simp at e, fun a o e => (l'.sto a o e).move (fun _ q => q) (mv_same nx), l'.ftr, l'.fdis⟩
    have s3 : Step ⟨[], S⟩ [] H ⟨[], st'.S⟩ [] H' := (s0.trans s').trans ⟨fun _ _ e _ => e, fun a z => .inl (z.elim .inl fun z => (ow_nil z).elim)⟩
  · refine kx x st'.S cls d H' q l3 s3 ?_
    obtain ⟨e1, z⟩ := r'
    refine ⟨e1, z.imp id ?_⟩
    rintro ⟨a, vs', e2, e3, e4, e5⟩
    exact ⟨a, vs', e2, e3, fun z => e4 (nx a z), e5.mono (mv_same nx)⟩
  · exact kr (.val .non) st'.S .non H' q ⟨s3, l3, .non⟩
end
end Sh
namespace Sh
open PySem L2
open PyProof.Rows hiding St
theorem pe_imp {X : Cx} {e : Expr} {t t' : TE} (h : PE X e t) (m : ∀ σ H Q, t' σ H Q → t σ H Q) : PE X e t' := ⟨fun pins s σ H Q I q => h.run pins s σ H Q I (m _ _ _ q)⟩
theorem pt_imp {X : Cx} {e : Expr} {t t' : TT} (h : PT X e t) (m : ∀ σ H Q, t' σ H Q → t σ H Q) : PT X e t' := ⟨fun pins s σ H Q I q => h.run pins s σ H Q I (m _ _ _ q)⟩
theorem pw_imp {X : Cx} {e : Expr} {t t' : TT} (h : PW X e t) (m : ∀ σ H Q, t' σ H Q → t σ H Q) : PW X e t' := ⟨fun wh pins s σ H Q I q => h.run wh pins s σ H Q I (m _ _ _ q)⟩
theorem pa_imp {X : Cx} {es : List Expr} {t t' : TA} (h : PA X es t) (m : ∀ σ H Q, t' σ H Q → t σ H Q) : PA X es t' := ⟨fun pos pins s σ H Q I q => h.run pos pins s σ H Q I (m _ _ _ q)⟩

section
variable {X : Cx} {F : Addr → Prop} {Wx : WX} {a b c e : Expr} {es : List Expr} {pos : Pos} {ia ib ic : IE}
def iVar (i : Nat) : IE := fun _ st Q => match st.ρ[i]? with
  | some (.val w) => Q w st
  | some (.own o) => Q o.fz (st.put i (.val o.fz))
  | _ => False
theorem i_var (i : Nat) {x : Str} (hN : X.N[i]? = some x := by rfl) (hv : Vis X.env.scope x := by first | exact Or.inl rfl | exact Or.inr (Or.inl rfl) | exact Or.inr (Or.inr rfl)) (hd : (x == ("__debug__" : Str)) = false := by decide)
    (hcd : (x == ("__classdict__" : Str)) = false := by decide) : PE X (.Name x pos) (LE X.K F Wx (iVar i)) := by
  refine pe_imp (pe_var hN hv hd hcd) fun σ H Q h => ?_
  obtain ⟨st, QI, EI, l, q, ux, k⟩ := h
  unfold iVar at q
  split at q
  · rename_i w e
    obtain ⟨v, ev, r⟩ := l.val i w e
    exact ⟨v, ev, k w st v H q l .refl r⟩
  · rename_i o e
    obtain ⟨v, ev, r, _⟩ := l.own i o e
    obtain ⟨l2, s2⟩ := l.freeze e
    refine ⟨.ref v, ev, k _ _ _ H q l2 s2 ?_⟩
    obtain ⟨u, eu, r2⟩ := l2.val i o.fz (by
      have hi : i < st.ρ.length := (List.getElem?_eq_some_iff.mp e).1
      exact set_get hi)
    rw [ev] at eu
    cases eu
    exact r2
  · exact q.elim
def iC (w : W) : IE := fun _ st Q => Q w st
theorem i_c {w : W} {v : V} (h : PE X e (tC v)) (r : ∀ Lv H, RelW X.K Lv H w v) : PE X e (LE X.K F Wx (iC w)) := by
  refine pe_imp h fun σ H Q q => ?_
  obtain ⟨st, QI, EI, l, q, ux, k⟩ := q
  exact k w st v H q l .refl (r _ _)
theorem i_int {i : Int} {j : Nat} : PE X (.Constant (.int i) j pos) (LE X.K F Wx (iC (.int i))) := i_c pe_int fun _ _ => .int i
theorem i_bl {b : Bool} {j : Nat} : PE X (.Constant (.bool b) j pos) (LE X.K F Wx (iC (.bl b))) := i_c pe_bl fun _ _ => .bl b
theorem i_non {j : Nat} : PE X (.Constant .none j pos) (LE X.K F Wx (iC .non)) := i_c pe_non fun _ _ => .non
theorem i_str {x : Str} {j : Nat} : PE X (.Constant (.str x) j pos) (LE X.K F Wx (iC (.str x))) := i_c pe_str fun _ _ => .str x

def iNil : IA := fun _ st Q => Q [] st
def iCons (i : IE) (r : IA) : IA := fun EI st Q => i EI st fun w st1 => r EI st1 fun ws st2 => Q (w :: ws) st2
theorem ia_nil : PA X [] (LA X.K F Wx 0 iNil) := by
  refine pa_imp pa_nil fun σ H Q h => ?_
  obtain ⟨st, QI, EI, l, q, ux, k⟩ := h
  exact k [] st [] H rfl q l .refl .nil
theorem ia_cons {n : Nat} {ir : IA} (ha : PE X e (LE X.K F Wx ia)) (hr : PA X es (LA X.K F Wx n ir)) (hs : starEach (e :: es) X.env = (false, eval e X.env) :: starEach es X.env := by rfl) : PA X (e :: es) (LA X.K F Wx (n + 1) (iCons ia ir)) := by
  refine pa_imp (pa_cons ha hr hs) fun σ H Q h => ?_
  obtain ⟨st, QI, EI, l, q, ux, k⟩ := h
  refine ⟨st, _, EI, l, q, ux, fun w st1 v H1 q1 l1 s1 r1 => ⟨st1, _, EI, l1, q1, ux.step s1, fun ws st2 vs H2 hn q2 l2 s2 r2 => ?_⟩⟩
  exact k (w :: ws) st2 (v :: vs) H2 (by simp [hn]) q2 l2 (s1.trans s2) (.cons (r1.mono s2.mv) r2)
def iTup (i : IA) : IE := fun EI st Q => i EI st fun ws st1 => Q (.tup ws) st1
theorem i_tup {n : Nat} {i : IA} {x1} (h : PA X es (LA X.K F Wx n i)) (hn : n ≤ sizeLine := by decide) : PE X (.Tuple es x1 pos) (LE X.K F Wx (iTup i)) := by
  refine pe_imp (pe_tup h) fun σ H Q h => ?_
  obtain ⟨st, QI, EI, l, q, ux, k⟩ := h
  refine ⟨st, _, EI, l, q, ux, fun ws st1 vs H1 e1 q1 l1 s1 r1 => ⟨by rw [← r1.length, e1]; exact hn, fun p hp => ?_⟩⟩
  have s2 : Step st1 σ H1 st1 σ (upd H1 p (.tup vs)) := Step.laid l1 hp
  exact k (.tup ws) st1 (.ref p) _ q1 (l1.laid hp) (s1.trans s2) (.tup (FzT.new l1 hp) (r1.mono s2.mv))
def iLst (i : IA) : IE := fun EI st Q => i EI st fun ws st1 => Q (.lst ws) st1
theorem i_lst {n : Nat} {i : IA} (h : PA X es (LA X.K F Wx n i)) (hn : n ≤ sizeLine := by decide) : PE X (.List es pos) (LE X.K F Wx (iLst i)) := by
  refine pe_imp (pe_lst h) fun σ H Q h => ?_
  obtain ⟨st, QI, EI, l, q, ux, k⟩ := h
  refine ⟨st, _, EI, l, q, ux, fun ws st1 vs H1 e1 q1 l1 s1 r1 => ⟨by rw [← r1.length, e1]; exact hn, fun p hp => ?_⟩⟩
  have s2 : Step st1 σ H1 st1 σ (upd H1 p (.lst vs)) := Step.laid l1 hp
  exact k (.lst ws) st1 (.ref p) _ q1 (l1.laid hp) (s1.trans s2) (.lst (FzL.new l1 hp) (r1.mono s2.mv))
/-- a new object is foreign to all that stands -/
theorem Lk.foreign {K : PySem.W.Frag} {st : Stt} {σ : L2.St} {H : Hp} (l : Lk K F st σ H) {p : Addr} {u : HO} (e : H p = none) : Lk K (FA F p) st σ (upd H p u) := by
  have m : Mv (Live F st σ) H (Live (FA F p) st σ) (upd H p u) := fun b z q n => ⟨(upd_ne (ne_of_none q e)).trans q, fun w => by
    rcases w with w | w | w
    · exact n (.inl w)
    · exact n (.inr w)
    · rw [w, e] at q; cases q⟩
  have k : ∀ b z, H b = some z → upd H p u b = some z := fun b z q => (upd_ne (ne_of_none q e)).trans q
  refine ⟨l.len, fun i w q => ?_, fun i o q => ?_, l.inj, fun b o q => (l.sto b o q).move (k b) m, fun b q => ?_, fun b q => ?_⟩
  · obtain ⟨v, e1, r⟩ := l.val i w q
    exact ⟨v, e1, r.mono m⟩
  · obtain ⟨b, e1, r, n1, n2⟩ := l.own i o q
    refine ⟨b, e1, r.move (k b) m, n1, fun z => ?_⟩
    rcases z with z | z
    · exact n2 z
    · obtain ⟨u', q'⟩ := r.at
      rw [z, e] at q'
      cases q'
  · rcases q with q | q
    · obtain ⟨z, q'⟩ := l.ftr b q
      exact ⟨z, k b z q'⟩
    · exact ⟨u, by rw [q]; exact upd_same⟩
  · rcases q with q | q
    · exact l.fdis b q
    · rw [q]
      cases z : st.S p with
      | none => rfl
      | some o =>
        obtain ⟨u', q'⟩ := (l.sto p o z).at
        rw [e] at q'
        cases q'
theorem mv_foreign {K : PySem.W.Frag} {st : Stt} {σ : L2.St} {H : Hp} (l : Lk K F st σ H) {p : Addr} {u : HO} (e : H p = none) : Mv (Live F st σ) H (Live (FA F p) st σ) (upd H p u) := fun b z q n => ⟨(upd_ne (ne_of_none q e)).trans q, fun w => by
    rcases w with w | w | w
    · exact n (.inl w)
    · exact n (.inr w)
    · rw [w, e] at q; cases q⟩
def nLst (i : IA) : IN := fun EI st Q => i EI st fun ws st1 => Q (.lst ws) st1
theorem n_lst {n : Nat} {i : IA} (h : PA X es (LA X.K F Wx n i)) (hn : n ≤ sizeLine := by decide) : PE X (.List es pos) (LN X.K F Wx (nLst i)) := by
  refine pe_imp (pe_lst h) fun σ H Q h => ?_
  obtain ⟨st, QI, EI, l, q, ux, k⟩ := h
  refine ⟨st, _, EI, l, q, ux, fun ws st1 vs H1 e1 q1 l1 s1 r1 => ⟨by rw [← r1.length, e1]; exact hn, fun p hp => ?_⟩⟩
  have s2 : Step st1 σ H1 st1 σ (upd H1 p (.lst vs)) := Step.laid l1 hp
  exact k (.lst ws) st1 p _ q1 (l1.foreign hp) (s1.trans s2) ⟨vs, upd_same, r1.mono (mv_foreign l1 hp)⟩ (NewAt.step s1 (.inr hp))
/-- a new object as a value -/
def iFz (n : IN) : IE := fun EI st Q => n EI st fun o st1 => Q o.fz st1
theorem i_fz {n : IN} (h : PE X e (LN X.K F Wx n)) : PE X e (LE X.K F Wx (iFz n)) := by
  refine pe_imp h fun σ H Q h => ?_
  obtain ⟨st, QI, EI, l, q, ux, k⟩ := h
  refine ⟨st, _, EI, l, q, ux, fun o st1 a H1 q1 l1 s1 r1 n1 => ?_⟩
  have l2 : Lk X.K F st1 σ H1 := l1.less fun _ z => .inl z
  have m : Mv (Live (FA F a) st1 σ) H1 (Live F st1 σ) H1 := mv_same fun b z => z.imp id .inl
  have na : ¬ Live F st1 σ a := fun z => by
    rcases z with (z | ⟨i, o', e1, e2⟩) | z
    · exact z (l1.fdis a (.inr rfl))
    · obtain ⟨b, e3, _, _, n3⟩ := l1.own i o' e1
      rw [e2] at e3
      cases e3
      exact n3 (.inr rfl)
    · exact NewAt.nf l n1 z
  exact k o.fz st1 (.ref a) H1 q1 l2 s1 ((r1.move (fun _ z => z) m).fz na)

/-- what an operator of two values gives: the state stays -/
def OpG (K : PySem.W.Frag) (r : R2) (g : W → W → (W → Prop) → Prop) : Prop :=
  ∀ {F : Addr → Prop} {st : Stt} {σ : L2.St} {H : Hp} {x y : W} {v u : V} {P : W → Prop} {Q : VK}, g x y P → Lk K F st σ H → RelW K (Live F st σ) H x v → RelW K (Live F st σ) H y u →
    (∀ w z H', P w → Lk K F st σ H' → Step st σ H st σ H' → RelW K (Live F st σ) H' w z → Q z H') → r v u H Q
def iB (g : W → W → (W → Prop) → Prop) (ia ib : IE) : IE := fun EI st Q => ia EI st fun x st1 => ib EI st1 fun y st2 => g x y fun w => Q w st2
theorem LE_op {K : PySem.W.Frag} {r : R2} {g : W → W → (W → Prop) → Prop} (hg : OpG K r g) {σ : L2.St} {H : Hp} {Q : VK} (h : LE K F Wx (iB g ia ib) σ H Q) : tOp r (LE K F Wx ia) (LE K F Wx ib) σ H Q := by
  obtain ⟨st, QI, EI, l, q, ux, k⟩ := h
  refine ⟨st, _, EI, l, q, ux, fun x st1 v H1 q1 l1 s1 r1 => ⟨st1, _, EI, l1, q1, ux.step s1, fun y st2 u H2 q2 l2 s2 r2 => ?_⟩⟩
  exact hg q2 l2 (r1.mono s2.mv) r2 fun w z H3 p l3 s3 r3 => k w st2 z H3 p l3 ((s1.trans s2).trans s3) r3
theorem i_op {op : Operator} {r : R2} {g : W → W → (W → Prop) → Prop} (ho : OpR X (binaryOp op) r) (hg : OpG X.K r g) (ha : PE X a (LE X.K F Wx ia)) (hb : PE X b (LE X.K F Wx ib)) : PE X (.BinOp a op b pos) (LE X.K F Wx (iB g ia ib)) :=
  pe_imp (pe_op ho ha hb) fun _ _ _ h => LE_op hg h
theorem i_cmp {op : CmpOp} {r : R2} {g : W → W → (W → Prop) → Prop} (ho : OpR X (compareOp op) r) (hg : OpG X.K r g) (ha : PE X a (LE X.K F Wx ia)) (hb : PE X b (LE X.K F Wx ib)) (hm : behindInMarks op b = false) : PE X (.Compare a [op] [b] pos) (LE X.K F Wx (iB g ia ib)) :=
  pe_imp (pe_cmpR ho ha hb hm) fun _ _ _ h => LE_op hg h
theorem OpG.or {K : PySem.W.Frag} {r r' : R2} {g : W → W → (W → Prop) → Prop} (h : OpG K (fun x y H Q => r x y H Q ∨ r' x y H Q) g) : OpG K (fun x y H Q => r x y H Q ∨ r' x y H Q) g := h

def gI (f : Int → Int → W) : W → W → (W → Prop) → Prop := fun x y P => match x, y with
  | .int i, .int j => P (f i j)
  | _, _ => False
def gIC (C : Int → Int → Prop) (f : Int → Int → W) : W → W → (W → Prop) → Prop := fun x y P => match x, y with
  | .int i, .int j => C i j ∧ P (f i j)
  | _, _ => False
theorem gI_inv {f : Int → Int → W} {x y : W} {P : W → Prop} (h : gI f x y P) : ∃ i j, x = .int i ∧ y = .int j ∧ P (f i j) := by
  unfold gI at h
  split at h
  · exact ⟨_, _, rfl, rfl, h⟩
  · exact h.elim
theorem gIC_inv {C : Int → Int → Prop} {f : Int → Int → W} {x y : W} {P : W → Prop} (h : gIC C f x y P) : ∃ i j, x = .int i ∧ y = .int j ∧ C i j ∧ P (f i j) := by
  unfold gIC at h
  split at h
  · exact ⟨_, _, rfl, rfl, h⟩
  · exact h.elim
theorem opG_I {K : PySem.W.Frag} {f : Int → Int → W} {fv : Int → Int → V} (hf : ∀ i j Lv H, RelW K Lv H (f i j) (fv i j)) : OpG K (rI0 fv) (gI f) := by
  intro F st σ H x y v u P Q h l rx ry k
  obtain ⟨i, j, rfl, rfl, p⟩ := gI_inv h
  cases rx
  cases ry
  exact ⟨i, j, rfl, rfl, k _ _ H p l .refl (hf _ _ _ _)⟩
theorem opG_IC {K : PySem.W.Frag} {C : Int → Int → Prop} {f : Int → Int → W} {fv : Int → Int → V} (hf : ∀ i j Lv H, RelW K Lv H (f i j) (fv i j)) : OpG K (rI C fv) (gIC C f) := by
  intro F st σ H x y v u P Q h l rx ry k
  obtain ⟨i, j, rfl, rfl, c, p⟩ := gIC_inv h
  cases rx
  cases ry
  exact ⟨i, j, rfl, rfl, c, k _ _ H p l .refl (hf _ _ _ _)⟩
end
end Sh
namespace Sh
open PySem L2
open PyProof.Rows hiding St

def okD : Nat → W → Bool
  | _, .non => true
  | _, .bl _ => true
  | _, .int _ => true
  | _, .str x => PyData.strOk x
  | n + 1, .tup ws => ws.all (okD n)
  | n + 1, .lst ws => ws.all (okD n)
  | _, _ => false
mutual
def eqW : W → W → Bool
  | .non, .non => true
  | .bl a, .bl b => a == b
  | .bl a, .int j => (if a then 1 else 0) == j
  | .int i, .bl b => i == (if b then 1 else 0)
  | .int i, .int j => i == j
  | .str x, .str y => x == y
  | .lst xs, .lst ys => eqWs xs ys
  | .tup xs, .tup ys => eqWs xs ys
  | _, _ => false
def eqWs : List W → List W → Bool
  | [], [] => true
  | x :: xs, y :: ys => eqW x y && eqWs xs ys
  | _, _ => false
end
mutual
def toD : W → PyData
  | .bl b => .bool b
  | .int i => .int i
  | .str x => .str x
  | .tup ws => .tuple (toDs ws)
  | .lst ws => .list (toDs ws)
  | _ => .none
def toDs : List W → List PyData
  | [] => []
  | w :: ws => toD w :: toDs ws
end
section
variable {K : PySem.W.Frag} {Lv : Addr → Prop} {H : Hp}
mutual
theorem dp_of : ∀ {n : Nat} (w : W) {v : V}, okD n w = true → RelW K Lv H w v → Dp K H v (toD w)
  | _, .non, _, _, .non => .non
  | _, .bl b, _, _, .bl _ => .bl b
  | _, .int i, _, _, .int _ => .int i
  | _, .str x, _, _, .str _ => .str x
  | n + 1, .tup ws, _, h, .tup f r => .tup f.sq (dps_of ws (show ws.all (okD n) = true from h) r)
  | n + 1, .lst ws, _, h, .lst f r => .lst f.sq (dps_of ws (show ws.all (okD n) = true from h) r)
  | 0, .tup ws, _, h, _ => by simp [okD] at h
  | 0, .lst ws, _, h, _ => by simp [okD] at h
  | n, .dct _, _, h, _ => by cases n <;> simp [okD] at h
  | n, .obj _ _, _, h, _ => by cases n <;> simp [okD] at h
  | n, .dcT _, _, h, _ => by cases n <;> simp [okD] at h
  | n, .exn _ _ _ _, _, h, _ => by cases n <;> simp [okD] at h
  | n, .ref _, _, h, _ => by cases n <;> simp [okD] at h
  | n, .ty _, _, h, _ => by cases n <;> simp [okD] at h
  | n, .scr _, _, h, _ => by cases n <;> simp [okD] at h
  | n, .glo _, _, h, _ => by cases n <;> simp [okD] at h
theorem dps_of : ∀ {n : Nat} (ws : List W) {vs : List V}, ws.all (okD n) = true → RelWs K Lv H ws vs → DpAll K H vs (toDs ws)
  | _, [], _, _, .nil => .nil
  | n, w :: ws, _, h, .cons a r => by
    rw [List.all_cons, Bool.and_eq_true] at h
    exact .cons (dp_of w h.1 a) (dps_of ws h.2 r)
end
mutual
theorem lay_of : ∀ {n : Nat} (w : W), okD n w = true → (toD w).canLay0 = true ∧ (toD w).depth ≤ n
  | _, .non, _ => ⟨rfl, Nat.zero_le _⟩
  | _, .bl b, _ => ⟨rfl, Nat.zero_le _⟩
  | _, .int i, _ => ⟨rfl, Nat.zero_le _⟩
  | n, .str x, h => ⟨by cases n <;> exact h, Nat.zero_le _⟩
  | n + 1, .tup ws, h => by
    obtain ⟨h1, h2⟩ := lays_of ws (show ws.all (okD n) = true from h)
    exact ⟨h1, by show PyData.depthAll (toDs ws) + 1 ≤ n + 1; omega⟩
  | n + 1, .lst ws, h => by
    obtain ⟨h1, h2⟩ := lays_of ws (show ws.all (okD n) = true from h)
    exact ⟨h1, by show PyData.depthAll (toDs ws) + 1 ≤ n + 1; omega⟩
  | 0, .tup ws, h => by simp [okD] at h
  | 0, .lst ws, h => by simp [okD] at h
  | n, .dct _, h => by cases n <;> simp [okD] at h
  | n, .obj _ _, h => by cases n <;> simp [okD] at h
  | n, .dcT _, h => by cases n <;> simp [okD] at h
  | n, .exn _ _ _ _, h => by cases n <;> simp [okD] at h
  | n, .ref _, h => by cases n <;> simp [okD] at h
  | n, .ty _, h => by cases n <;> simp [okD] at h
  | n, .scr _, h => by cases n <;> simp [okD] at h
  | n, .glo _, h => by cases n <;> simp [okD] at h
theorem lays_of : ∀ {n : Nat} (ws : List W), ws.all (okD n) = true → PyData.canLayAll0 (toDs ws) = true ∧ PyData.depthAll (toDs ws) ≤ n
  | _, [], _ => ⟨rfl, Nat.zero_le _⟩
  | n, w :: ws, h => by
    rw [List.all_cons, Bool.and_eq_true] at h
    obtain ⟨h1, h2⟩ := lay_of w h.1
    obtain ⟨h3, h4⟩ := lays_of ws h.2
    exact ⟨by show ((toD w).canLay0 && PyData.canLayAll0 (toDs ws)) = true; rw [h1, h3]; rfl, by show max _ _ ≤ n; omega⟩
end
theorem eqvs_of {n m : Nat} (ih : ∀ (x y : W), okD n x = true → okD m y = true → PyData.eqv (toD x) (toD y) = eqW x y) : ∀ (xs ys : List W), xs.all (okD n) = true → ys.all (okD m) = true → PyData.eqvAll (toDs xs) (toDs ys) = eqWs xs ys
  | [], [], _, _ => rfl
  | [], _ :: _, _, _ => rfl
  | _ :: _, [], _, _ => rfl
  | x :: xs, y :: ys, hx, hy => by
    rw [List.all_cons, Bool.and_eq_true] at hx hy
    show (PyData.eqv (toD x) (toD y) && PyData.eqvAll (toDs xs) (toDs ys)) = (eqW x y && eqWs xs ys)
    rw [ih x y hx.1 hy.1, eqvs_of ih xs ys hx.2 hy.2]
theorem eqv_of {n : Nat} : ∀ {m : Nat} (x y : W), okD n x = true → okD m y = true → PyData.eqv (toD x) (toD y) = eqW x y := by
  induction n with
  | zero =>
    intro m x y hx hy
    cases x <;> cases y <;> first
      | rfl
      | (exfalso; clear hy; simp [okD] at hx; done)
      | (exfalso; clear hx; cases m <;> simp [okD] at hy <;> done)
  | succ n ih =>
    intro m x y hx hy
    cases x <;> cases y <;> first
      | rfl
      | (exfalso; clear hy; simp [okD] at hx; done)
      | (exfalso; clear hx; cases m <;> simp [okD] at hy <;> done)
      | (cases m with
         | zero => simp [okD] at hy
         | succ m => exact eqvs_of (fun x y => ih x y) _ _ hx hy)
theorem shaped_of {w : W} (h : okD 64 w = true) : SeqAt.shaped (toD w) = true := by
  obtain ⟨h1, h2⟩ := lay_of w h
  unfold SeqAt.shaped
  rw [h1, decide_eq_true h2]
  rfl
end
end Sh
namespace Sh
open PySem L2
open PyProof.Rows hiding St
def lim : Int := 10 ^ 200
def Bd (i : Int) : Prop := -lim < i ∧ i < lim
theorem lim_lt : lim.natAbs < 2 ^ 700 := by decide +kernel
theorem Bd.abs {i : Int} (h : Bd i) : i.natAbs < 2 ^ 700 := by
  have h1 := lim_lt
  obtain ⟨h2, h3⟩ := h
  omega
theorem Bd.mul {i j : Int} (h : Bd i) (k : Bd j) : CMulW i j := wide_mul h.abs k.abs (by decide) (by decide) (by decide)
section
variable {K : PySem.W.Frag} {Lv : Addr → Prop} {H : Hp}
theorem RelWs.drop : ∀ {ws : List W} {vs : List V} (n : Nat), RelWs K Lv H ws vs → RelWs K Lv H (ws.drop n) (vs.drop n)
  | _, _, 0, r => r
  | _, _, _ + 1, .nil => .nil
  | _, _, n + 1, .cons _ r => RelWs.drop n r
theorem RelWs.take : ∀ {ws : List W} {vs : List V} (n : Nat), RelWs K Lv H ws vs → RelWs K Lv H (ws.take n) (vs.take n)
  | _, _, 0, _ => .nil
  | _, _, _ + 1, .nil => .nil
  | _, _, n + 1, .cons h r => .cons h (RelWs.take n r)
theorem RelWs.ints : ∀ (ns : List Int), RelWs K Lv H (ns.map W.int) (ns.map V.int)
  | [] => .nil
  | n :: ns => .cons (.int n) (RelWs.ints ns)
theorem RelWs.reverse {ws : List W} {vs : List V} (r : RelWs K Lv H ws vs) : RelWs K Lv H ws.reverse vs.reverse := by
  induction ws generalizing vs with
  | nil => cases r; exact .nil
  | cons w ws ih =>
    cases r with
    | cons h r =>
      rw [List.reverse_cons, List.reverse_cons]
      exact (ih r).append (.cons h .nil)
end
section
variable {X : Cx} {F : Addr → Prop} {Wx : WX} {a b c e : Expr} {es : List Expr} {pos : Pos} {ia ib ic : IE}
abbrev rAddStr : R2 := fun x y H Q => ∃ i j, x = .str i ∧ y = .str j ∧ i.length + j.length ≤ sizeLine ∧ Q (.str (i ++ j)) H
def rAdds (K : PySem.W.Frag) : R2 := fun x y H Q => rI0 (fun i j => .int (i + j)) x y H Q ∨ rAddStr x y H Q ∨ rCatA K x y H Q ∨ rCat x y H Q
theorem op_adds : OpR X (binaryOp .Add) (rAdds X.K) := op_add.or (op_add_str.or (op_catA.or op_cat))
def gAdd : W → W → (W → Prop) → Prop := fun x y P => match x, y with
  | .int i, .int j => P (.int (i + j))
  | .str i, .str j => i.length + j.length ≤ sizeLine ∧ P (.str (i ++ j))
  | .tup xs, .tup ys => xs.length + ys.length ≤ sizeLine ∧ P (.tup (xs ++ ys))
  | .lst xs, .lst ys => xs.length + ys.length ≤ sizeLine ∧ P (.lst (xs ++ ys))
  | _, _ => False
theorem opG_add {K : PySem.W.Frag} : OpG K (rAdds K) gAdd := by
  intro F st σ H x y v u P Q h l rx ry k
  unfold gAdd at h
  split at h
  · cases rx; cases ry
    exact .inl ⟨_, _, rfl, rfl, k _ _ H h l .refl (.int _)⟩
  · cases rx; cases ry
    exact .inr (.inl ⟨_, _, rfl, rfl, h.1, k _ _ H h.2 l .refl (.str _)⟩)
  · cases rx with
    | tup fx rsx =>
      cases ry with
      | tup fy rsy =>
        rename_i a vs b us
        refine .inr (.inr (.inl ⟨a, b, vs, us, rfl, rfl, fx.sq, fy.sq, by rw [← rsx.length, ← rsy.length]; exact h.1, fun e => ?_, fun e1 e2 => ?_, fun _ _ p hp => ?_⟩))
        · subst e
          cases rsx
          exact k _ _ H h.2 l .refl (.tup fy rsy)
        · subst e2
          cases rsy
          exact k _ _ H h.2 l .refl (.tup fx (by rw [List.append_nil]; exact rsx))
        · have s := Step.laid (o := .tup (vs ++ us)) l hp
          exact k _ _ _ h.2 (l.laid hp) s (.tup (FzT.new l hp) ((rsx.append rsy).mono s.mv))
  · cases rx with
    | lst fx rsx =>
      cases ry with
      | lst fy rsy =>
        rename_i a vs b us
        refine .inr (.inr (.inr ⟨a, b, vs, us, rfl, rfl, fx.1, fy.1, by rw [← rsx.length, ← rsy.length]; exact h.1, fun p hp => ?_⟩))
        have s := Step.laid (o := .lst (vs ++ us)) l hp
        exact k _ _ _ h.2 (l.laid hp) s (.lst (FzL.new l hp) ((rsx.append rsy).mono s.mv))
  · exact h.elim
theorem i_add (ha : PE X a (LE X.K F Wx ia)) (hb : PE X b (LE X.K F Wx ib)) : PE X (.BinOp a .Add b pos) (LE X.K F Wx (iB gAdd ia ib)) := i_op op_adds opG_add ha hb
abbrev gSub := gI fun i j => .int (i - j)
theorem i_sub (ha : PE X a (LE X.K F Wx ia)) (hb : PE X b (LE X.K F Wx ib)) : PE X (.BinOp a .Sub b pos) (LE X.K F Wx (iB gSub ia ib)) := i_op op_sub (opG_I fun _ _ _ _ => .int _) ha hb
def MulOk (i j : Int) : Prop := (Bd i ∧ Bd j) ∨ (-(2 ^ 64) < i ∧ i < 2 ^ 64) ∨ (-(2 ^ 64) < j ∧ j < 2 ^ 64)
theorem MulOk.ok {i j : Int} (h : MulOk i j) : IntMulOk i j := by
  rcases h with h | h
  · exact (h.1.mul h.2).ok
  · exact CMul.ok h
def timesS (x : Str) (n : Nat) : Str := ⟨(List.replicate n x.cps).foldl (· ++ ·) #[]⟩
theorem times_size (xs : Array Nat) : ∀ (n : Nat) (acc : Array Nat), ((List.replicate n xs).foldl (· ++ ·) acc).size = acc.size + xs.size * n
  | 0, acc => by simp
  | n + 1, acc => by
    rw [List.replicate_succ, List.foldl_cons, times_size xs n, Array.size_append, Nat.mul_succ]
    omega
theorem timesS_len (x : Str) (n : Nat) : (timesS x n).length = x.length * n := by
  show (Array.size _) = x.cps.size * n
  unfold timesS
  rw [times_size]
  simp
abbrev rMulS : R2 := fun x y H Q => ∃ (i : Str) (n : Int), x = .str i ∧ y = .int n ∧ 2 ≤ n ∧ n ≤ 1000000 ∧ i.length ≠ 0 ∧ i.length * n.toNat ≤ sizeLine ∧ Q (.str (timesS i n.toNat)) H
theorem op_mul_str : OpR X (binaryOp .Mult) rMulS := by
  intro pins s σ H x y v u Q I rx ry h
  obtain ⟨i, n, rfl, rfl, h1, h2, h3, hz, q⟩ := h
  obtain ⟨t, rfl⟩ := rx
  obtain ⟨t', rfl⟩ := ry
  have e1 : ¬ n < 1 := by omega
  have e2 : (n == 1 || i.length == 0) = false := by
    have a : (n == 1) = false := by simp; omega
    have b : (i.length == 0) = false := by simp [h3]
    rw [a, b]; rfl
  refine PySem.P.mul_str ?_ (fun _ _ => ?_) (fun _ _ => ?_) ?_
  · have a : ¬ n < -(2 ^ 63 : Int) := by omega
    have b : ¬ n ≥ 2 ^ 63 := by omega
    rw [decide_eq_false a, decide_eq_false b]; rfl
  · have hs : (i.length : Int) * n ≤ sizeLine := by
      have e : ((i.length * n.toNat : Nat) : Int) = (i.length : Int) * n := by
        rw [Int.natCast_mul, Int.toNat_of_nonneg (by omega)]
      rw [← e]; exact_mod_cast hz
    have z : (sizeLine : Int) ≤ 2 ^ 63 - 1 := by decide
    intro w
    have w2 : (2 ^ 63 - 1) < (i.length : Int) * n := (Int.ediv_lt_iff_lt_mul (by omega)).mp w
    omega
  · exact (by unfold PySem.Builtin.Str.tooLong; exact decide_eq_false (Nat.not_lt.mpr hz))
  · rw [if_neg e1, e2, if_neg Bool.false_ne_true]
    refine ⟨?_, ⟨.str _, H, I.tok _, ⟨_, rfl⟩, q⟩⟩
    have e : (timesS i n.toNat).length = i.length * n.toNat := timesS_len i n.toNat
    exact Nat.le_trans (Nat.le_of_eq e) hz
def rMuls : R2 := fun x y H Q => rI MulOk (fun i j => .int (i * j)) x y H Q ∨ rMulS x y H Q ∨ rRep x y H Q
theorem op_mulI : OpR X (binaryOp .Mult) (rI MulOk fun i j => .int (i * j)) := opI fun _ _ _ _ _ _ _ hc q => mul_int q hc.ok
theorem op_muls : OpR X (binaryOp .Mult) rMuls := op_mulI.or (op_mul_str.or op_rep)
def gMul : W → W → (W → Prop) → Prop := fun x y P => match x, y with
  | .int i, .int j => MulOk i j ∧ P (.int (i * j))
  | .str i, .int n => 2 ≤ n ∧ n ≤ 1000000 ∧ i.length ≠ 0 ∧ i.length * n.toNat ≤ sizeLine ∧ P (.str (timesS i n.toNat))
  | .lst ws, .int k => -(2 ^ 63) ≤ k ∧ k < 2 ^ 63 ∧ ws.length * k.toNat ≤ sizeLine ∧ P (.lst (List.replicate k.toNat ws).flatten)
  | _, _ => False
theorem RelWs.times {K : PySem.W.Frag} {Lv : Addr → Prop} {H : Hp} {ws : List W} {vs : List V} (r : RelWs K Lv H ws vs) : ∀ n : Nat, RelWs K Lv H (List.replicate n ws).flatten (List.replicate n vs).flatten
  | 0 => .nil
  | n + 1 => by
    rw [List.replicate_succ, List.replicate_succ, List.flatten_cons, List.flatten_cons]
    exact r.append (RelWs.times r n)
theorem opG_mul {K : PySem.W.Frag} : OpG K rMuls gMul := by
  intro F st σ H x y v u P Q h l rx ry k
  unfold gMul at h
  split at h
  · cases rx; cases ry
    exact .inl ⟨_, _, rfl, rfl, h.1, k _ _ H h.2 l .refl (.int _)⟩
  · cases rx; cases ry
    obtain ⟨h1, h2, h3, h4, p⟩ := h
    exact .inr (.inl ⟨_, _, rfl, rfl, h1, h2, h3, h4, k _ _ H p l .refl (.str _)⟩)
  · cases rx with
    | lst f rs =>
      cases ry
      obtain ⟨h1, h2, h3, p⟩ := h
      refine .inr (.inr ⟨_, _, _, rfl, rfl, f.1, h1, h2, by rw [← rs.length]; exact h3, fun q hq => ?_⟩)
      exact k _ _ _ p (l.laid hq) (Step.laid l hq) (.lst (FzL.new l hq) ((rs.times _).mono (Step.laid l hq).mv))
  · exact h.elim
theorem OpR.cond {f : Value → Value → Sem Value} {C C' : Int → Int → Prop} {g : Int → Int → V} (h : OpR X f (rI C g)) (hc : ∀ i j, C' i j → C i j) : OpR X f (rI C' g) := by
  intro pins s σ H x y v u Q I rx ry q
  obtain ⟨i, j, e1, e2, c, q⟩ := q
  exact h pins s σ H x y v u Q I rx ry ⟨i, j, e1, e2, hc _ _ c, q⟩
theorem i_mul (ha : PE X a (LE X.K F Wx ia)) (hb : PE X b (LE X.K F Wx ib)) : PE X (.BinOp a .Mult b pos) (LE X.K F Wx (iB gMul ia ib)) := i_op op_muls opG_mul ha hb
abbrev gDiv := gIC (fun _ j => 0 < j ∧ Bd j) fun i j => .int (i / j)
theorem i_div (ha : PE X a (LE X.K F Wx ia)) (hb : PE X b (LE X.K F Wx ib)) : PE X (.BinOp a .FloorDiv b pos) (LE X.K F Wx (iB gDiv ia ib)) :=
  i_op (OpR.cond op_fdivW fun _ _ h => wide_div h.1 h.2.abs (by decide) (by decide)) (opG_IC fun _ _ _ _ => .int _) ha hb
abbrev gMod := gIC (fun _ j => 0 < j) fun i j => .int (i % j)
theorem i_mod (ha : PE X a (LE X.K F Wx ia)) (hb : PE X b (LE X.K F Wx ib)) : PE X (.BinOp a .Mod b pos) (LE X.K F Wx (iB gMod ia ib)) := i_op op_mod (opG_IC fun _ _ _ _ => .int _) ha hb
abbrev gPow := gIC CPow fun i j => .int (i ^ j.toNat)
def iNeg (ia : IE) : IE := fun EI st Q => ia EI st fun x st1 => match x with
  | .int i => Q (.int (-i)) st1
  | _ => False
theorem i_neg (ha : PE X a (LE X.K F Wx ia)) : PE X (.UnaryOp .USub a pos) (LE X.K F Wx (iNeg ia)) := by
  refine pe_imp (pe_un un_neg ha) fun σ H Q h => ?_
  obtain ⟨st, QI, EI, l, q, ux, k⟩ := h
  refine ⟨st, _, EI, l, q, ux, fun x st1 v H1 q1 l1 s1 r1 => ?_⟩
  split at q1
  · cases r1
    exact ⟨_, rfl, k _ _ _ H1 q1 l1 s1 (.int _)⟩
  · exact q1.elim

abbrev gLt := gI fun i j => .bl (decide (i < j))
abbrev gLe := gI fun i j => .bl (decide (i ≤ j))
abbrev gGt := gI fun i j => .bl (decide (j < i))
abbrev gGe := gI fun i j => .bl (decide (j ≤ i))
theorem og_lt {K : PySem.W.Frag} : OpG K (rI0 fun i j => .bl (decide (i < j))) gLt := opG_I fun _ _ _ _ => .bl _
theorem og_le {K : PySem.W.Frag} : OpG K (rI0 fun i j => .bl (decide (i ≤ j))) gLe := opG_I fun _ _ _ _ => .bl _
theorem og_gt {K : PySem.W.Frag} : OpG K (rI0 fun i j => .bl (decide (j < i))) gGt := opG_I fun _ _ _ _ => .bl _
theorem og_ge {K : PySem.W.Frag} : OpG K (rI0 fun i j => .bl (decide (j ≤ i))) gGe := opG_I fun _ _ _ _ => .bl _
/-- what == takes -/
def eqOk : W → W → Bool
  | .str _, .str _ => true
  | x, y => okD 64 x && okD 64 y
def gEq : W → W → (W → Prop) → Prop := fun x y P => eqOk x y = true ∧ P (.bl (eqW x y))
def gNe : W → W → (W → Prop) → Prop := fun x y P => eqOk x y = true ∧ P (.bl (!eqW x y))
def rEqS (K : PySem.W.Frag) : R2 := fun x y H Q => rEq x y H Q ∨ rEqD K x y H Q
def rNeS (K : PySem.W.Frag) : R2 := fun x y H Q => rNe x y H Q ∨ rNeD K x y H Q
theorem op_eqS (hu : X.A.units + 64 < cLine) : OpR X (compareOp .Eq) (rEqS X.K) := op_eq.or (op_eqD hu)
theorem op_neS (hu : X.A.units + 64 < cLine) : OpR X (compareOp .NotEq) (rNeS X.K) := op_ne.or (op_neD hu)
theorem eqOk_cases {x y : W} (h : eqOk x y = true) : (∃ a b, x = .str a ∧ y = .str b) ∨ okD 64 x = true ∧ okD 64 y = true := by
  unfold eqOk at h
  split at h
  · exact .inl ⟨_, _, rfl, rfl⟩
  · exact .inr (Bool.and_eq_true .. ▸ h)
theorem og_eq {K : PySem.W.Frag} : OpG K (rEqS K) gEq := by
  intro F st σ H x y v u P Q h l rx ry k
  obtain ⟨hx, p⟩ := h
  rcases eqOk_cases hx with ⟨a, b, rfl, rfl⟩ | ⟨hx, hy⟩
  · cases rx; cases ry
    refine .inl ⟨rfl, ?_⟩
    rw [dec_str]
    exact k _ _ H p l .refl (.bl _)
  · refine .inr ⟨_, _, dp_of x hx rx, dp_of y hy ry, shaped_of hx, shaped_of hy, ?_⟩
    rw [eqv_of x y hx hy]
    exact k _ _ H p l .refl (.bl _)
theorem og_ne {K : PySem.W.Frag} : OpG K (rNeS K) gNe := by
  intro F st σ H x y v u P Q h l rx ry k
  obtain ⟨hx, p⟩ := h
  rcases eqOk_cases hx with ⟨a, b, rfl, rfl⟩ | ⟨hx, hy⟩
  · cases rx; cases ry
    refine .inl ⟨rfl, ?_⟩
    rw [dec_str]
    exact k _ _ H p l .refl (.bl _)
  · refine .inr ⟨_, _, dp_of x hx rx, dp_of y hy ry, shaped_of hx, shaped_of hy, ?_⟩
    rw [eqv_of x y hx hy]
    exact k _ _ H p l .refl (.bl _)
/-- flat values -/
def flatW : W → Bool
  | .non => true
  | .bl _ => true
  | .int _ => true
  | .str _ => true
  | _ => false
theorem flat_rel {K : PySem.W.Frag} {Lv : Addr → Prop} {H : Hp} {w : W} {v : V} (f : flatW w = true) (r : RelW K Lv H w v) : flatV v = true := by
  cases r <;> first | rfl | cases f
theorem eqV_rel {K : PySem.W.Frag} {Lv : Addr → Prop} {H : Hp} {w y : W} {v u : V} (f : flatW w = true) (g : flatW y = true) (r : RelW K Lv H w v) (q : RelW K Lv H y u) : eqV v u = eqW w y := by
  cases r <;> cases q <;> first | rfl | cases f | cases g
theorem flats_rel {K : PySem.W.Frag} {Lv : Addr → Prop} {H : Hp} : ∀ {ws : List W} {vs : List V}, ws.all flatW = true → RelWs K Lv H ws vs → vs.all flatV = true
  | _, _, _, .nil => rfl
  | _, _, f, .cons h r => by
    rw [List.all_cons, Bool.and_eq_true] at f
    rw [List.all_cons, flat_rel f.1 h, flats_rel f.2 r]
    rfl
theorem inV_rel {K : PySem.W.Frag} {Lv : Addr → Prop} {H : Hp} {x : W} {v : V} (fx : flatW x = true) (rx : RelW K Lv H x v) : ∀ {ws : List W} {vs : List V}, ws.all flatW = true → RelWs K Lv H ws vs → inV v vs = ws.any fun y => eqW y x
  | _, _, _, .nil => rfl
  | _, _, f, .cons h r => by
    rw [List.all_cons, Bool.and_eq_true] at f
    show (eqV _ v || inV v _) = _
    rw [eqV_rel f.1 fx h rx, inV_rel fx rx f.2 r]
    rfl
def inW (x : W) (ws : List W) : Bool := ws.any fun y => eqW y x
def gIn (neg : Bool) : W → W → (W → Prop) → Prop := fun x y P => match y with
  | .lst ws => flatW x = true ∧ ws.all flatW = true ∧ P (.bl (if neg then !inW x ws else inW x ws))
  | .tup ws => flatW x = true ∧ ws.all flatW = true ∧ P (.bl (if neg then !inW x ws else inW x ws))
  | _ => False
theorem og_in {K : PySem.W.Frag} {neg : Bool} : OpG K (rIn K neg) (gIn neg) := by
  intro F st σ H x y v u P Q h l rx ry k
  unfold gIn at h
  split at h
  · obtain ⟨f1, f2, p⟩ := h
    cases ry with
    | lst fy rsy =>
      refine ⟨_, _, rfl, .inl fy.sq, flat_rel f1 rx, flats_rel f2 rsy, ?_⟩
      rw [inV_rel f1 rx f2 rsy]
      exact k _ _ H p l .refl (.bl _)
  · obtain ⟨f1, f2, p⟩ := h
    cases ry with
    | tup fy rsy =>
      refine ⟨_, _, rfl, .inr fy.sq, flat_rel f1 rx, flats_rel f2 rsy, ?_⟩
      rw [inV_rel f1 rx f2 rsy]
      exact k _ _ H p l .refl (.bl _)
  · exact h.elim
def isN : W → Bool
  | .non => true
  | _ => false
theorem isN_rel {K : PySem.W.Frag} {Lv : Addr → Prop} {H : Hp} {w : W} {v : V} (r : RelW K Lv H w v) : decide (v = .non) = isN w := by
  cases r <;> rfl
def gIsN (neg : Bool) : W → W → (W → Prop) → Prop := fun x y P => match y with
  | .non => P (.bl (if neg then !isN x else isN x))
  | _ => False
theorem og_isN {K : PySem.W.Frag} : OpG K (fun x y H Q => y = .non ∧ Q (.bl (decide (x = .non))) H) (gIsN false) := by
  intro F st σ H x y v u P Q h l rx ry k
  unfold gIsN at h
  split at h
  · cases ry
    refine ⟨rfl, ?_⟩
    rw [isN_rel rx]
    exact k _ _ H h l .refl (.bl _)
  · exact h.elim
theorem i_eq (hu : X.A.units + 64 < cLine) (ha : PE X a (LE X.K F Wx ia)) (hb : PE X b (LE X.K F Wx ib)) : PE X (.Compare a [.Eq] [b] pos) (LE X.K F Wx (iB gEq ia ib)) := i_cmp (op_eqS hu) og_eq ha hb (nomark _)
theorem i_ne (hu : X.A.units + 64 < cLine) (ha : PE X a (LE X.K F Wx ia)) (hb : PE X b (LE X.K F Wx ib)) : PE X (.Compare a [.NotEq] [b] pos) (LE X.K F Wx (iB gNe ia ib)) := i_cmp (op_neS hu) og_ne ha hb (nomark _)
theorem i_in (ha : PE X a (LE X.K F Wx ia)) (hb : PE X b (LE X.K F Wx ib)) (hm : behindInMarks .In b = false := by rfl) : PE X (.Compare a [.In] [b] pos) (LE X.K F Wx (iB (gIn false) ia ib)) := i_cmp op_in_seq og_in ha hb hm
def iChain (g g' : W → W → (W → Prop) → Prop) (ia ib ic : IE) : IE := fun EI st Q => ia EI st fun x st1 => ib EI st1 fun y st2 => g x y fun z => match z with
  | .bl k => if k = true then ic EI st2 fun w st3 => g' y w fun r => Q r st3 else Q (.bl false) st2
  | _ => False
theorem i_chain {op op' : CmpOp} {r r' : R2} {g g' : W → W → (W → Prop) → Prop} (ho : OpR X (compareOp op) r) (ho' : OpR X (compareOp op') r') (hg : OpG X.K r g) (hg' : OpG X.K r' g') (ha : PE X a (LE X.K F Wx ia)) (hb : PE X b (LE X.K F Wx ib)) (hc : PE X c (LE X.K F Wx ic))
    (hm : lastMarks [op, op'] [b, c] = false := by with_unfolding_all rfl) : PE X (.Compare a [op, op'] [b, c] pos) (LE X.K F Wx (iChain g g' ia ib ic)) := by
  refine pe_imp (pe_chain ho ho' ha hb hc hm) fun σ H Q h => ?_
  obtain ⟨st, QI, EI, l, q, ux, k⟩ := h
  refine ⟨st, _, EI, l, q, ux, fun x st1 v H1 q1 l1 s1 r1 => ⟨st1, _, EI, l1, q1, ux.step s1, fun y st2 u H2 q2 l2 s2 r2 => ?_⟩⟩
  refine hg q2 l2 (r1.mono s2.mv) r2 fun w z H3 p l3 s3 r3 => ?_
  split at p
  · rename_i b'
    cases r3
    refine ⟨b', rfl, ?_⟩
    cases b' with
    | true =>
      rw [if_pos rfl] at p ⊢
      refine ⟨st2, _, EI, l3, p, (ux.step (s1.trans s2)).step s3, fun w' st4 v4 H4 q4 l4 s4 r4 => ?_⟩
      exact hg' q4 l4 ((r2.mono s3.mv).mono s4.mv) r4 fun w5 z5 H5 p5 l5 s5 r5 => k w5 st4 z5 H5 p5 l5 ((((s1.trans s2).trans s3).trans s4).trans s5) r5
    | false =>
      rw [if_neg Bool.false_ne_true] at p ⊢
      exact k _ _ _ H3 p l3 ((s1.trans s2).trans s3) (.bl false)
  · exact p.elim

def gTru (x : W) (P : Bool → Prop) : Prop := match x with
  | .non => P false
  | .bl b => P b
  | .int i => P (i != 0)
  | .str y => y.length ≤ sizeLine ∧ P ((y.length : Int) != 0)
  | .tup ws => P (!ws.isEmpty)
  | .lst ws => P (!ws.isEmpty)
  | .dct ws => P (!ws.isEmpty)
  | _ => False
theorem RelWs.empty {K : PySem.W.Frag} {Lv : Addr → Prop} {H : Hp} {ws : List W} {vs : List V} (r : RelWs K Lv H ws vs) : vs.isEmpty = ws.isEmpty := by
  cases r <;> rfl
theorem RelKs.empty {K : PySem.W.Frag} {Lv : Addr → Prop} {H : Hp} {ws : List (Key × W)} {vs : List (Key × V)} (r : RelKs K Lv H ws vs) : vs.isEmpty = ws.isEmpty := by
  cases r <;> rfl
theorem tru_rel {K : PySem.W.Frag} {Lv : Addr → Prop} {H : Hp} {w : W} {v : V} {P : Bool → Prop} (h : gTru w P) (r : RelW K Lv H w v) : ∃ k, TruV K v H k ∧ P k := by
  cases r with
  | non => exact ⟨_, rfl, h⟩
  | bl b => exact ⟨_, rfl, h⟩
  | int i => exact ⟨_, rfl, h⟩
  | str x => exact ⟨_, ⟨h.1, rfl⟩, h.2⟩
  | tup f rs => exact ⟨_, .inr (.inl ⟨_, f.sq, rfl⟩), by rw [rs.empty]; exact h⟩
  | lst f rs => exact ⟨_, .inl ⟨_, f.sq, rfl⟩, by rw [rs.empty]; exact h⟩
  | dct e n rs => exact ⟨_, .inr (.inr ⟨_, e, rfl⟩), by rw [rs.empty]; exact h⟩
  | ty n => exact h.elim
  | ref a => exact h.elim
  | obj e n rs => exact h.elim
  | dcT e n rs => exact h.elim
  | exn0 => exact h.elim
  | exn1 e n rs => exact h.elim
  | scr f => exact h.elim
  | glo n => exact h.elim
/-- a value as a test -/
def tTru' (ia : IE) : IT := fun EI st Q => ia EI st fun x st1 => gTru x fun b => Q b st1
theorem t_tru (ha : PE X a (LE X.K F Wx ia)) (he : ∀ whole, isTrue a X.env whole = (do let v ← whole; standAt a.pos; holding [v] (truthy v)) := by intro _; rfl) : PT X a (LT X.K F Wx (tTru' ia)) := by
  refine pt_imp (pt_truth ha he) fun σ H Q h => ?_
  obtain ⟨st, QI, EI, l, q, ux, k⟩ := h
  refine ⟨st, _, EI, l, q, ux, fun x st1 v H1 q1 l1 s1 r1 => ?_⟩
  obtain ⟨b, t, p⟩ := tru_rel q1 r1
  exact ⟨b, t, k b st1 H1 p l1 s1⟩
/-- a comparison as a test -/
def tBl (ia : IE) : IT := fun EI st Q => ia EI st fun x st1 => match x with
  | .bl b => Q b st1
  | _ => False
theorem t_of_bl {K : PySem.W.Frag} {σ : L2.St} {H : Hp} {Q : Bool → Hp → Prop} (h : LT K F Wx (tBl ia) σ H Q) : LE K F Wx ia σ H fun x H' => ∃ k, x = .bl k ∧ Q k H' := by
  obtain ⟨st, QI, EI, l, q, ux, k⟩ := h
  refine ⟨st, _, EI, l, q, ux, fun x st1 v H1 q1 l1 s1 r1 => ?_⟩
  split at q1
  · cases r1
    exact ⟨_, rfl, k _ st1 H1 q1 l1 s1⟩
  · exact q1.elim
theorem t_cmp {op : CmpOp} {r : R2} {g : W → W → (W → Prop) → Prop} (ho : OpR X (compareOp op) r) (hg : OpG X.K r g) (ha : PE X a (LE X.K F Wx ia)) (hb : PE X b (LE X.K F Wx ib)) (hm : behindInMarks op b = false) : PT X (.Compare a [op] [b] pos) (LT X.K F Wx (tBl (iB g ia ib))) :=
  pt_imp (pt_cmpR ho ha hb hm) fun _ _ _ h => LE_op hg (t_of_bl h)
theorem t_lt (ha : PE X a (LE X.K F Wx ia)) (hb : PE X b (LE X.K F Wx ib)) : PT X (.Compare a [.Lt] [b] pos) (LT X.K F Wx (tBl (iB gLt ia ib))) := t_cmp op_lt og_lt ha hb (nomark _)
theorem t_le (ha : PE X a (LE X.K F Wx ia)) (hb : PE X b (LE X.K F Wx ib)) : PT X (.Compare a [.LtE] [b] pos) (LT X.K F Wx (tBl (iB gLe ia ib))) := t_cmp op_le og_le ha hb (nomark _)
theorem t_gt (ha : PE X a (LE X.K F Wx ia)) (hb : PE X b (LE X.K F Wx ib)) : PT X (.Compare a [.Gt] [b] pos) (LT X.K F Wx (tBl (iB gGt ia ib))) := t_cmp op_gt og_gt ha hb (nomark _)
theorem t_ge (ha : PE X a (LE X.K F Wx ia)) (hb : PE X b (LE X.K F Wx ib)) : PT X (.Compare a [.GtE] [b] pos) (LT X.K F Wx (tBl (iB gGe ia ib))) := t_cmp op_ge og_ge ha hb (nomark _)
theorem t_eq (hu : X.A.units + 64 < cLine) (ha : PE X a (LE X.K F Wx ia)) (hb : PE X b (LE X.K F Wx ib)) : PT X (.Compare a [.Eq] [b] pos) (LT X.K F Wx (tBl (iB gEq ia ib))) := t_cmp (op_eqS hu) og_eq ha hb (nomark _)
theorem t_ne (hu : X.A.units + 64 < cLine) (ha : PE X a (LE X.K F Wx ia)) (hb : PE X b (LE X.K F Wx ib)) : PT X (.Compare a [.NotEq] [b] pos) (LT X.K F Wx (tBl (iB gNe ia ib))) := t_cmp (op_neS hu) og_ne ha hb (nomark _)
theorem t_in (ha : PE X a (LE X.K F Wx ia)) (hb : PE X b (LE X.K F Wx ib)) (hm : behindInMarks .In b = false := by rfl) : PT X (.Compare a [.In] [b] pos) (LT X.K F Wx (tBl (iB (gIn false) ia ib))) := t_cmp op_in_seq og_in ha hb hm
theorem t_notin (ha : PE X a (LE X.K F Wx ia)) (hb : PE X b (LE X.K F Wx ib)) (hm : behindInMarks .NotIn b = false := by rfl) : PT X (.Compare a [.NotIn] [b] pos) (LT X.K F Wx (tBl (iB (gIn true) ia ib))) := t_cmp op_notIn_seq og_in ha hb hm
theorem t_is (ha : PE X a (LE X.K F Wx ia)) (hb : PE X b (LE X.K F Wx ib)) : PT X (.Compare a [.Is] [b] pos) (LT X.K F Wx (tBl (iB (gIsN false) ia ib))) := t_cmp op_isN og_isN ha hb (nomark _)
def tAnd' (s t : IT) : IT := fun EI st Q => s EI st fun c st1 => if c = true then t EI st1 Q else Q false st1
def tOr' (s t : IT) : IT := fun EI st Q => s EI st fun c st1 => if c = true then Q true st1 else t EI st1 Q
def tNot' (s : IT) : IT := fun EI st Q => s EI st fun c st1 => Q (!c) st1
variable {ta tb : IT} {rest : List Expr}
theorem w_and1 (ha : PT X a (LT X.K F Wx ta)) : PW X (.BoolOp .And [a] pos) (LT X.K F Wx ta) := pw_and1 ha
theorem w_or1 (ha : PT X a (LT X.K F Wx ta)) : PW X (.BoolOp .Or [a] pos) (LT X.K F Wx ta) := pw_or1 ha
theorem w_and (ha : PT X a (LT X.K F Wx ta)) (hb : PW X (.BoolOp .And (b :: rest) pos) (LT X.K F Wx tb)) : PW X (.BoolOp .And (a :: b :: rest) pos) (LT X.K F Wx (tAnd' ta tb)) := by
  refine pw_imp (pw_and ha hb) fun σ H Q h => ?_
  obtain ⟨st, QI, EI, l, q, ux, k⟩ := h
  refine ⟨st, _, EI, l, q, ux, fun c st1 H1 q1 l1 s1 => ?_⟩
  cases c with
  | true =>
    rw [if_pos rfl] at q1 ⊢
    exact ⟨st1, _, EI, l1, q1, ux.step s1, fun b st2 H2 q2 l2 s2 => k b st2 H2 q2 l2 (s1.trans s2)⟩
  | false =>
    rw [if_neg Bool.false_ne_true] at q1 ⊢
    exact k _ _ H1 q1 l1 s1
theorem w_or (ha : PT X a (LT X.K F Wx ta)) (hb : PW X (.BoolOp .Or (b :: rest) pos) (LT X.K F Wx tb)) : PW X (.BoolOp .Or (a :: b :: rest) pos) (LT X.K F Wx (tOr' ta tb)) := by
  refine pw_imp (pw_or ha hb) fun σ H Q h => ?_
  obtain ⟨st, QI, EI, l, q, ux, k⟩ := h
  refine ⟨st, _, EI, l, q, ux, fun c st1 H1 q1 l1 s1 => ?_⟩
  cases c with
  | true =>
    rw [if_pos rfl] at q1 ⊢
    exact k _ _ H1 q1 l1 s1
  | false =>
    rw [if_neg Bool.false_ne_true] at q1 ⊢
    exact ⟨st1, _, EI, l1, q1, ux.step s1, fun b st2 H2 q2 l2 s2 => k b st2 H2 q2 l2 (s1.trans s2)⟩
theorem t_not (ha : PT X a (LT X.K F Wx ta)) : PT X (.UnaryOp .Not a pos) (LT X.K F Wx (tNot' ta)) := by
  refine pt_imp (pt_not ha) fun σ H Q h => ?_
  obtain ⟨st, QI, EI, l, q, ux, k⟩ := h
  exact ⟨st, _, EI, l, q, ux, fun c st1 H1 q1 l1 s1 => k _ _ H1 q1 l1 s1⟩
def iIf (t : IT) (ia ib : IE) : IE := fun EI st Q => t EI st fun c st1 => if c = true then ia EI st1 Q else ib EI st1 Q
theorem i_if (hc : PT X c (LT X.K F Wx ta)) (ha : PE X a (LE X.K F Wx ia)) (hb : PE X b (LE X.K F Wx ib)) : PE X (.IfExp c a b pos) (LE X.K F Wx (iIf ta ia ib)) := by
  refine pe_imp (pe_ifExp hc ha hb) fun σ H Q h => ?_
  obtain ⟨st, QI, EI, l, q, ux, k⟩ := h
  refine ⟨st, _, EI, l, q, ux, fun c st1 H1 q1 l1 s1 => ?_⟩
  cases c with
  | true =>
    rw [if_pos rfl] at q1 ⊢
    exact ⟨st1, _, EI, l1, q1, ux.step s1, fun w st2 v H2 q2 l2 s2 r2 => k w st2 v H2 q2 l2 (s1.trans s2) r2⟩
  | false =>
    rw [if_neg Bool.false_ne_true] at q1 ⊢
    exact ⟨st1, _, EI, l1, q1, ux.step s1, fun w st2 v H2 q2 l2 s2 r2 => k w st2 v H2 q2 l2 (s1.trans s2) r2⟩
/-- and, or, not as values -/
def iAnd (ia ib : IE) : IE := fun EI st Q => ia EI st fun x st1 => gTru x fun b => if b = true then ib EI st1 Q else Q x st1
def iOr (ia ib : IE) : IE := fun EI st Q => ia EI st fun x st1 => gTru x fun b => if b = true then Q x st1 else ib EI st1 Q
def iNot (ia : IE) : IE := fun EI st Q => ia EI st fun x st1 => gTru x fun b => Q (.bl (!b)) st1
theorem i_one {op : BoolOp} (h : PE X a (LE X.K F Wx ia)) : PE X (.BoolOp op [a] pos) (LE X.K F Wx ia) := pe_one h
theorem i_and (ha : PE X a (LE X.K F Wx ia)) (hb : PE X (.BoolOp .And (b :: rest) pos) (LE X.K F Wx ib)) : PE X (.BoolOp .And (a :: b :: rest) pos) (LE X.K F Wx (iAnd ia ib)) := by
  refine pe_imp (pe_andT ha hb) fun σ H Q h => ?_
  obtain ⟨st, QI, EI, l, q, ux, k⟩ := h
  refine ⟨st, _, EI, l, q, ux, fun x st1 v H1 q1 l1 s1 r1 => ?_⟩
  obtain ⟨c, t, p⟩ := tru_rel q1 r1
  refine ⟨c, t, ?_⟩
  cases c with
  | true =>
    rw [if_pos rfl] at p ⊢
    exact ⟨st1, _, EI, l1, p, ux.step s1, fun w st2 v H2 q2 l2 s2 r2 => k w st2 v H2 q2 l2 (s1.trans s2) r2⟩
  | false =>
    rw [if_neg Bool.false_ne_true] at p ⊢
    exact k _ _ _ H1 p l1 s1 r1
theorem i_or (ha : PE X a (LE X.K F Wx ia)) (hb : PE X (.BoolOp .Or (b :: rest) pos) (LE X.K F Wx ib)) : PE X (.BoolOp .Or (a :: b :: rest) pos) (LE X.K F Wx (iOr ia ib)) := by
  refine pe_imp (pe_orT ha hb) fun σ H Q h => ?_
  obtain ⟨st, QI, EI, l, q, ux, k⟩ := h
  refine ⟨st, _, EI, l, q, ux, fun x st1 v H1 q1 l1 s1 r1 => ?_⟩
  obtain ⟨c, t, p⟩ := tru_rel q1 r1
  refine ⟨c, t, ?_⟩
  cases c with
  | true =>
    rw [if_pos rfl] at p ⊢
    exact k _ _ _ H1 p l1 s1 r1
  | false =>
    rw [if_neg Bool.false_ne_true] at p ⊢
    exact ⟨st1, _, EI, l1, p, ux.step s1, fun w st2 v H2 q2 l2 s2 r2 => k w st2 v H2 q2 l2 (s1.trans s2) r2⟩
theorem i_not (ha : PE X a (LE X.K F Wx ia)) : PE X (.UnaryOp .Not a pos) (LE X.K F Wx (iNot ia)) := by
  refine pe_imp (pe_notT ha) fun σ H Q h => ?_
  obtain ⟨st, QI, EI, l, q, ux, k⟩ := h
  refine ⟨st, _, EI, l, q, ux, fun x st1 v H1 q1 l1 s1 r1 => ?_⟩
  obtain ⟨c, t, p⟩ := tru_rel q1 r1
  exact ⟨c, t, k _ _ _ H1 p l1 s1 (.bl _)⟩
end
end Sh
namespace Sh
open PySem L2
open PyProof.Rows hiding St
section
variable {X : Cx} {F : Addr → Prop} {Wx : WX} {a b c e : Expr} {es : List Expr} {pos : Pos} {ia ib ic : IE}
def atW (ws : List W) (i : Int) (P : W → Prop) : Prop := match atI ws i with
  | some w => P w
  | none => False
theorem atW_inv {ws : List W} {i : Int} {P : W → Prop} (h : atW ws i P) : ∃ w, atI ws i = some w ∧ P w := by
  unfold atW at h
  split at h
  · exact ⟨_, by assumption, h⟩
  · exact h.elim
theorem atI_rel {K : PySem.W.Frag} {Lv : Addr → Prop} {H : Hp} {ws : List W} {vs : List V} {i : Int} {w : W} (r : RelWs K Lv H ws vs) (e : atI ws i = some w) : ∃ v, atI vs i = some v ∧ RelW K Lv H w v := by
  unfold atI at e ⊢
  rw [← r.length]
  cases q : ixN ws.length i with
  | none => rw [q] at e; cases e
  | some j =>
    rw [q, Option.bind_some] at e
    rw [Option.bind_some]
    exact r.get e
/-- an item; of the store's lists too -/
def gIx (st : Stt) (x y : W) (P : W → Prop) : Prop := match x, y with
  | .tup ws, .int i => atW ws i P
  | .lst ws, .int i => atW ws i P
  | .ref a, .int i => (match st.S a with
    | some (.lst ws) => atW ws i P
    | _ => False)
  | .str z, .int i => z.length ≤ sizeLine ∧ (match atI z.cps.toList i with
    | some c => P (.str ⟨#[c]⟩)
    | none => False)
  | _, _ => False
def iIx (ia ib : IE) : IE := fun EI st Q => ia EI st fun x st1 => ib EI st1 fun y st2 => gIx st2 x y fun w => Q w st2
theorem ix_rel {K : PySem.W.Frag} {st : Stt} {σ : L2.St} {H : Hp} {x y : W} {v u : V} {P : W → Prop} {Q : VK} (h : gIx st x y P) (l : Lk K F st σ H) (rx : RelW K (Live F st σ) H x v) (ry : RelW K (Live F st σ) H y u)
    (k : ∀ w z, P w → RelW K (Live F st σ) H w z → Q z H) : rIx K v u H Q := by
  unfold gIx at h
  split at h
  · obtain ⟨w, e, p⟩ := atW_inv h
    cases rx with
    | tup f r =>
      cases ry
      obtain ⟨z, ez, rz⟩ := atI_rel r e
      exact .inr (.inl ⟨_, _, _, z, rfl, rfl, f.sq, ez, k w z p rz⟩)
  · obtain ⟨w, e, p⟩ := atW_inv h
    cases rx with
    | lst f r =>
      cases ry
      obtain ⟨z, ez, rz⟩ := atI_rel r e
      exact .inl ⟨_, _, _, z, rfl, rfl, f.sq, ez, k w z p rz⟩
  · split at h
    · rename_i ws es
      obtain ⟨w, e, p⟩ := atW_inv h
      cases rx
      cases ry
      obtain ⟨vs, ev, r⟩ := l.sto _ _ es
      obtain ⟨z, ez, rz⟩ := atI_rel r e
      exact .inl ⟨_, _, _, z, rfl, rfl, SqL.of ev, ez, k w z p rz⟩
    · exact h.elim
  · obtain ⟨hl, h⟩ := h
    cases rx
    cases ry
    split at h
    · rename_i c ec
      exact .inr (.inr ⟨_, _, c, rfl, rfl, hl, ec, k _ _ h (.str _)⟩)
    · exact h.elim
  · exact h.elim
theorem i_ix (ha : PE X a (LE X.K F Wx ia)) (hb : PE X b (LE X.K F Wx ib)) (hs : PlainIx b := by intro _ _; rfl) : PE X (.Subscript a b pos) (LE X.K F Wx (iIx ia ib)) := by
  refine pe_imp (pe_ix ix_seq ha hb hs) fun σ H Q h => ?_
  obtain ⟨st, QI, EI, l, q, ux, k⟩ := h
  refine ⟨st, _, EI, l, q, ux, fun x st1 v H1 q1 l1 s1 r1 => ⟨st1, _, EI, l1, q1, ux.step s1, fun y st2 u H2 q2 l2 s2 r2 => ?_⟩⟩
  exact ix_rel q2 l2 (r1.mono s2.mv) r2 fun w z p r => k w st2 z H2 p l2 (s1.trans s2) r
/-- an item of an owned list, which stays owned -/
def ownL (st : Stt) (i : Nat) (P : List W → Prop) : Prop := match st.ρ[i]? with
  | some (.own (.lst ws)) => P ws
  | _ => False
theorem ownL_inv {st : Stt} {i : Nat} {P : List W → Prop} (h : ownL st i P) : ∃ ws, st.ρ[i]? = some (.own (.lst ws)) ∧ P ws := by
  unfold ownL at h
  split at h
  · exact ⟨_, by assumption, h⟩
  · exact h.elim
def iIxO (i : Nat) (ib : IE) : IE := fun EI st Q => ownL st i fun _ => ib EI st fun y st1 => ownL st1 i fun ws => match y with
  | .int j => atW ws j fun w => Q w st1
  | _ => False
theorem i_ixO {i : Nat} {x : Str} {px : Pos} (hb : PE X b (LE X.K F Wx ib)) (hN : X.N[i]? = some x := by rfl) (hv : Vis X.env.scope x := by first | exact Or.inl rfl | exact Or.inr (Or.inl rfl) | exact Or.inr (Or.inr rfl)) (hd : (x == ("__debug__" : Str)) = false := by decide)
    (hcd : (x == ("__classdict__" : Str)) = false := by decide) (hs : PlainIx b := by intro _ _; rfl) : PE X (.Subscript (.Name x px) b pos) (LE X.K F Wx (iIxO i ib)) := by
  refine pe_imp (pe_ix ix_seq (pe_var hN hv hd hcd) hb hs) fun σ H Q h => ?_
  obtain ⟨st, QI, EI, l, q, ux, k⟩ := h
  obtain ⟨ws0, e0, q⟩ := ownL_inv q
  obtain ⟨a, ea, _⟩ := l.own i _ e0
  refine ⟨.ref a, ea, st, _, EI, l, q, ux, fun y st1 u H1 q1 l1 s1 r1 => ?_⟩
  obtain ⟨ws, es, q1⟩ := ownL_inv q1
  split at q1
  · rename_i j
    obtain ⟨w, e, p⟩ := atW_inv q1
    obtain ⟨a', ea', ⟨vs, hv, r⟩, _, _⟩ := l1.own i _ es
    rw [ea] at ea'
    cases ea'
    cases r1
    obtain ⟨z, ez, rz⟩ := atI_rel r e
    exact .inl ⟨_, _, _, z, rfl, rfl, SqL.of hv, ez, k w st1 z H1 p l1 s1 rz⟩
  · exact q1.elim

abbrev IO' := XI → Stt → (Option Int → Stt → Prop) → Prop
def LO (K : PySem.W.Frag) (F : Addr → Prop) (Wx : WX) (i : IO') : TO := fun σ H Q => ∃ st QI EI, Lk K F st σ H ∧ i EI st QI ∧ UpX K F Wx st σ H EI ∧
  ∀ o st' H', QI o st' → Lk K F st' σ H' → Step st σ H st' σ H' → Q o H'
theorem po_imp {X : Cx} {e : Option Expr} {t t' : TO} (h : PO X e t) (m : ∀ σ H Q, t' σ H Q → t σ H Q) : PO X e t' := ⟨fun pins s σ H Q I q => h.run pins s σ H Q I (m _ _ _ q)⟩
def oNone : IO' := fun _ st Q => Q none st
def oSome (ia : IE) : IO' := fun EI st Q => ia EI st fun x st1 => match x with
  | .int i => Q (some i) st1
  | _ => False
theorem o_none : PO X none (LO X.K F Wx oNone) := by
  refine po_imp po_none fun σ H Q h => ?_
  obtain ⟨st, QI, EI, l, q, ux, k⟩ := h
  exact k none st H q l .refl
theorem o_some (ha : PE X a (LE X.K F Wx ia)) : PO X (some a) (LO X.K F Wx (oSome ia)) := by
  refine po_imp (po_some ha) fun σ H Q h => ?_
  obtain ⟨st, QI, EI, l, q, ux, k⟩ := h
  refine ⟨st, _, EI, l, q, ux, fun x st1 v H1 q1 l1 s1 r1 => ?_⟩
  split at q1
  · cases r1
    exact ⟨_, rfl, k _ _ H1 q1 l1 s1⟩
  · exact q1.elim
def cutW {α : Type} (xs : List α) (lo hi : Option Int) : List α := (xs.drop (HT.sIx xs.length 0 lo)).take (HT.sIx xs.length xs.length hi - HT.sIx xs.length 0 lo)
theorem cut_rel {K : PySem.W.Frag} {Lv : Addr → Prop} {H : Hp} {ws : List W} {vs : List V} (r : RelWs K Lv H ws vs) (lo hi : Option Int) : RelWs K Lv H (cutW ws lo hi) (cutV vs lo hi) := by
  unfold cutW cutV
  rw [r.length]
  exact (r.drop _).take _
def rSls (K : PySem.W.Frag) : V → Option Int → Option Int → Hp → VK → Prop := fun x lo hi H Q => rSlA K x lo hi H Q ∨ rSlL K x lo hi H Q
theorem sl_any : SlR X (rSls X.K) := sl_tupA.or sl_list
def gSl (x : W) (lo hi : Option Int) (P : W → Prop) : Prop := match x with
  | .tup ws => P (.tup (cutW ws lo hi))
  | .lst ws => P (.lst (cutW ws lo hi))
  | .scr ns => P (.lst ((cutW ns lo hi).map .int))
  | _ => False
theorem cutV_map (ns : List Int) (lo hi : Option Int) : cutV (ns.map V.int) lo hi = (cutW ns lo hi).map V.int := by
  unfold cutW cutV
  rw [List.length_map, List.map_take, List.map_drop]
theorem cut_whole {α : Type} {xs : List α} {lo hi : Option Int} (h : HT.sIx xs.length 0 lo = 0 ∧ HT.sIx xs.length xs.length hi = xs.length) : cutW xs lo hi = xs := by
  unfold cutW
  rw [h.1, h.2]
  simp
theorem sl_rel {K : PySem.W.Frag} {st : Stt} {σ : L2.St} {H : Hp} {x : W} {v : V} {lo hi : Option Int} {P : W → Prop} {Q : VK} (h : gSl x lo hi P) (l : Lk K F st σ H) (rx : RelW K (Live F st σ) H x v)
    (k : ∀ w z H', P w → Lk K F st σ H' → Step st σ H st σ H' → RelW K (Live F st σ) H' w z → Q z H') : rSls K v lo hi H Q := by
  unfold gSl at h
  split at h
  · cases rx with
    | tup f r =>
      rename_i a vs
      refine .inl ⟨a, vs, rfl, f.sq, fun e => ?_, fun _ p hp => ?_⟩
      · rw [cut_whole (by rw [r.length]; exact e)] at h
        exact k _ _ H h l .refl (.tup f r)
      · have s := Step.laid (o := .tup (cutV vs lo hi)) l hp
        exact k _ _ _ h (l.laid hp) s (.tup (FzT.new l hp) ((cut_rel r lo hi).mono s.mv))
  · cases rx with
    | lst f r =>
      rename_i a vs
      refine .inr ⟨a, vs, rfl, f.sq, fun p hp => ?_⟩
      have s := Step.laid (o := .lst (cutV vs lo hi)) l hp
      exact k _ _ _ h (l.laid hp) s (.lst (FzL.new l hp) ((cut_rel r lo hi).mono s.mv))
  · cases rx with
    | scr f =>
      rename_i ns a
      refine .inr ⟨a, _, rfl, f.sq, fun p hp => ?_⟩
      have s := Step.laid (o := .lst (cutV (ns.map V.int) lo hi)) l hp
      refine k _ _ _ h (l.laid hp) s (.lst (FzL.new l hp) ?_)
      rw [cutV_map]
      exact RelWs.ints _
  · exact h.elim
def iSl (ia : IE) (lo hi : IO') : IE := fun EI st Q => ia EI st fun x st1 => lo EI st1 fun i st2 => hi EI st2 fun j st3 => gSl x i j fun w => Q w st3
theorem i_sl {lo hi : Option Expr} {il ih : IO'} {p2 : Pos} (ha : PE X a (LE X.K F Wx ia)) (hl : PO X lo (LO X.K F Wx il)) (hh : PO X hi (LO X.K F Wx ih)) : PE X (.Subscript a (.Slice lo hi none p2) pos) (LE X.K F Wx (iSl ia il ih)) := by
  refine pe_imp (pe_slice sl_any ha hl hh) fun σ H Q h => ?_
  obtain ⟨st, QI, EI, l, q, ux, k⟩ := h
  refine ⟨st, _, EI, l, q, ux, fun x st1 v H1 q1 l1 s1 r1 => ⟨st1, _, EI, l1, q1, ux.step s1, fun i st2 H2 q2 l2 s2 => ⟨st2, _, EI, l2, q2, ux.step (s1.trans s2), fun j st3 H3 q3 l3 s3 => ?_⟩⟩⟩
  exact sl_rel q3 l3 ((r1.mono s2.mv).mono s3.mv) fun w z H4 p l4 s4 r4 => k w st3 z H4 p l4 (((s1.trans s2).trans s3).trans s4) r4
/-- xs[::-1], a list -/
def iRevL (ia : IE) : IE := fun EI st Q => ia EI st fun x st1 => match x with
  | .lst ws => Q (.lst ws.reverse) st1
  | _ => False
theorem i_revL {k' : Nat} {p1 p2 p3 : Pos} (ha : PE X a (LE X.K F Wx ia)) : PE X (.Subscript a (.Slice none none (some (.UnaryOp .USub (.Constant (.int 1) k' p1) p2)) p3) pos) (LE X.K F Wx (iRevL ia)) := by
  refine pe_imp (pe_revL ha) fun σ H Q h => ?_
  obtain ⟨st, QI, EI, l, q, ux, k⟩ := h
  refine ⟨st, _, EI, l, q, ux, fun x st1 v H1 q1 l1 s1 r1 => ?_⟩
  split at q1
  · cases r1 with
    | lst f r =>
      rename_i a' vs
      refine ⟨a', vs, rfl, f.sq, fun p hp => ?_⟩
      have s := Step.laid (o := .lst vs.reverse) l1 hp
      exact k _ _ _ _ q1 (l1.laid hp) (s1.trans s) (.lst (FzL.new l1 hp) (r.reverse.mono s.mv))
  · exact q1.elim

def iCall (spec : ISp) (i : IA) : IE := fun EI st Q => i EI st fun ws st1 => spec ws st1.S (fun r S' => Q r.fz { st1 with S := S' }) fun x S' => EI x { st1 with S := S' }
def nCall (spec : ISp) (i : IA) : IN := fun EI st Q => i EI st fun ws st1 => spec ws st1.S (fun r S' => match r with
  | .new o => Q o { st1 with S := S' }
  | .val _ => False) fun x S' => EI x { st1 with S := S' }
theorem RetOk.fz {K : PySem.W.Frag} {st : Stt} {σ : L2.St} {H : Hp} {r : R} {S' : Sto} {v : V} {H' : Hp} (l : Lk K F st σ H) (h : RetOk K F st σ H r S' v H') : Lk K F ⟨[], S'⟩ [] H' ∧ RelW K (Live F ⟨[], S'⟩ []) H' r.fz v := by
  obtain ⟨s, h⟩ := h
  cases r with
  | val w => exact h
  | new o =>
    obtain ⟨a, rfl, l2, r, n⟩ := h
    have m : Mv (Live (FA F a) ⟨[], S'⟩ []) H' (Live F ⟨[], S'⟩ []) H' := mv_same fun b z => z.imp id .inl
    refine ⟨l2.less fun _ z => .inl z, (r.move (fun _ z => z) m).fz fun z => ?_⟩
    rcases z with (z | z) | z
    · exact z (l2.fdis a (.inr rfl))
    · exact ow_nil z
    · exact NewAt.nf l n z
/-- a promise is kept at a call -/
theorem call_ok {K : PySem.W.Frag} {n : Nat} {spec : ISp} {st : Stt} {σ : L2.St} {H : Hp} {ws : List W} {vs : List V} {QI : R → Sto → Prop} {EI : XI} {Q : VK} (l : Lk K F st σ H) (r : RelWs K (Live F st σ) H ws vs) (hn : ws.length = n)
    (hs : spec ws st.S QI fun x S' => EI x { st with S := S' }) (ux : UpX K F Wx st σ H EI)
    (k : ∀ r S' v H', QI r S' → RetOk K (Fo F st σ) ⟨[], st.S⟩ [] H r S' v H' → Q v H') : spI K n spec vs H Q (WE Wx σ) := by
  refine ⟨Fo F st σ, st.S, ws, _, _, l.enter, r.mono (mv_same fun a z => live_enter.mp z), hn, hs, k, fun x S' cls d H' e l2 s2 rx => ?_⟩
  obtain ⟨l3, s3⟩ := l.back s2 l2 (fun _ z => z) fun a z => .inl z
  refine ux x { st with S := S' } cls d H' e l3 s3 ?_
  obtain ⟨e1, z⟩ := rx
  refine ⟨e1, z.imp id ?_⟩
  rintro ⟨a, vs', e2, e3, e4, e5⟩
  have lv : ∀ b, Live F { st with S := S' } σ b → Live (Fo F st σ) ⟨[], S'⟩ [] b := fun b z => (live_enter (F := F) (st := { st with S := S' }) (σ := σ)).mpr z
  exact ⟨a, vs', e2, e3, fun z => e4 (lv a z), e5.mono (mv_same lv)⟩
theorem call_val {K : PySem.W.Frag} {n : Nat} {spec : ISp} {ia : IA} {σ : L2.St} {H : Hp} {Q : VK} (h : LE K F Wx (iCall spec ia) σ H Q) : tCallS (spI K n spec) (WE Wx) (LA K F Wx n ia) σ H Q := by
  obtain ⟨st, QI, EI, l, q, ux, k⟩ := h
  refine ⟨st, _, EI, l, q, ux, fun ws st1 vs H1 hn q1 l1 s1 r1 => ?_⟩
  refine call_ok l1 r1 hn q1 (ux.step s1) fun r S' v H2 q2 h2 => ?_
  have ⟨l2, rv⟩ := h2.fz l1.enter
  obtain ⟨l3, s3⟩ := l1.back h2.1 l2 (fun _ z => z) fun a z => .inl z
  exact k r.fz _ v H2 q2 l3 (s1.trans s3) (rv.mono (mv_same fun b z => (live_enter (F := F) (st := { st1 with S := S' }) (σ := σ)).mpr z))
theorem call_new {K : PySem.W.Frag} {n : Nat} {spec : ISp} {ia : IA} {σ : L2.St} {H : Hp} {Q : VK} (h : LN K F Wx (nCall spec ia) σ H Q) : tCallS (spI K n spec) (WE Wx) (LA K F Wx n ia) σ H Q := by
  obtain ⟨st, QI, EI, l, q, ux, k⟩ := h
  refine ⟨st, _, EI, l, q, ux, fun ws st1 vs H1 hn q1 l1 s1 r1 => ?_⟩
  refine call_ok l1 r1 hn q1 (ux.step s1) fun r S' v H2 q2 h2 => ?_
  cases r with
  | val w => exact q2.elim
  | new o =>
    obtain ⟨s2, a, rfl, l2, ro, na⟩ := h2
    have na1 : NewAt st1 σ H1 a := na.imp (fun z => z.elim .inl fun z => (ow_nil z).elim) id
    have l2' : Lk K (Fo (FA F a) st1 σ) ⟨[], S'⟩ [] H2 := l2.less fun b z => by
      rcases z with (z | z) | z
      · exact .inl (.inl z)
      · exact .inr z
      · exact .inl (.inr z)
    obtain ⟨l3, s3⟩ := l1.back (F2 := FA F a) s2 l2' (fun _ z => .inl z) fun b z => by
      rcases z with z | z
      · exact .inl z
      · rw [z]
        rcases na with (z | z) | z
        · exact .inr (.inl z)
        · exact (ow_nil z).elim
        · exact .inr (.inr z)
    refine k o _ a H2 q2 l3 (s1.trans s3) (ro.move (fun _ z => z) (mv_same fun b z => ?_)) (na1.step s1)
    have z2 := (live_enter (F := FA F a) (st := { st1 with S := S' }) (σ := σ)).mpr z
    rcases z2 with z2 | z2
    · exact .inl z2
    · rcases z2 with (z2 | z2) | z2
      · exact .inr (.inl (.inl z2))
      · exact .inr (.inr z2)
      · exact .inr (.inl (.inr z2))
variable {k' : Nat} {f : Addr} {fd : FuncData} {ps : List Str} {spec : ISp} {x : Str} {p : Pos} {n : Nat} {i : IA}
theorem run_fnG {pins : List (Addr × Obj)} {σ : L2.St} {H : Hp} {s : Shared} {Q : VK} {us : List Value} {vs : List V} {sp : Sp} (G : FnG X.prog X.w X.K X.mg X.base k' f fd ps sp) (hr : Room k' X.A) (hgd : X.A.guards = some []) (tk : Takes X Wx) (hb : Binds X.K fd ps [])
    (I : Inv X pins σ H s) (r : Vals vs us) (h : sp vs H Q (WE Wx σ)) : wpAny (model X.prog X.w) X.A (call (.ref f) us) (EP X pins σ Q) X.xe s := by
  have hl : us.length = ps.length := r.length.symm.trans (G.len h)
  have bd := hb s us I.kIn (by simpa using hl)
  rw [List.append_nil] at bd
  refine wpAny_call (codeAny_mono (G.go hr hgd I.env0 bd r h) fun res s' q => ?_)
  cases res with
  | error e => exact passAt tk σ pins H s e s' I q
  | ok fl => cases fl <;> first | exact I.after q | exact q.elim
theorem pe_callG {sp : Sp} {t : TA} (G : FnG X.prog X.w X.K X.mg X.base k' f fd ps sp) (hr : Room k' X.A) (hgd : X.A.guards = some []) (tk : Takes X Wx) (hm : X.mg x = some (.ref f)) (hk : PySem.W.keepIn X.K (.ref f) = true) (hb : Binds X.K fd ps [])
    (ha : PA X (e :: es) t) (hg : Gl X x) (hdb : (x == ("__debug__" : Str)) = false) (he : starEach (e :: es) X.env = (false, eval e X.env) :: starEach es X.env) (hpl : (backTo pos (starEach es X.env)).any (·.1) = false) :
    PE X (.Call (.Name x p) (e :: es) [] pos) (tCallS sp (WE Wx) t) := by
  refine ⟨fun pins s σ H Q I h => wpAny_Call_Name_kw (ld_glob I hg hm ?_ hdb)⟩
  exact PySem.W.callWith_K (h₀ := X.base) I.ok.mod.kin hk (thn (ha.run pos pins s σ H _ I h) fun us s1 ⟨vs, H1, I1, r, q⟩ => ⟨I1.kIn, run_fnG G hr hgd tk hb I1 r q⟩) he hpl
theorem i_call (G : FnG X.prog X.w X.K X.mg X.base k' f fd ps (spI X.K n spec)) (hr : Room k' X.A) (hgd : X.A.guards = some []) (tk : Takes X Wx) (hm : X.mg x = some (.ref f)) (hk : PySem.W.keepIn X.K (.ref f) = true) (hb : Binds X.K fd ps [])
    (ha : PA X (e :: es) (LA X.K F Wx n i)) (hg : Gl X x := by rfl) (hdb : (x == ("__debug__" : Str)) = false := by decide) (he : starEach (e :: es) X.env = (false, eval e X.env) :: starEach es X.env := by rfl) (hpl : (backTo pos (starEach es X.env)).any (·.1) = false := by rfl) :
    PE X (.Call (.Name x p) (e :: es) [] pos) (LE X.K F Wx (iCall spec i)) :=
  pe_imp (pe_callG G hr hgd tk hm hk hb ha hg hdb he hpl) fun _ _ _ h => call_val h
theorem n_call (G : FnG X.prog X.w X.K X.mg X.base k' f fd ps (spI X.K n spec)) (hr : Room k' X.A) (hgd : X.A.guards = some []) (tk : Takes X Wx) (hm : X.mg x = some (.ref f)) (hk : PySem.W.keepIn X.K (.ref f) = true) (hb : Binds X.K fd ps [])
    (ha : PA X (e :: es) (LA X.K F Wx n i)) (hg : Gl X x := by rfl) (hdb : (x == ("__debug__" : Str)) = false := by decide) (he : starEach (e :: es) X.env = (false, eval e X.env) :: starEach es X.env := by rfl) (hpl : (backTo pos (starEach es X.env)).any (·.1) = false := by rfl) :
    PE X (.Call (.Name x p) (e :: es) [] pos) (LN X.K F Wx (nCall spec i)) :=
  pe_imp (pe_callG G hr hgd tk hm hk hb ha hg hdb he hpl) fun _ _ _ h => call_new h
theorem pe_callG0 {sp : Sp} (G : FnG X.prog X.w X.K X.mg X.base k' f fd ps sp) (hr : Room k' X.A) (hgd : X.A.guards = some []) (tk : Takes X Wx) (hm : X.mg x = some (.ref f)) (hk : PySem.W.keepIn X.K (.ref f) = true) (hb : Binds X.K fd ps [])
    (hg : Gl X x) (hdb : (x == ("__debug__" : Str)) = false) : PE X (.Call (.Name x p) [] [] pos) (tCallS sp (WE Wx) tNil) := by
  refine ⟨fun pins s σ H Q I h => wpAny_Call_Name_kw (ld_glob I hg hm ?_ hdb)⟩
  exact PySem.W.callWith_K0 I.kIn hk (run_fnG (us := []) G hr hgd tk hb I .nil h)
theorem la_nil {K : PySem.W.Frag} {σ : L2.St} {H : Hp} {Q : List V → Hp → Prop} (h : LA K F Wx 0 iNil σ H Q) : tNil σ H Q := by
  obtain ⟨st, QI, EI, l, q, ux, k⟩ := h
  exact k [] st [] H rfl q l .refl .nil
theorem i_call0 (G : FnG X.prog X.w X.K X.mg X.base k' f fd ps (spI X.K 0 spec)) (hr : Room k' X.A) (hgd : X.A.guards = some []) (tk : Takes X Wx) (hm : X.mg x = some (.ref f)) (hk : PySem.W.keepIn X.K (.ref f) = true) (hb : Binds X.K fd ps [])
    (hg : Gl X x := by rfl) (hdb : (x == ("__debug__" : Str)) = false := by decide) : PE X (.Call (.Name x p) [] [] pos) (LE X.K F Wx (iCall spec iNil)) :=
  pe_imp (pe_callG0 G hr hgd tk hm hk hb hg hdb) fun _ _ _ h => la_nil (call_val (n := 0) h)
def BtG (K : PySem.W.Frag) (r : List V → Hp → VK → Prop) (g : List W → (W → Prop) → Prop) : Prop :=
  ∀ {F : Addr → Prop} {st : Stt} {σ : L2.St} {H : Hp} {ws : List W} {vs : List V} {P : W → Prop} {Q : VK}, g ws P → Lk K F st σ H → RelWs K (Live F st σ) H ws vs →
    (∀ w z H', P w → Lk K F st σ H' → Step st σ H st σ H' → RelW K (Live F st σ) H' w z → Q z H') → r vs H Q
def iFn (g : List W → (W → Prop) → Prop) (i : IA) : IE := fun EI st Q => i EI st fun ws st1 => g ws fun w => Q w st1
theorem fn_val {K : PySem.W.Frag} {r : List V → Hp → VK → Prop} {g : List W → (W → Prop) → Prop} (hg : BtG K r g) {σ : L2.St} {H : Hp} {Q : VK} (h : LE K F Wx (iFn g i) σ H Q) : tCB r (LA K F Wx n i) σ H Q := by
  obtain ⟨st, QI, EI, l, q, ux, k⟩ := h
  refine ⟨st, _, EI, l, q, ux, fun ws st1 vs H1 hn q1 l1 s1 r1 => ?_⟩
  exact hg q1 l1 r1 fun w z H2 p l2 s2 r2 => k w st1 z H2 p l2 (s1.trans s2) r2
theorem i_fn {id : String} {r : List V → Hp → VK → Prop} {g : List W → (W → Prop) → Prop} (hc : CallR X (.builtin id) r) (hgf : BtG X.K r g) (hm : X.mg x = none) (hv : bootBuiltins x = some (.builtin id)) (ha : PA X (e :: es) (LA X.K F Wx n i)) (hg : Gl X x := by rfl) (hn : x ≠ "__name__" := by decide)
    (hdb : (x == ("__debug__" : Str)) = false := by decide) (he : starEach (e :: es) X.env = (false, eval e X.env) :: starEach es X.env := by rfl) (hpl : (backTo pos (starEach es X.env)).any (·.1) = false := by rfl) : PE X (.Call (.Name x p) (e :: es) [] pos) (LE X.K F Wx (iFn g i)) :=
  pe_imp (pe_callB hc hg hm hv ha hn hdb he hpl) fun _ _ _ h => fn_val hgf h
theorem i_ty {T : String} {r : List V → Hp → VK → Prop} {g : List W → (W → Prop) → Prop} (hc : CallR X (.type T) r) (hgf : BtG X.K r g) (hm : X.mg x = none) (hv : bootBuiltins x = some (.type T)) (ha : PA X (e :: es) (LA X.K F Wx n i)) (hg : Gl X x := by rfl) (hn : x ≠ "__name__" := by decide)
    (hdb : (x == ("__debug__" : Str)) = false := by decide) (he : starEach (e :: es) X.env = (false, eval e X.env) :: starEach es X.env := by rfl) (hpl : (backTo pos (starEach es X.env)).any (·.1) = false := by rfl) : PE X (.Call (.Name x p) (e :: es) [] pos) (LE X.K F Wx (iFn g i)) :=
  pe_imp (pe_callTy hc hg hm hv ha hn hdb he hpl) fun _ _ _ h => fn_val hgf h
end
end Sh
namespace Sh
open PySem L2
open PyProof.Rows hiding St
theorem ps_imp {X : Cx} {s : Stmt} {t t' : TS} (h : PS X s t) (m : ∀ D σ H, t' D σ H → t D σ H) : PS X s t' := ⟨fun pins s σ H D I q => h.run pins s σ H D I (m _ _ _ q)⟩
theorem pss_imp {X : Cx} {s : List Stmt} {t t' : TS} (h : PSs X s t) (m : ∀ D σ H, t' D σ H → t D σ H) : PSs X s t' := ⟨fun pins s σ H D I q => h.run pins s σ H D I (m _ _ _ q)⟩
theorem pg_imp {X : Cx} {e : Expr} {t t' : TG} (h : PG X e t) (m : ∀ v σ H Q, t' v σ H Q → t v σ H Q) : PG X e t' := ⟨fun pins s σ H v u Q I r q => h.run pins s σ H v u Q I r (m _ _ _ _ q)⟩
theorem pgs_imp {X : Cx} {e : List Expr} {t t' : TGs} (h : PGs X e t) (m : ∀ v σ H Q, t' v σ H Q → t v σ H Q) : PGs X e t' := ⟨fun pins s σ H v u Q I r q => h.run pins s σ H v u Q I r (m _ _ _ _ q)⟩
/-- a state without its slots -/
theorem Lk.drop {K : PySem.W.Frag} {F : Addr → Prop} {st : Stt} {σ : L2.St} {H : Hp} (l : Lk K F st σ H) : Lk K F ⟨[], st.S⟩ [] H ∧ Step st σ H ⟨[], st.S⟩ [] H ∧ ∀ a, Live F ⟨[], st.S⟩ [] a → Live F st σ a := by
  have nx : ∀ a, Live F ⟨[], st.S⟩ [] a → Live F st σ a := fun a z => z.imp (fun z => z.elim .inl fun z => (ow_nil z).elim) id
  exact ⟨⟨rfl, fun i w e => by simp at e, fun i o e => by simp at e, fun i j o o' a e => by simp at e, fun a o e => (l.sto a o e).move (fun _ q => q) (mv_same nx), l.ftr, l.fdis⟩,
    ⟨fun _ _ e _ => e, fun a z => .inl (z.elim .inl fun z => (ow_nil z).elim)⟩, nx⟩
section
variable {X : Cx} {F : Addr → Prop} {Wx : WX} {a b c e : Expr} {es : List Expr} {pos : Pos} {ia ib ic : IE} {s : Stmt} {ss : List Stmt} {ip iq : IS} {nn : IN}
def sNext : IS := fun _ D st => D.nx st
def sSeq (p q : IS) : IS := fun EI D st => p EI { D with nx := q EI D } st
theorem s_nil : PSs X [] (LS X.K F Wx sNext) := pss_imp pss_nil fun D σ H h => by
  obtain ⟨st, DI, EI, l, q, u⟩ := h
  exact u.nx st σ H q l .refl
theorem s_cons (h1 : PS X s (LS X.K F Wx ip)) (h2 : PSs X ss (LS X.K F Wx iq)) : PSs X (s :: ss) (LS X.K F Wx (sSeq ip iq)) := pss_imp (pss_cons h1 h2) fun D σ H h => by
  obtain ⟨st, DI, EI, l, q, u⟩ := h
  exact ⟨st, _, EI, l, q, ⟨u.xs, fun st' σ' H' q' l' s' => ⟨st', DI, EI, l', q', u.step s'⟩, u.bk, u.ct, u.rt⟩⟩
theorem s_one (h1 : PS X s (LS X.K F Wx ip)) : PSs X [s] (LS X.K F Wx ip) := pss_one h1
def sNever : IS := fun _ _ _ => False
theorem s_never : PS X s (LS X.K F Wx sNever) := ps_imp ps_never fun D σ H h => by
  obtain ⟨st, DI, EI, l, q, u⟩ := h
  exact q
def sCont : IS := fun _ D st => D.ct st
def sBreak : IS := fun _ D st => D.bk st
def sDrop (ia : IE) : IS := fun EI D st => ia EI st fun _ st1 => D.nx st1
theorem s_expr (ha : PE X a (LE X.K F Wx ia)) (hs : swapsWith a none pos.line X.env = pure false := by rfl) : PS X (.Expr a pos) (LS X.K F Wx (sDrop ia)) := ps_imp (ps_expr ha hs) fun D σ H h => by
  obtain ⟨st, DI, EI, l, q, u⟩ := h
  exact ⟨st, _, EI, l, q, u.x, fun w st1 v H1 q1 l1 s1 r1 => u.nx st1 σ H1 q1 l1 s1⟩
def sRet (ia : IE) : IS := fun EI D st => ia EI st fun w st1 => D.rt (.val w) st1.S
theorem s_ret (ha : PE X a (LE X.K F Wx ia)) : PS X (.Return (some a) pos) (LS X.K F Wx (sRet ia)) := ps_imp (ps_ret ha) fun D σ H h => by
  obtain ⟨st, DI, EI, l, q, u⟩ := h
  refine ⟨st, _, EI, l, q, u.x, fun w st1 v H1 q1 l1 s1 r1 => ?_⟩
  obtain ⟨l2, s2, nx⟩ := l1.drop
  exact u.rt _ _ v H1 q1 ⟨s1.trans s2, l2, r1.mono (mv_same nx)⟩
def sRetN (nn : IN) : IS := fun EI D st => nn EI st fun o st1 => D.rt (.new o) st1.S
theorem s_retN (ha : PE X a (LN X.K F Wx nn)) : PS X (.Return (some a) pos) (LS X.K F Wx (sRetN nn)) := ps_imp (ps_ret ha) fun D σ H h => by
  obtain ⟨st, DI, EI, l, q, u⟩ := h
  refine ⟨st, _, EI, l, q, u.x, fun o st1 a H1 q1 l1 s1 r1 n1 => ?_⟩
  obtain ⟨l2, s2, nx⟩ := l1.drop
  exact u.rt _ _ _ H1 q1 ⟨s1.trans s2, a, rfl, l2, r1.move (fun _ z => z) (mv_same nx), n1⟩
/-- return of an owned object -/
def sRetO (i : Nat) : IS := fun _ D st => match st.ρ[i]? with
  | some (.own o) => D.rt (.new o) st.S
  | _ => False
theorem s_retO {i : Nat} {x : Str} {px : Pos} (hN : X.N[i]? = some x := by rfl) (hv : Vis X.env.scope x := by first | exact Or.inl rfl | exact Or.inr (Or.inl rfl) | exact Or.inr (Or.inr rfl)) (hd : (x == ("__debug__" : Str)) = false := by decide)
    (hcd : (x == ("__classdict__" : Str)) = false := by decide) : PS X (.Return (some (.Name x px)) pos) (LS X.K F Wx (sRetO i)) := ps_imp (ps_ret (pe_var hN hv hd hcd)) fun D σ H h => by
  obtain ⟨st, DI, EI, l, q, u⟩ := h
  unfold sRetO at q
  split at q
  · rename_i o e
    obtain ⟨a, ea, r, na, nf⟩ := l.own i o e
    refine ⟨.ref a, ea, u.rt _ _ _ H q ?_⟩
    have lv : ∀ b, Live (FA F a) ⟨[], st.S⟩ [] b → Live F st σ b := fun b z => by
      rcases z with (z | z) | z | z
      · exact .inl (.inl z)
      · exact (ow_nil z).elim
      · exact .inr z
      · exact .inl (.inr ⟨i, o, e, z ▸ ea⟩)
    refine ⟨⟨fun _ _ e _ => e, fun b z => .inl (z.elim .inl fun z => (ow_nil z).elim)⟩, a, rfl, ⟨rfl, fun i w e => by simp at e, fun i o e => by simp at e, fun i j o o' a e => by simp at e, fun b o e => (l.sto b o e).move (fun _ q => q) (mv_same lv), fun b z => ?_, fun b z => ?_⟩, r.move (fun _ z => z) (mv_same lv), .inl (.inr ⟨i, o, e, ea⟩)⟩
    · rcases z with z | z
      · exact l.ftr b z
      · rw [z]; exact r.at
    · rcases z with z | z
      · exact l.fdis b z
      · rw [z]; exact na
  · exact q.elim
def sRet0 : IS := fun _ D st => D.rt (.val .non) st.S
def sIf (t : IT) (p q : IS) : IS := fun EI D st => t EI st fun b st1 => if b = true then p EI D st1 else q EI D st1
theorem s_if {ta : IT} {sa sb : List Stmt} (hc : PT X c (LT X.K F Wx ta)) (ha : PSs X sa (LS X.K F Wx ip)) (hb : PSs X sb (LS X.K F Wx iq)) : PS X (.If c sa sb pos) (LS X.K F Wx (sIf ta ip iq)) := ps_imp (ps_if hc ha hb) fun D σ H h => by
  obtain ⟨st, DI, EI, l, q, u⟩ := h
  refine ⟨st, _, EI, l, q, u.x, fun b st1 H1 q1 l1 s1 => ?_⟩
  cases b with
  | true =>
    rw [if_pos rfl] at q1 ⊢
    exact ⟨st1, DI, EI, l1, q1, u.step s1⟩
  | false =>
    rw [if_neg Bool.false_ne_true] at q1 ⊢
    exact ⟨st1, DI, EI, l1, q1, u.step s1⟩
def sSet (i : Nat) (ia : IE) : IS := fun EI D st => ia EI st fun w st1 => D.nx (st1.put i (.val w))
def sSetN (i : Nat) (nn : IN) : IS := fun EI D st => nn EI st fun o st1 => D.nx (st1.put i (.own o))
theorem set_of {K : PySem.W.Frag} {i : Nat} {D : Ends} {σ : L2.St} {H : Hp} (h : LS K F Wx (sSet i ia) D σ H) : tAsg (LE K F Wx ia) (gName i) D σ H := by
  obtain ⟨st, DI, EI, l, q, u⟩ := h
  exact ⟨st, _, EI, l, q, u.x, fun w st1 v H1 q1 l1 s1 r1 => u.nx _ _ H1 q1 (l1.put r1) (s1.trans Step.put)⟩
theorem Step.keepNew {st : Stt} {σ : L2.St} {H : Hp} {i : Nat} {o : SO} {a : Addr} {st1 : Stt} {σ1 : L2.St} {H1 : Hp} (hl : st1.ρ.length = σ1.length) (s : Step st σ H st1 σ1 H1) (n : NewAt st σ H a) : Step st σ H (st1.put i (.own o)) (σ1.set i (some (.ref a))) H1 :=
  ⟨s.keep, fun b z => by
    rcases z with z | ⟨j, o', e1, e2⟩
    · exact s.new b (.inl z)
    · rcases get_set e1 with ⟨rfl, _, hj⟩ | ⟨nj, e1⟩
      · rw [set_get (by rw [← hl]; exact hj)] at e2
        cases e2
        exact n
      · rw [List.getElem?_set_ne (Ne.symm nj)] at e2
        exact s.new b (.inr ⟨j, o', e1, e2⟩)⟩
theorem setN_of {K : PySem.W.Frag} {i : Nat} {D : Ends} {σ : L2.St} {H : Hp} (h : LS K F Wx (sSetN i nn) D σ H) : tAsg (LN K F Wx nn) (gName i) D σ H := by
  obtain ⟨st, DI, EI, l, q, u⟩ := h
  exact ⟨st, _, EI, l, q, u.x, fun o st1 a H1 q1 l1 s1 r1 n1 => u.nx _ _ H1 q1 (l1.keepNew r1 (NewAt.nf l n1)) (Step.keepNew l1.len s1 n1)⟩
theorem s_set (i : Nat) {x : Str} {pos' : Pos} (hN : X.N.Nodup) (ha : PE X a (LE X.K F Wx ia)) (hi : X.N[i]? = some x := by rfl) (hx : Loc X.env.scope x := by first | exact Or.inl rfl | exact Or.inr rfl) (hs : swapsWith a (some (.Name x pos')) pos.line X.env = pure false := by rfl)
    (hf : X.fn x = true ∨ X.env.scope.names.lookup x = some .local := by first | exact .inl rfl | exact .inr rfl | assumption) : PS X (.Assign [.Name x pos'] a pos) (LS X.K F Wx (sSet i ia)) := ps_imp (ps_set hN hi hx ha hs hf) fun _ _ _ h => set_of h
theorem s_setN (i : Nat) {x : Str} {pos' : Pos} (hN : X.N.Nodup) (ha : PE X a (LN X.K F Wx nn)) (hi : X.N[i]? = some x := by rfl) (hx : Loc X.env.scope x := by first | exact Or.inl rfl | exact Or.inr rfl) (hs : swapsWith a (some (.Name x pos')) pos.line X.env = pure false := by rfl)
    (hf : X.fn x = true ∨ X.env.scope.names.lookup x = some .local := by first | exact .inl rfl | exact .inr rfl | assumption) : PS X (.Assign [.Name x pos'] a pos) (LS X.K F Wx (sSetN i nn)) := ps_imp (ps_set hN hi hx ha hs hf) fun _ _ _ h => setN_of h
/-- a, b = e1, e2 -/
def sPar (i j : Nat) (ia ib : IE) : IS := fun EI D st => ia EI st fun w st1 => ib EI st1 fun y st2 => D.nx ((st2.put i (.val w)).put j (.val y))
theorem s_par (i j : Nat) {x y : Str} {px py pt : Pos} {kt k2 pt2} (hN : X.N.Nodup) (ha : PE X a (LE X.K F Wx ia)) (hb : PE X b (LE X.K F Wx ib)) (hi : X.N[i]? = some x := by rfl) (hj : X.N[j]? = some y := by rfl) (hij : i ≠ j := by decide)
    (hx : X.env.scope.names.lookup x = some .local := by rfl) (hy : X.env.scope.names.lookup y = some .local := by rfl) (hc : X.calm = true := by rfl)
    (hw : swappedStores [.Tuple [.Name x px, .Name y py] kt pt] (.Tuple [a, b] k2 pt2) X.env = pure (some [x, y]) := by rfl)
    (hs : swapsWithSole [.Tuple [.Name x px, .Name y py] kt pt] (.Tuple [a, b] k2 pt2) pos.line X.env = pure false := by rfl)
    (h1 : starEach [a, b] X.env = (false, eval a X.env) :: starEach [b] X.env := by rfl) (h2 : starEach [b] X.env = (false, eval b X.env) :: starEach [] X.env := by rfl) :
    PS X (.Assign [.Tuple [.Name x px, .Name y py] kt pt] (.Tuple [a, b] k2 pt2) pos) (LS X.K F Wx (sPar i j ia ib)) := ps_imp (ps_par hc hN hi hj hij hx hy (pa_cons ha (pa_cons hb pa_nil h2) h1) hw hs) fun D σ H h => by
  obtain ⟨st, DI, EI, l, q, u⟩ := h
  refine ⟨st, _, EI, l, q, u.x, fun w st1 v H1 q1 l1 s1 r1 => ⟨st1, _, EI, l1, q1, u.x.step s1, fun w2 st2 v2 H2 q2 l2 s2 r2 => ⟨v, v2, rfl, ?_⟩⟩⟩
  have l3 := l2.put (i := i) (r1.mono s2.mv)
  have s3 : Step st2 σ H2 (st2.put i (.val w)) (σ.set i (some v)) H2 := Step.put
  exact u.nx _ _ H2 q2 (l3.put (r2.mono s3.mv)) (((s1.trans s2).trans s3).trans Step.put)
/-- the second one is new -/
def sParEN (i j : Nat) (ia : IE) (nn : IN) : IS := fun EI D st => ia EI st fun w st1 => nn EI st1 fun o st2 => D.nx ((st2.put i (.val w)).put j (.own o))
theorem Lk.putF {K : PySem.W.Frag} {st : Stt} {σ : L2.St} {H : Hp} {p : Addr} {o : SO} {i : Nat} {w : W} {v : V} (l : Lk K (FA F p) st σ H) (ro : RelO K (Live (FA F p) st σ) H p o) (r : RelW K (Live (FA F p) st σ) H w v) :
    Lk K (FA F p) (st.put i (.val w)) (σ.set i (some v)) H ∧ RelO K (Live (FA F p) (st.put i (.val w)) (σ.set i (some v))) H p o := by
  have s : Step st σ H (st.put i (.val w)) (σ.set i (some v)) H := Step.put
  exact ⟨l.put r, ro.move (fun _ z => z) s.mv⟩
/-- a value that stands is not the new object -/
theorem RelW.foreign {K : PySem.W.Frag} {st st1 : Stt} {σ : L2.St} {H H1 : Hp} {p : Addr} {w : W} {v : V} (l : Lk K F st σ H) (r : RelW K (Live F st σ) H w v) (s : Step st σ H st1 σ H1) (n : NewAt st σ H p) : RelW K (Live (FA F p) st1 σ) H1 w v :=
  r.mono fun b u e nl => ⟨s.keep b u e fun z => nl (.inl z), fun z => by
    rcases z with z | z | z
    · rcases s.new b z with z | z
      · exact nl (.inl z)
      · rw [e] at z; cases z
    · exact nl (.inr z)
    · subst z
      rcases n with n | n
      · exact nl (.inl n)
      · rw [e] at n; cases n⟩
theorem pe_ex {i : IE} (h : ∀ F, PE X e (LE X.K F Wx i)) : PE X e (fun σ H Q => ∃ F, LE X.K F Wx i σ H Q) := ⟨fun pins s σ H Q I ⟨F, q⟩ => (h F).run pins s σ H Q I q⟩
theorem UpX.more {K : PySem.W.Frag} {st : Stt} {σ : L2.St} {H : Hp} {EI : XI} {F' : Addr → Prop} (u : UpX K F Wx st σ H EI) (h : ∀ a, F a → F' a) : UpX K F' Wx st σ H EI := fun x st' cls d H' e l s r => by
  refine u x st' cls d H' e (l.less h) s ?_
  obtain ⟨e1, z⟩ := r
  refine ⟨e1, z.imp id ?_⟩
  rintro ⟨a, vs', e2, e3, e4, e5⟩
  have lv : ∀ b, Live F st' σ b → Live F' st' σ b := fun b z => z.imp id (h b)
  exact ⟨a, vs', e2, e3, fun z => e4 (lv a z), e5.mono (mv_same lv)⟩
/-- the first one is new -/
def sParNE (i j : Nat) (nn : IN) (ib : IE) : IS := fun EI D st => nn EI st fun o st1 => ib EI st1 fun w st2 => D.nx ((st2.put i (.own o)).put j (.val w))
theorem s_parNE (i j : Nat) {x y : Str} {px py pt : Pos} {kt k2 pt2} (hN : X.N.Nodup) (ha : PE X a (LN X.K F Wx nn)) (hb : ∀ F, PE X b (LE X.K F Wx ib)) (hi : X.N[i]? = some x := by rfl) (hj : X.N[j]? = some y := by rfl) (hij : i ≠ j := by decide)
    (hx : X.env.scope.names.lookup x = some .local := by rfl) (hy : X.env.scope.names.lookup y = some .local := by rfl) (hc : X.calm = true := by rfl)
    (hw : swappedStores [.Tuple [.Name x px, .Name y py] kt pt] (.Tuple [a, b] k2 pt2) X.env = pure (some [x, y]) := by rfl)
    (hs : swapsWithSole [.Tuple [.Name x px, .Name y py] kt pt] (.Tuple [a, b] k2 pt2) pos.line X.env = pure false := by rfl)
    (h1 : starEach [a, b] X.env = (false, eval a X.env) :: starEach [b] X.env := by rfl) (h2 : starEach [b] X.env = (false, eval b X.env) :: starEach [] X.env := by rfl) :
    PS X (.Assign [.Tuple [.Name x px, .Name y py] kt pt] (.Tuple [a, b] k2 pt2) pos) (LS X.K F Wx (sParNE i j nn ib)) := ps_imp (ps_par hc hN hi hj hij hx hy (pa_cons ha (pa_cons (pe_ex hb) pa_nil h2) h1) hw hs) fun D σ H h => by
  obtain ⟨st, DI, EI, l, q, u⟩ := h
  refine ⟨st, _, EI, l, q, u.x, fun o st1 p H1 q1 l1 s1 r1 n1 => ⟨FA F p, st1, _, EI, l1, q1, (u.x.step s1).more fun _ z => .inl z, fun w st2 v H2 q2 l2 s2 r2 => ⟨.ref p, v, rfl, ?_⟩⟩⟩
  have nw : ¬ Wr st1 σ p := fun z => by
    rcases z with z | ⟨k, o', e1, e2⟩
    · exact z (l1.fdis p (.inr rfl))
    · obtain ⟨b, e3, _, _, n3⟩ := l1.own k o' e1
      rw [e2] at e3
      cases e3
      exact n3 (.inr rfl)
  have ro : RelO X.K (Live (FA F p) st2 σ) H2 p o := r1.move (fun u e => s2.keep p u e nw) s2.mv
  -- store the value first, then the new one: the two orders are one
  obtain ⟨l3, ro3⟩ := l2.putF (i := j) ro r2
  have l4 : Lk X.K F ((st2.put j (.val w)).put i (.own o)) ((σ.set j (some v)).set i (some (.ref p))) H2 := l3.keepNew ro3 (NewAt.nf l n1)
  have s4 : Step st σ H ((st2.put j (.val w)).put i (.own o)) ((σ.set j (some v)).set i (some (.ref p))) H2 := Step.keepNew l3.len ((s1.trans s2).trans Step.put) n1
  have e1 : (st2.put j (.val w)).put i (.own o) = (st2.put i (.own o)).put j (.val w) := by
    unfold Stt.put
    simp only
    rw [List.set_comm _ _ (Ne.symm hij)]
  have e2 : (σ.set j (some v)).set i (some (V.ref p)) = (σ.set i (some (.ref p))).set j (some v) := List.set_comm _ _ (Ne.symm hij)
  rw [e1, e2] at l4 s4
  exact u.nx _ _ H2 q2 l4 s4
/-- three at once -/
def sPar3 (i j k : Nat) (ia ib ic : IE) : IS := fun EI D st => ia EI st fun w st1 => ib EI st1 fun y st2 => ic EI st2 fun z st3 => D.nx (((st3.put i (.val w)).put j (.val y)).put k (.val z))
theorem s_par3 (i j k : Nat) {x y z : Str} {px py pz pt : Pos} {kt k2 pt2} (hN : X.N.Nodup) (ha : PE X a (LE X.K F Wx ia)) (hb : PE X b (LE X.K F Wx ib)) (hcc : PE X c (LE X.K F Wx ic)) (hi : X.N[i]? = some x := by rfl) (hj : X.N[j]? = some y := by rfl) (hk : X.N[k]? = some z := by rfl)
    (hij : i ≠ j := by decide) (hik : i ≠ k := by decide) (hjk : j ≠ k := by decide)
    (hx : X.env.scope.names.lookup x = some .local := by rfl) (hy : X.env.scope.names.lookup y = some .local := by rfl) (hz : X.env.scope.names.lookup z = some .local := by rfl) (hc : X.calm = true := by rfl)
    (hw : swappedStores [.Tuple [.Name x px, .Name y py, .Name z pz] kt pt] (.Tuple [a, b, c] k2 pt2) X.env = pure (some [x, y, z]) := by rfl)
    (hs : swapsWithSole [.Tuple [.Name x px, .Name y py, .Name z pz] kt pt] (.Tuple [a, b, c] k2 pt2) pos.line X.env = pure false := by rfl)
    (h1 : starEach [a, b, c] X.env = (false, eval a X.env) :: starEach [b, c] X.env := by rfl) (h2 : starEach [b, c] X.env = (false, eval b X.env) :: starEach [c] X.env := by rfl) (h3 : starEach [c] X.env = (false, eval c X.env) :: starEach [] X.env := by rfl) :
    PS X (.Assign [.Tuple [.Name x px, .Name y py, .Name z pz] kt pt] (.Tuple [a, b, c] k2 pt2) pos) (LS X.K F Wx (sPar3 i j k ia ib ic)) := ps_imp (ps_par3 hc hN hi hj hk hij hik hjk hx hy hz (pa_cons ha (pa_cons hb (pa_cons hcc pa_nil h3) h2) h1) hw hs) fun D σ H h => by
  obtain ⟨st, DI, EI, l, q, u⟩ := h
  refine ⟨st, _, EI, l, q, u.x, fun w st1 v H1 q1 l1 s1 r1 => ⟨st1, _, EI, l1, q1, u.x.step s1, fun w2 st2 v2 H2 q2 l2 s2 r2 => ⟨st2, _, EI, l2, q2, u.x.step (s1.trans s2), fun w3 st3 v3 H3 q3 l3 s3 r3 => ⟨v, v2, v3, rfl, ?_⟩⟩⟩⟩
  have l4 := l3.put (i := i) ((r1.mono s2.mv).mono s3.mv)
  have s4 : Step st3 σ H3 (st3.put i (.val w)) (σ.set i (some v)) H3 := Step.put
  have l5 := l4.put (i := j) ((r2.mono s3.mv).mono s4.mv)
  have s5 : Step (st3.put i (.val w)) (σ.set i (some v)) H3 ((st3.put i (.val w)).put j (.val w2)) ((σ.set i (some v)).set j (some v2)) H3 := Step.put
  exact u.nx _ _ H3 q3 (l5.put ((r3.mono s4.mv).mono s5.mv)) ((((((s1.trans s2).trans s3).trans s4).trans s5)).trans Step.put)
abbrev IG := W → Stt → (Stt → Prop) → Prop
abbrev IGs := List W → Stt → (Stt → Prop) → Prop
theorem wipe_set {i : Nat} {x : Option V} : ∀ {vs : List Nat} (σ : L2.St), i ∈ vs → L2.wipe (σ.set i x) vs = L2.wipe σ vs
  | v :: vs, σ, h => by
    by_cases e : i ∈ vs
    · show (L2.wipe (σ.set i x) vs).set v none = (L2.wipe σ vs).set v none
      rw [wipe_set σ e]
    · have ev : i = v := by
        rcases List.mem_cons.mp h with h | h
        · exact h
        · exact absurd h e
      subst ev
      have key : ∀ (ws : List Nat) (τ : L2.St), (L2.wipe (τ.set i x) ws).set i none = (L2.wipe τ ws).set i none := by
        intro ws
        induction ws with
        | nil => intro τ; show (τ.set i x).set i none = τ.set i none; rw [List.set_set]
        | cons w ws ih =>
          intro τ
          show ((L2.wipe (τ.set i x) ws).set w none).set i none = ((L2.wipe τ ws).set w none).set i none
          by_cases q : w = i
          · subst q
            rw [List.set_set, List.set_set, ih]
          · rw [List.set_comm _ _ q, ih, List.set_comm _ _ (Ne.symm q)]
      exact key vs σ
def LG (K : PySem.W.Frag) (F : Addr → Prop) (vs : List Nat) (g : IG) : TG := fun v σ H Q => ∃ w st QI, Lk K F st σ H ∧ RelW K (Live F st σ) H w v ∧ g w st QI ∧ ∀ st' σ' H', QI st' → Lk K F st' σ' H' → Step st σ H st' σ' H' → L2.wipe σ' vs = L2.wipe σ vs → (∀ b u, H b = some u → H' b = some u) → Q σ' H'
def LGs (K : PySem.W.Frag) (F : Addr → Prop) (vs : List Nat) (g : IGs) : TGs := fun us σ H Q => ∃ ws st QI, Lk K F st σ H ∧ RelWs K (Live F st σ) H ws us ∧ g ws st QI ∧ ∀ st' σ' H', QI st' → Lk K F st' σ' H' → Step st σ H st' σ' H' → L2.wipe σ' vs = L2.wipe σ vs → (∀ b u, H b = some u → H' b = some u) → Q σ' H'
variable {vs : List Nat}
def gNm (i : Nat) : IG := fun w st Q => Q (st.put i (.val w))
def gsNil : IGs := fun ws st Q => match ws with
  | [] => Q st
  | _ => False
def gsCons (g : IG) (gs : IGs) : IGs := fun ws st Q => match ws with
  | w :: r => g w st fun st1 => gs r st1 Q
  | [] => False
def gTp (n : Nat) (gs : IGs) : IG := fun w st Q => match w with
  | .tup ws => ws.length = n ∧ gs ws st Q
  | .lst ws => ws.length = n ∧ gs ws st Q
  | _ => False
theorem g_name (i : Nat) {x : Str} (hN : X.N.Nodup) (hm : i ∈ vs := by decide) (hi : X.N[i]? = some x := by rfl) (hx : Loc X.env.scope x := by first | exact Or.inl rfl | exact Or.inr rfl) (hf : X.fn x = true ∨ X.env.scope.names.lookup x = some .local := by first | exact .inl rfl | exact .inr rfl | assumption) :
    PG X (.Name x pos) (LG X.K F vs (gNm i)) := pg_imp (pg_name hN hi hx hf) fun v σ H Q h => by
  obtain ⟨w, st, QI, l, r, q, k⟩ := h
  exact k _ _ H q (l.put r) Step.put (wipe_set σ hm) fun _ _ e => e
theorem gs_nil : PGs X [] (LGs X.K F vs gsNil) := pgs_imp pgs_nil fun v σ H Q h => by
  obtain ⟨ws, st, QI, l, r, q, k⟩ := h
  unfold gsNil at q
  split at q
  · cases r
    exact ⟨rfl, k st σ H q l .refl rfl fun _ _ e => e⟩
  · exact q.elim
theorem gs_cons {g : IG} {gs : IGs} (h1 : PG X e (LG X.K F vs g)) (h2 : PGs X es (LGs X.K F vs gs)) (hs : (assignEach (e :: es) X.env).map (·.2) = assign e X.env :: (assignEach es X.env).map (·.2) := by rfl) : PGs X (e :: es) (LGs X.K F vs (gsCons g gs)) := pgs_imp (pgs_cons h1 h2 hs) fun v σ H Q h => by
  obtain ⟨ws, st, QI, l, r, q, k⟩ := h
  unfold gsCons at q
  split at q
  · cases r with
    | cons ra rs => exact ⟨_, _, rfl, _, st, _, l, ra, q, fun st1 σ1 H1 q1 l1 s1 e1 k1 => ⟨_, st1, _, l1, rs.mono s1.mv, q1, fun st2 σ2 H2 q2 l2 s2 e2 k2 => k st2 σ2 H2 q2 l2 (s1.trans s2) (e2.trans e1) fun b u z => k2 b u (k1 b u z)⟩⟩
  · exact q.elim
theorem g_tup {gs : IGs} {k' n : Nat} (h : PGs X es (LGs X.K F vs gs)) (hc : X.calm = true := by rfl) (hn : (assignEach es X.env).length = n := by rfl) (hst : (assignEach es X.env).findIdx? (·.1) = none := by rfl) : PG X (.Tuple es k' pos) (LG X.K F vs (gTp n gs)) := pg_imp (t := fun v σ H Q => gTup X.K n (LGs X.K F vs gs) v σ H Q ∨ gUnl X.K n (LGs X.K F vs gs) v σ H Q) ⟨fun pins s σ H v u Q I r hw => hw.elim (fun z => (pg_tup hc h hn hst).run pins s σ H v u Q I r z) fun z => (pg_unl hc h hn hst).run pins s σ H v u Q I r z⟩ fun v σ H Q h => by
  obtain ⟨w, st, QI, l, r, q, k⟩ := h
  unfold gTp at q
  split at q
  · cases r with
    | tup f rs => exact .inl ⟨_, _, rfl, f.sq, by rw [← rs.length]; exact q.1, _, st, _, l, rs, q.2, k⟩
  · cases r with
    | lst f rs => exact .inr ⟨_, _, rfl, f.sq, by rw [← rs.length]; exact q.1, _, st, _, l, rs, q.2, k⟩
  · exact q.elim
def sAsg (ia : IE) (g : IG) : IS := fun EI D st => ia EI st fun w st1 => g w st1 D.nx
theorem s_asg {tg : Expr} {g : IG} (ha : PE X a (LE X.K F Wx ia)) (hg : PG X tg (LG X.K F vs g)) (hs : swapsWithSole [tg] a pos.line X.env = pure false := by rfl) (hw : swappedStores [tg] a X.env = pure none := by rfl)
    (h1 : (assignEach [tg] X.env).map (·.2) = [assign tg X.env] := by rfl) : PS X (.Assign [tg] a pos) (LS X.K F Wx (sAsg ia g)) := ps_imp (ps_asg ha hg hs hw h1) fun D σ H h => by
  obtain ⟨st, DI, EI, l, q, u⟩ := h
  exact ⟨st, _, EI, l, q, u.x, fun w st1 v H1 q1 l1 s1 r1 => ⟨w, st1, _, l1, r1, q1, fun st2 σ2 H2 q2 l2 s2 _ _ => u.nx st2 σ2 H2 q2 l2 (s1.trans s2)⟩⟩
def sAugI (i : Nat) (f : Int → Int → Int) (ia : IE) : IS := fun EI D st => match st.ρ[i]? with
  | some (.val (.int n)) => ia EI st fun w st1 => (match w with
    | .int m => D.nx (st1.put i (.val (.int (f n m))))
    | _ => False)
  | _ => False
theorem s_augI (i : Nat) {x : Str} {pos' : Pos} {op : Operator} {f : Int → Int → Int} (ho : PIp X op (ipI f)) (hN : X.N.Nodup) (ha : PE X a (LE X.K F Wx ia)) (hi : X.N[i]? = some x := by rfl) (hx : Loc X.env.scope x := by first | exact Or.inl rfl | exact Or.inr rfl)
    (hf : X.fn x = true ∨ X.env.scope.names.lookup x = some .local := by first | exact .inl rfl | exact .inr rfl | assumption) : PS X (.AugAssign (.Name x pos') op a pos) (LS X.K F Wx (sAugI i f ia)) := ps_imp (ps_aug hN hi hx ha ho hf) fun D σ H h => by
  obtain ⟨st, DI, EI, l, q, u⟩ := h
  unfold sAugI at q
  split at q
  · rename_i n e
    obtain ⟨v, ev, r⟩ := l.val i _ e
    cases r
    refine ⟨.int n, ev, st, _, EI, l, q, u.x, fun w st1 v H1 q1 l1 s1 r1 => ?_⟩
    split at q1
    · cases r1
      exact ⟨_, _, rfl, rfl, u.nx _ _ H1 q1 (l1.put (.int _)) (s1.trans Step.put)⟩
    · exact q1.elim
  · exact q.elim
end
end Sh
namespace Sh
open PySem L2
open PyProof.Rows hiding St
/-- from here on the iterator J yields ws -/
structure Yd (K : PySem.W.Frag) (F : Addr → Prop) (J : It) (ws : List W) (st : Stt) (σ : L2.St) (H : Hp) : Prop where
  go : ∀ (i : Nat) (F' : Addr → Prop) st' σ' H', i < ws.length → Lk K F' st' σ' H' → Mv (Live F st σ) H (Live F' st' σ') H' → J.go i H' ∧ ∀ x H2, J.yld i H' x H2 → ∃ w, ws[i]? = some w ∧ Lk K F' st' σ' H2 ∧ Step st' σ' H' st' σ' H2 ∧
    (∀ b u, H' b = some u → H2 b = some u) ∧ RelW K (Live F' st' σ') H2 w x
  stop : ∀ (i : Nat) (F' : Addr → Prop) st' σ' H', ws.length ≤ i → Mv (Live F st σ) H (Live F' st' σ') H' → J.stop i H'
abbrev IL := XI → Stt → (List W → Stt → Prop) → Prop
def LI (K : PySem.W.Frag) (F : Addr → Prop) (Wx : WX) (i : IL) : TI := fun σ H R => ∃ st QI EI, Lk K F st σ H ∧ i EI st QI ∧ UpX K F Wx st σ H EI ∧
  ∀ ws st' J H', QI ws st' → Lk K F st' σ H' → Step st σ H st' σ H' → Yd K F J ws st' σ H' → R J H'
theorem pi_imp {X : Cx} {tg it : Expr} {t t' : TI} (h : PI X tg it t) (m : ∀ σ H Q, t' σ H Q → t σ H Q) : PI X tg it t' := ⟨fun pins s σ H R I q => h.run pins s σ H R I (m _ _ _ q)⟩
/-- a list or a tuple, whichever -/
def iSeq (K : PySem.W.Frag) (tl : TE) : TI := fun σ H R => tl σ H fun x H1 => ∃ a, x = .ref a ∧ (((∃ xs, SqL K H1 a xs) ∧ R (Itl K a) H1) ∨ ((∃ xs, SqT K H1 a xs) ∧ R (Itt K a) H1))
theorem pi_seq {X : Cx} {tg l : Expr} {tl : TE} (hl : PE X l tl) : PI X tg l (iSeq X.K tl) := by
  refine ⟨fun pins s σ H R I h => ?_⟩
  refine thn (hl.run pins s σ H _ I h) fun v s1 ⟨x, H1, I1, r1, q1⟩ => ?_
  obtain ⟨a, e, q⟩ := q1
  subst e
  cases r1
  rcases q with ⟨⟨xs, hq⟩, q⟩ | ⟨⟨xs, hq⟩, q⟩
  · obtain ⟨its, rv, p, hz⟩ := I1.list hq
    refine wpAny_pyIter_list p.isList ?_
    refine ⟨s1.heap.objs.size, [s1.heap.objs.size], _, _, H1, rfl, I1.kept (t' := s1.toks) fun b o e => Heap.get?_push_of_some _ e, turn_list a _, ⟨_, Heap.get?_push_size _ rfl, rfl, rfl⟩, fun b hb => ?_, q⟩
    have e : b = s1.heap.objs.size := by simpa using hb
    subst e
    exact I1.fpOk (Nat.le_refl _) (I1.hok.fresh (Nat.le_refl _))
  · obtain ⟨its, rv, p, hz⟩ := I1.tuple hq
    refine wpAny_pyIter_tuple (show s1.heap.IsTuple a its.toArray from p) ?_
    refine ⟨s1.heap.objs.size, [s1.heap.objs.size], _, _, H1, rfl, I1.kept (t' := s1.toks) fun b o e => Heap.get?_push_of_some _ e, turn_tuple a _, ⟨_, Heap.get?_push_size _ rfl, rfl, rfl⟩, fun b hb => ?_, q⟩
    have e : b = s1.heap.objs.size := by simpa using hb
    subst e
    exact I1.fpOk (Nat.le_refl _) (I1.hok.fresh (Nat.le_refl _))
section
variable {X : Cx} {F : Addr → Prop} {Wx : WX} {vs : List Nat} {a b c e tg : Expr} {es : List Expr} {pos p : Pos} {ia ib ic : IE} {s : Stmt} {ss : List Stmt} {ip iq : IS} {nn : IN}
theorem some_of {α : Type} {l : List α} {i : Nat} (h : i < l.length) : ∃ x, l[i]? = some x := ⟨l[i], by simp [h]⟩
theorem yd_list {K : PySem.W.Frag} {st : Stt} {σ : L2.St} {H : Hp} {ws : List W} {a : Addr} {vs : List V} (f : ∀ (Lv' : Addr → Prop) H', Mv (Live F st σ) H Lv' H' → SqL K H' a vs) (r : RelWs K (Live F st σ) H ws vs) : Yd K F (Itl K a) ws st σ H where
  go := fun i F' st' σ' H' hi l m => by
    obtain ⟨w, ew⟩ := some_of hi
    obtain ⟨v, ev, rv⟩ := r.get ew
    refine ⟨⟨vs, v, f _ _ m, ev⟩, fun x H2 y => ?_⟩
    obtain ⟨rfl, y⟩ := y
    have ex := y vs (f _ _ m)
    rw [ev] at ex
    cases ex
    exact ⟨w, ew, l, .refl, fun _ _ e => e, rv.mono m⟩
  stop := fun i F' st' σ' H' hi m => ⟨vs, f _ _ m, by rw [← r.length]; exact hi⟩
theorem yd_tup {K : PySem.W.Frag} {st : Stt} {σ : L2.St} {H : Hp} {ws : List W} {a : Addr} {vs : List V} (f : ∀ (Lv' : Addr → Prop) H', Mv (Live F st σ) H Lv' H' → SqT K H' a vs) (r : RelWs K (Live F st σ) H ws vs) : Yd K F (Itt K a) ws st σ H where
  go := fun i F' st' σ' H' hi l m => by
    obtain ⟨w, ew⟩ := some_of hi
    obtain ⟨v, ev, rv⟩ := r.get ew
    refine ⟨⟨vs, v, f _ _ m, ev⟩, fun x H2 y => ?_⟩
    obtain ⟨rfl, y⟩ := y
    have ex := y vs (f _ _ m)
    rw [ev] at ex
    cases ex
    exact ⟨w, ew, l, .refl, fun _ _ e => e, rv.mono m⟩
  stop := fun i F' st' σ' H' hi m => ⟨vs, f _ _ m, by rw [← r.length]; exact hi⟩
/-- the items of a value -/
def gItems (x : W) (P : List W → Prop) : Prop := match x with
  | .lst ws => P ws
  | .tup ws => P ws
  | .scr ns => P (ns.map .int)
  | _ => False
def lSeq (ia : IE) : IL := fun EI st Q => ia EI st fun x st1 => gItems x fun ws => Q ws st1
theorem l_seq (ha : PE X a (LE X.K F Wx ia)) : PI X tg a (LI X.K F Wx (lSeq ia)) := pi_imp (pi_seq ha) fun σ H R h => by
  obtain ⟨st, QI, EI, l, q, ux, k⟩ := h
  refine ⟨st, _, EI, l, q, ux, fun x st1 v H1 q1 l1 s1 r1 => ?_⟩
  unfold gItems at q1
  split at q1
  · cases r1 with
    | lst f r => exact ⟨_, rfl, .inl ⟨⟨_, f.sq⟩, k _ _ _ H1 q1 l1 s1 (yd_list (fun _ _ m => (f.mono m).sq) r)⟩⟩
  · cases r1 with
    | tup f r => exact ⟨_, rfl, .inr ⟨⟨_, f.sq⟩, k _ _ _ H1 q1 l1 s1 (yd_tup (fun _ _ m => (f.mono m).sq) r)⟩⟩
  · cases r1 with
    | scr f => exact ⟨_, rfl, .inl ⟨⟨_, f.sq⟩, k _ _ _ H1 q1 l1 s1 (yd_list (fun _ _ m => (f.mono m).sq) (RelWs.ints _))⟩⟩
  · exact q1.elim
/-- lo, lo + 1, .. -/
def rng (lo : Int) (n : Nat) : List W := (List.range n).map fun (i : Nat) => W.int (lo + (i : Int))
theorem rng_length (lo : Int) (n : Nat) : (rng lo n).length = n := by simp [rng]
theorem rng_get {lo : Int} {n i : Nat} (h : i < n) : (rng lo n)[i]? = some (.int (lo + i)) := by simp [rng, h]
theorem yd_range {K : PySem.W.Frag} {st : Stt} {σ : L2.St} {H : Hp} (lo : Int) (n : Nat) : Yd K F (Itr lo n) (rng lo n) st σ H where
  go := fun i F' st' σ' H' hi l m => by
    rw [rng_length] at hi
    refine ⟨hi, fun x H2 y => ?_⟩
    obtain ⟨rfl, rfl⟩ := y
    exact ⟨_, rng_get hi, l, .refl, fun _ _ e => e, .int _⟩
  stop := fun i F' st' σ' H' hi m => by
    rw [rng_length] at hi
    exact hi
def i62 (i : Int) : Prop := -(2 ^ 62) ≤ i ∧ i < 2 ^ 62
def lRange1 (ia : IE) : IL := fun EI st Q => ia EI st fun x st1 => match x with
  | .int j => i62 j ∧ Q (rng 0 j.toNat) st1
  | _ => False
theorem l_range1 (hm : X.mg "range" = none) (ha : PE X a (LE X.K F Wx ia)) (hg : Gl X "range" := by rfl) (hs : starEach [a] X.env = [(false, eval a X.env)] := by rfl) (hs2 : starEach [a] X.env = (false, eval a X.env) :: starEach [] X.env := by rfl) :
    PI X tg (.Call (.Name "range" p) [a] [] pos) (LI X.K F Wx (lRange1 ia)) := pi_imp (pi_range1 hg hm (pa_cons ha pa_nil hs2) hs) fun σ H R h => by
  obtain ⟨st, QI, EI, l, q, ux, k⟩ := h
  refine ⟨st, _, EI, l, q, ux, fun x st1 v H1 q1 l1 s1 r1 => ?_⟩
  split at q1
  · cases r1
    exact ⟨_, rfl, q1.1.1, q1.1.2, k _ _ _ H1 q1.2 l1 s1 (yd_range 0 _)⟩
  · exact q1.elim
def forGo (g : IG) (body : IS) (EI : XI) (D : IEnds) : List W → Stt → Prop
  | [], st => D.nx st
  | w :: ws, st => g w st fun st1 => body EI { nx := forGo g body EI D ws, ct := forGo g body EI D ws, bk := D.nx, rt := D.rt } st1
def sFor (il : IL) (g : IG) (body : IS) : IS := fun EI D st => il EI st fun ws st1 => forGo g body EI D ws st1
theorem s_for {iter : Expr} {body : List Stmt} {il : IL} {g : IG} (hp : PassesOwn (model X.prog X.w) X.A X.env X.xe) (hi : PI X tg iter (LI X.K F Wx il)) (hg : PG X tg (LG X.K F vs g)) (hb : PSs X body (LS X.K F Wx ip)) (hc : X.calm = true := by rfl)
    (hs : ∀ x, foldedSetIterable iter X.env x = pure x := by intro _; rfl) : PS X (.For tg iter body [] pos) (LS X.K F Wx (sFor il g ip)) := ps_imp (ps_for hp hc hi hg hb hs) fun D σ H h => by
  obtain ⟨st, DI, EI, l, q, u⟩ := h
  refine ⟨st, _, EI, l, q, u.x, fun ws st1 J H1 q1 l1 s1 y => ?_⟩
  refine ⟨fun i m σ' H' => m = ws.length - i ∧ i ≤ ws.length ∧ ∃ st', Lk X.K F st' σ' H' ∧ Step st1 σ H1 st' σ' H' ∧ forGo g ip EI DI (ws.drop i) st', ⟨ws.length, by simp, Nat.zero_le _, st1, l1, .refl, q1⟩, ?_⟩
  rintro i m σ' H' ⟨rfl, hi, st', l', s', q'⟩
  by_cases hlt : i < ws.length
  · obtain ⟨go, yl⟩ := y.go i F st' σ' H' hlt l' s'.mv
    refine .inr ⟨go, fun σ2 H2 => ∃ st2, Lk X.K F st2 σ2 H2 ∧ Step st1 σ H1 st2 σ2 H2 ∧ forGo g ip EI DI (ws.drop (i + 1)) st2, fun σ2 H2 ⟨st2, l2, s2, q2⟩ => ⟨ws.length - (i + 1), by omega, rfl, hlt, st2, l2, s2, q2⟩, fun x H2 yx => ?_⟩
    obtain ⟨w, ew, l2, s2, _, rw'⟩ := yl x H2 yx
    have ed : ws.drop i = w :: ws.drop (i + 1) := by
      obtain ⟨h1, h2⟩ := List.getElem?_eq_some_iff.mp ew
      rw [← h2]
      exact List.drop_eq_getElem_cons h1
    rw [ed] at q'
    refine ⟨w, st', _, l2, rw', q', fun st3 σ3 H3 q3 l3 s3 _ _ => ⟨st3, _, EI, l3, q3, ?_⟩⟩
    have sx : Step st σ H st3 σ3 H3 := ((s1.trans s').trans s2).trans s3
    exact ⟨u.xs.step sx, fun st4 σ4 H4 q4 l4 s4 => ⟨st4, l4, ((s'.trans s2).trans s3).trans s4, q4⟩, fun st4 σ4 H4 q4 l4 s4 => u.nx st4 σ4 H4 q4 l4 (sx.trans s4), fun st4 σ4 H4 q4 l4 s4 => ⟨st4, l4, ((s'.trans s2).trans s3).trans s4, q4⟩, fun r S' v H4 q4 h4 => u.rt r S' v H4 q4 (h4.step sx)⟩
  · have e : i = ws.length := by omega
    subst e
    rw [List.drop_length] at q'
    exact .inl ⟨y.stop _ F st' σ' H' (Nat.le_refl _) s'.mv, u.nx st' σ' H' q' l' (s1.trans s')⟩
def sWhile (t : IT) (body : IS) : IS := fun EI D st => ∃ I : Nat → Stt → Prop, (∃ m, I m st) ∧ ∀ m st, I m st → t EI st fun b st1 => if b = true then body EI { nx := fun st' => ∃ m', m' < m ∧ I m' st', ct := fun st' => ∃ m', m' < m ∧ I m' st', bk := D.nx, rt := D.rt } st1 else D.nx st1
theorem s_while {t : IT} {body : List Stmt} (hp : PassesOwn (model X.prog X.w) X.A X.env X.xe) (hc : PT X c (LT X.K F Wx t)) (hb : PSs X body (LS X.K F Wx ip)) : PS X (.While c body [] pos) (LS X.K F Wx (sWhile t ip)) := ps_imp (ps_while hp hc hb) fun D σ H h => by
  obtain ⟨st, DI, EI, l, ⟨I, ⟨m0, i0⟩, turn⟩, u⟩ := h
  refine ⟨fun m σ' H' => ∃ st', Lk X.K F st' σ' H' ∧ Step st σ H st' σ' H' ∧ I m st', ⟨m0, st, l, .refl, i0⟩, ?_⟩
  rintro m σ' H' ⟨st', l', s', i'⟩
  refine ⟨st', _, EI, l', turn m st' i', (u.step s').x, fun b st1 H1 q1 l1 s1 => ?_⟩
  have sx : Step st σ H st1 σ' H1 := s'.trans s1
  cases b with
  | true =>
    rw [if_pos rfl] at q1
    refine iteT ?_
    refine ⟨fun σ2 H2 => ∃ m', m' < m ∧ ∃ st2, Lk X.K F st2 σ2 H2 ∧ Step st σ H st2 σ2 H2 ∧ I m' st2, fun _ _ z => z, st1, _, EI, l1, q1, ?_⟩
    exact ⟨u.xs.step sx, fun st4 σ4 H4 ⟨m', hm, i4⟩ l4 s4 => ⟨m', hm, st4, l4, sx.trans s4, i4⟩, fun st4 σ4 H4 q4 l4 s4 => u.nx st4 σ4 H4 q4 l4 (sx.trans s4), fun st4 σ4 H4 ⟨m', hm, i4⟩ l4 s4 => ⟨m', hm, st4, l4, sx.trans s4, i4⟩, fun r S' v H4 q4 h4 => u.rt r S' v H4 q4 (h4.step sx)⟩
  | false =>
    rw [if_neg Bool.false_ne_true] at q1
    exact iteF (u.nx st1 σ' H1 q1 l1 sx)
def Stt.wipe (st : Stt) : List Nat → Stt
  | [] => st
  | v :: vs => (st.wipe vs).put v .none
theorem Lk.wipes {K : PySem.W.Frag} {st : Stt} {σ : L2.St} {H : Hp} (l : Lk K F st σ H) : ∀ vs : List Nat, Lk K F (st.wipe vs) (L2.wipe σ vs) H ∧ Step st σ H (st.wipe vs) (L2.wipe σ vs) H
  | [] => ⟨l, .refl⟩
  | v :: vs => by
    obtain ⟨l1, s1⟩ := l.wipes vs
    obtain ⟨l2, s2⟩ := l1.wipe (i := v) (x := none)
    exact ⟨l2, s1.trans s2⟩
abbrev noX : XI := fun _ _ => False
abbrev W0 : WX := fun _ _ _ _ => False
def lcGo (g : IG) (t : IT) (ie : IE) (vs : List Nat) (Q : SO → Stt → Prop) : List W → List W → Stt → Prop
  | [], acc, st => Q (.lst acc) st
  | w :: ws, acc, st => g w (st.wipe vs) fun st1 => t noX st1 fun b st2 => if b = true then ie noX st2 fun y st3 => acc.length < sizeLine ∧ lcGo g t ie vs Q ws (acc ++ [y]) st3 else lcGo g t ie vs Q ws acc st2
def nLc (il : IL) (g : IG) (t : IT) (ie : IE) (vs : List Nat) : IN := fun EI st Q => il EI st fun ws st1 => lcGo g t ie vs (fun o st2 => Q o (st2.wipe vs)) ws [] st1
theorem Lk.writeF {K : PySem.W.Frag} {st : Stt} {σ : L2.St} {H : Hp} {D : Addr} {u : HO} (l : Lk K F st σ H) (fd : F D) : Lk K F st σ (upd H D u) ∧ Mv (Live F st σ) H (Live F st σ) (upd H D u) := by
  have m : Mv (Live F st σ) H (Live F st σ) (upd H D u) := Mv.write (.inr fd) fun _ z => z
  refine ⟨⟨l.len, fun i w e => ?_, fun i o e => ?_, l.inj, fun a o e => (l.sto a o e).move (fun x q => ?_) m, fun a z => ?_, l.fdis⟩, m⟩
  · obtain ⟨v, e1, r⟩ := l.val i w e
    exact ⟨v, e1, r.mono m⟩
  · obtain ⟨a, e1, r, n1, n2⟩ := l.own i o e
    have na : a ≠ D := fun q => n2 (q ▸ fd)
    exact ⟨a, e1, r.move (fun x q => by rw [upd_ne na]; exact q) m, n1, n2⟩
  · have na : a ≠ D := fun z => by
      have q2 := l.fdis D fd
      rw [← z, e] at q2
      cases q2
    rw [upd_ne na]
    exact q
  · by_cases na : a = D
    · rw [na]
      exact ⟨u, upd_same⟩
    · obtain ⟨x, q⟩ := l.ftr a z
      exact ⟨x, by rw [upd_ne na]; exact q⟩
theorem Lk.nwr {K : PySem.W.Frag} {st : Stt} {σ : L2.St} {H : Hp} {D : Addr} (l : Lk K F st σ H) (fd : F D) : ¬ Wr st σ D := fun z => by
  rcases z with z | ⟨i, o, e1, e2⟩
  · exact z (l.fdis D fd)
  · obtain ⟨b, e3, _, _, n⟩ := l.own i o e1
    rw [e2] at e3
    cases e3
    exact n fd
/-- slots that hold nothing may hold anything -/
theorem wipe_get {i : Nat} : ∀ (vs : List Nat) (st : Stt) (σ : L2.St) {x : Slot}, (st.wipe vs).ρ[i]? = some x → x ≠ .none → (L2.wipe σ vs)[i]? = σ[i]?
  | [], _, _, _, _, _ => rfl
  | v :: vs, st, σ, x, e, n => by
    have e' : ((st.wipe vs).ρ.set v .none)[i]? = some x := e
    rcases get_set e' with ⟨_, z, _⟩ | ⟨nv, e'⟩
    · exact absurd z n
    · show ((L2.wipe σ vs).set v none)[i]? = σ[i]?
      rw [List.getElem?_set_ne (Ne.symm nv)]
      exact wipe_get vs st σ e' n
theorem ow_wipe {vs : List Nat} {st : Stt} {σ : L2.St} {a : Addr} : Ow (st.wipe vs).ρ σ a ↔ Ow (st.wipe vs).ρ (L2.wipe σ vs) a := by
  constructor
  · rintro ⟨i, o, e1, e2⟩
    exact ⟨i, o, e1, by rw [wipe_get vs st σ e1 (fun z => nomatch z)]; exact e2⟩
  · rintro ⟨i, o, e1, e2⟩
    exact ⟨i, o, e1, by rw [← wipe_get vs st σ e1 (fun z => nomatch z)]; exact e2⟩
theorem live_wipe {vs : List Nat} {st : Stt} {σ : L2.St} {a : Addr} : Live F (st.wipe vs) σ a ↔ Live F (st.wipe vs) (L2.wipe σ vs) a := by
  unfold Live Wr
  rw [ow_wipe]
theorem Lk.unwipe {K : PySem.W.Frag} {vs : List Nat} {st : Stt} {σ : L2.St} {H : Hp} (l : Lk K F (st.wipe vs) (L2.wipe σ vs) H) : Lk K F (st.wipe vs) σ H := by
  have lv : ∀ a, Live F (st.wipe vs) σ a → Live F (st.wipe vs) (L2.wipe σ vs) a := fun a z => live_wipe.mp z
  have m : Mv (Live F (st.wipe vs) (L2.wipe σ vs)) H (Live F (st.wipe vs) σ) H := mv_same lv
  refine ⟨by rw [l.len, L2.wipe_length], fun i w e => ?_, fun i o e => ?_, fun i j o o' a e1 e2 e3 e4 => ?_, fun a o e => (l.sto a o e).move (fun _ q => q) m, l.ftr, l.fdis⟩
  · obtain ⟨v, e1, r⟩ := l.val i w e
    exact ⟨v, by rw [← wipe_get vs st σ e (fun z => nomatch z)]; exact e1, r.mono m⟩
  · obtain ⟨a, e1, r, n1, n2⟩ := l.own i o e
    exact ⟨a, by rw [← wipe_get vs st σ e (fun z => nomatch z)]; exact e1, r.move (fun _ q => q) m, n1, n2⟩
  · exact l.inj i j o o' a e1 e2 (by rw [wipe_get vs st σ e1 (fun z => nomatch z)]; exact e3) (by rw [wipe_get vs st σ e2 (fun z => nomatch z)]; exact e4)
theorem Step.unwipe {vs : List Nat} {st st' : Stt} {σ σ' : L2.St} {H H' : Hp} (s : Step st σ H (st'.wipe vs) (L2.wipe σ' vs) H') : Step st σ H (st'.wipe vs) σ' H' :=
  ⟨s.keep, fun a z => s.new a (z.imp id fun z => ow_wipe.mp z)⟩
theorem mv_new {st st' : Stt} {σ σ' : L2.St} {H H' : Hp} {D : Addr} (s : Step st σ H st' σ' H') (e : H D = none) : Mv (Live F st σ) H (Live (FA F D) st' σ') H' := fun a u q n =>
  ⟨s.keep a u q fun z => n (.inl z), fun z => by
    rcases z with z | z | z
    · rcases s.new a z with z | z
      · exact n (.inl z)
      · rw [q] at z; cases z
    · exact n (.inr z)
    · rw [z, e] at q; cases q⟩
theorem wipe_sub {vs : List Nat} (σ : L2.St) : ∀ ws : List Nat, (∀ i ∈ ws, i ∈ vs) → L2.wipe (L2.wipe σ ws) vs = L2.wipe σ vs
  | [], _ => rfl
  | w :: ws, h => by
    show L2.wipe ((L2.wipe σ ws).set w none) vs = _
    rw [wipe_set _ (h w List.mem_cons_self), wipe_sub σ ws fun i hi => h i (List.mem_cons_of_mem _ hi)]
theorem lc_of {K : PySem.W.Frag} {il : IL} {g : IG} {t : IT} {ie : IE} {σ : L2.St} {H : Hp} {Q : VK} (h : LN K F Wx (nLc il g t ie vs) σ H Q) :
    tLc (LI K F Wx il) (fun v σ H Q => ∃ F', LG K F' vs g v σ H Q) (fun σ H Q => ∃ F', LT K F' W0 t σ H Q) (fun σ H Q => ∃ F', LE K F' W0 ie σ H Q) vs σ H Q := by
  obtain ⟨st, QI, EI, l, q, ux, k⟩ := h
  refine ⟨st, _, EI, l, q, ux, fun ws st1 J H1 q1 l1 s1 y D hD => ?_⟩
  refine ⟨fun i m Hc => m = ws.length - i ∧ i ≤ ws.length ∧ ∃ stc acc us, Lk K (FA F D) (stc.wipe vs) (L2.wipe σ vs) Hc ∧ Step st1 σ H1 (stc.wipe vs) (L2.wipe σ vs) Hc ∧ Hc D = some (.lst us) ∧ RelWs K (Live (FA F D) (stc.wipe vs) (L2.wipe σ vs)) Hc acc us ∧
    lcGo g t ie vs (fun o st2 => QI o (st2.wipe vs)) (ws.drop i) acc stc, ⟨ws.length, by simp, Nat.zero_le _, st1, [], [], ?_, ?_, upd_same, .nil, q1⟩, ?_⟩
  · exact ((l1.foreign hD).wipes vs).1
  · exact (Step.laid l1 hD).trans ((l1.laid hD).wipes vs).2
  rintro i m Hc ⟨rfl, hi, stc, acc, us, lc, sc, eD, ra, qc⟩
  have mv1 : Mv (Live F st1 σ) H1 (Live (FA F D) (stc.wipe vs) (L2.wipe σ vs)) Hc := mv_new sc hD
  by_cases hlt : i < ws.length
  · obtain ⟨go, yl⟩ := y.go i (FA F D) (stc.wipe vs) (L2.wipe σ vs) Hc hlt lc mv1
    refine .inr ⟨go, fun H' => ∃ stc acc us, Lk K (FA F D) (stc.wipe vs) (L2.wipe σ vs) H' ∧ Step st1 σ H1 (stc.wipe vs) (L2.wipe σ vs) H' ∧ H' D = some (.lst us) ∧ RelWs K (Live (FA F D) (stc.wipe vs) (L2.wipe σ vs)) H' acc us ∧
      lcGo g t ie vs (fun o st2 => QI o (st2.wipe vs)) (ws.drop (i + 1)) acc stc, fun H' ⟨stc, acc, us, z⟩ => ⟨ws.length - (i + 1), by omega, rfl, hlt, stc, acc, us, z⟩, fun x H2 yx => ?_⟩
    obtain ⟨w, ew, l2, s2, k2, rw'⟩ := yl x H2 yx
    have ed : ws.drop i = w :: ws.drop (i + 1) := by
      obtain ⟨h1, h2⟩ := List.getElem?_eq_some_iff.mp ew
      rw [← h2]
      exact List.drop_eq_getElem_cons h1
    rw [ed] at qc
    refine ⟨FA F D, w, stc.wipe vs, _, l2, rw', qc, fun st3 σ3 H3 q3 l3 s3 e3' k3 => ?_⟩
    have e3 : L2.wipe σ3 vs = L2.wipe σ vs := e3'.trans (wipe_sub σ vs fun _ z => z)
    refine ⟨e3, ?_⟩
    have eD3 : H3 D = some (.lst us) := k3 _ _ (k2 _ _ eD)
    have ra3 : RelWs K (Live (FA F D) st3 σ3) H3 acc us := ra.mono (s2.trans s3).mv
    refine ⟨FA F D, st3, _, noX, l3, q3, fun _ _ _ _ _ z => z.elim, fun b st4 H4 q4 l4 s4 => ?_⟩
    have eD4 : H4 D = some (.lst us) := s4.keep _ _ eD3 (l3.nwr (.inr rfl))
    have ra4 : RelWs K (Live (FA F D) st4 σ3) H4 acc us := ra3.mono s4.mv
    cases b with
    | false =>
      rw [if_neg Bool.false_ne_true] at q4
      refine iteF ⟨st4, acc, us, ?_⟩
      obtain ⟨l5, s5⟩ := l4.wipes vs
      rw [e3] at l5 s5
      exact ⟨l5, (((sc.trans s2).trans s3).trans s4).trans s5, eD4, ra4.mono s5.mv, q4⟩
    | true =>
      rw [if_pos rfl] at q4
      refine iteT ⟨FA F D, st4, _, noX, l4, q4, fun _ _ _ _ _ z => z.elim, fun w5 st5 v5 H5 q5 l5 s5 r5 => ?_⟩
      have eD5 : H5 D = some (.lst us) := s5.keep _ _ eD4 (l4.nwr (.inr rfl))
      have ra5 : RelWs K (Live (FA F D) st5 σ3) H5 acc us := ra4.mono s5.mv
      refine ⟨us, eD5, by rw [← ra5.length]; exact q5.1, st5, acc ++ [w5], us ++ [v5], ?_⟩
      obtain ⟨l6, s6⟩ := l5.wipes vs
      rw [e3] at l6 s6
      obtain ⟨l7, m7⟩ := l6.writeF (D := D) (u := .lst (us ++ [v5])) (.inr rfl)
      refine ⟨l7, ?_, upd_same, ((ra5.append (.cons r5 .nil)).mono s6.mv).mono m7, q5.2⟩
      have s8 := ((((sc.trans s2).trans s3).trans s4).trans s5).trans s6
      exact ⟨fun a u e n => by rw [upd_ne (ne_of_none e hD)]; exact s8.keep a u e n, s8.new⟩
  · have e : i = ws.length := by omega
    subst e
    rw [List.drop_length] at qc
    refine .inl ⟨y.stop _ (FA F D) (stc.wipe vs) (L2.wipe σ vs) Hc (Nat.le_refl _) mv1, ?_⟩
    exact k (.lst acc) (stc.wipe vs) D Hc qc lc.unwipe (s1.trans sc.unwipe) ⟨us, eD, ra.mono (mv_same fun a z => live_wipe.mp z)⟩ (NewAt.step s1 (.inr hD))
theorem pg_ex {g : IG} (h : ∀ F, PG X e (LG X.K F vs g)) : PG X e (fun v σ H Q => ∃ F, LG X.K F vs g v σ H Q) := ⟨fun pins s σ H v u Q I r ⟨F, q⟩ => (h F).run pins s σ H v u Q I r q⟩
def tYes' : IT := fun _ st Q => Q true st
structure PTI (X : Cx) (ifs : List Expr) (t : IT) : Prop where
  it : PTs X ifs (fun σ H Q => ∃ F, LT X.K F W0 t σ H Q)
theorem ti_nil : PTI X [] tYes' := ⟨⟨fun pins s σ H Q I ⟨F, st, QI, EI, l, q, ux, k⟩ => pts_nil.run pins s σ H Q I (k true st H q l .refl)⟩⟩
variable {elt iter : Expr} {ifs : List Expr} {scope : Scope} {il : IL} {g : IG} {t : IT} {ie : IE}
theorem n_lc (own : List (Str × Nat)) (hN : X.N.Nodup) (hi : PI X tg iter (LI X.K F Wx il)) (ok : BlkOk X.N X.env.scope scope own)
    (hg : ∀ (s : Shared) (H : Hp) (C : Addr) (cl : List (Str × Addr)) (fp : List Addr) F, PG (X.blk s H scope (compEnvC scope cl C X.env) fp) tg (LG X.K F (own.map (·.2)) g))
    (ht : ∀ (s : Shared) (H : Hp) (C : Addr) (cl : List (Str × Addr)) (fp : List Addr), PTI (X.blk s H scope (compEnvC scope cl C X.env) fp) ifs t)
    (he : ∀ (s : Shared) (H : Hp) (C : Addr) (cl : List (Str × Addr)) (fp : List Addr) F, PE (X.blk s H scope (compEnvC scope cl C X.env) fp) elt (LE X.K F W0 ie)) (hc : X.calm = true := by rfl) (hs : ∀ x, foldedSetIterable iter X.env x = pure x := by intro _; rfl) :
    PE X (.ListComp elt [⟨tg, iter, ifs, 0⟩] scope pos) (LN X.K F Wx (nLc il g t ie (own.map (·.2)))) :=
  pe_imp (pe_lc hc hN hi ok (fun s H C cl fp => pg_ex fun F => hg s H C cl fp F) (fun s H C cl fp => (ht s H C cl fp).it) (fun s H C cl fp => pe_ex fun F => he s H C cl fp F) hs) fun _ _ _ h => lc_of h
theorem s_setLc (i : Nat) (own : List (Str × Nat)) {y : Str} {py spos : Pos} (hN : X.N.Nodup) (hi : PI X tg iter (LI X.K F Wx il)) (ok : BlkOk X.N X.env.scope scope own)
    (hg : ∀ (s : Shared) (H : Hp) (C : Addr) (cl : List (Str × Addr)) (fp : List Addr) F, PG (X.blk s H scope (compEnvC scope cl C X.env) fp) tg (LG X.K F (own.map (·.2)) g))
    (ht : ∀ (s : Shared) (H : Hp) (C : Addr) (cl : List (Str × Addr)) (fp : List Addr), PTI (X.blk s H scope (compEnvC scope cl C X.env) fp) ifs t)
    (he : ∀ (s : Shared) (H : Hp) (C : Addr) (cl : List (Str × Addr)) (fp : List Addr) F, PE (X.blk s H scope (compEnvC scope cl C X.env) fp) elt (LE X.K F W0 ie)) (hsw : swapsWith (.ListComp elt [⟨tg, iter, ifs, 0⟩] scope pos) (some (.Name y py)) spos.line X.env = pure true)
    (hy : X.N[i]? = some y := by rfl) (hyl : X.env.scope.names.lookup y = some .local := by rfl) (hc : X.calm = true := by rfl) (hs : ∀ x, foldedSetIterable iter X.env x = pure x := by intro _; rfl) :
    PS X (.Assign [.Name y py] (.ListComp elt [⟨tg, iter, ifs, 0⟩] scope pos) spos) (LS X.K F Wx (sSetN i (nLc il g t ie (own.map (·.2))))) :=
  ps_imp (ps_setLc hc hN hy hyl hsw hi ok (fun s H C cl fp => pg_ex fun F => hg s H C cl fp F) (fun s H C cl fp => (ht s H C cl fp).it) (fun s H C cl fp => pe_ex fun F => he s H C cl fp F) hs) fun D σ H h => by
    exact lc_of (setN_of h)
end
end Sh
namespace Sh
open PySem L2
open PyProof.Rows hiding St
section
variable {X : Cx} {F : Addr → Prop} {Wx : WX} {a b c e o : Expr} {es : List Expr} {pos p apos cpos : Pos} {ia ib ic : IE} {i : IA} {n : Nat} {x name : Str} {id : String}
/-- from the items and the arguments: the items behind, the value -/
def MtG (r : V → List V → Hp → VK → Prop) (g : List W → List W → (List W → W → Prop) → Prop) : Prop :=
  ∀ {K : PySem.W.Frag} {Lv : Addr → Prop} {H : Hp} {l : Addr} {ws as : List W} {vs us : List V} {P : List W → W → Prop} {Q : VK}, g ws as P → H l = some (.lst vs) → RelWs K Lv H ws vs → RelWs K Lv H as us →
    (∀ ws' w vs' v, P ws' w → RelWs K Lv H ws' vs' → RelW K Lv H w v → Q v (upd H l (.lst vs'))) → r (.ref l) us H Q
def iMtO (j : Nat) (g : List W → List W → (List W → W → Prop) → Prop) (i : IA) : IE := fun EI st Q => ownL st j fun _ => i EI st fun as st1 => ownL st1 j fun ws => g ws as fun ws' w => Q w (st1.put j (.own (.lst ws')))
theorem i_mtO (j : Nat) {px : Pos} {r : V → List V → Hp → VK → Prop} {g : List W → List W → (List W → W → Prop) → Prop} (hg : MtG r g) (hm : MtR X id r) (slot : PySem.Slot "list" name id) (hty : typeOf (.builtin id) = pure (.type "method_descriptor")) (ha : PA X (e :: es) (LA X.K F Wx n i))
    (hN : X.N[j]? = some x := by rfl) (hv : Vis X.env.scope x := by first | exact Or.inl rfl | exact Or.inr (Or.inl rfl) | exact Or.inr (Or.inr rfl)) (hd : (x == ("__debug__" : Str)) = false := by decide) (hcd : (x == ("__classdict__" : Str)) = false := by decide)
    (hbase : attributeBase (.Name x px) name X.env (eval (.Name x px) X.env) = eval (.Name x px) X.env := by rfl)
    (hfew : ((backTo cpos (starEach (e :: es) X.env)).all (fun x => !x.1) && (backToKw cpos (keywordEach [] X.env)).all (fun x => x.1.isSome) && decide ((e :: es).length + ([] : List Keyword).length + (if ([] : List Keyword).isEmpty then 0 else 1) < 30)) = true := by rfl)
    (hline : (apos.endLine == cpos.line) = true := by rfl) (hs : starEach (e :: es) X.env = (false, eval e X.env) :: starEach es X.env := by rfl) (hplain : (backTo cpos (starEach es X.env)).any (·.1) = false := by rfl) :
    PE X (.Call (.Attribute (.Name x px) name apos) (e :: es) [] cpos) (LE X.K F Wx (iMtO j g i)) := by
  refine pe_imp (pe_bm PySem.F.plainAttrs_list slot hty hm (pe_var hN hv hd hcd) ha hbase hfew hline hs hplain) fun σ H Q h => ?_
  obtain ⟨st, QI, EI, l, q, ux, k⟩ := h
  obtain ⟨ws0, e0, q⟩ := ownL_inv q
  obtain ⟨b, eb, ⟨vs0, hv0, r0⟩, _⟩ := l.own j _ e0
  refine ⟨.ref b, eb, .inl ⟨rfl, _, SqL.of hv0⟩, st, _, EI, l, q, ux, fun as st1 us H1 hn q1 l1 s1 r1 => ?_⟩
  obtain ⟨ws, e1, q1⟩ := ownL_inv q1
  obtain ⟨b', eb', ⟨vs, hv1, rs⟩, _⟩ := l1.own j _ e1
  rw [eb] at eb'
  cases eb'
  refine hg q1 hv1 rs r1 fun ws' w vs' v p r2 rw' => ?_
  have la : Live F st1 σ b := .inl (.inr ⟨j, _, e1, eb⟩)
  have m : Mv (Live F st1 σ) H1 (Live F st1 σ) (upd H1 b (.lst vs')) := Mv.write la fun _ z => z
  obtain ⟨l2, s2⟩ := l1.write (o' := .lst ws') (u := .lst vs') e1 eb ⟨vs', upd_same, r2.mono m⟩
  exact k w _ v _ p l2 (s1.trans s2) (rw'.mono s2.mv)
def gAppend : List W → List W → (List W → W → Prop) → Prop := fun ws as P => match as with
  | [y] => ws.length < sizeLine ∧ P (ws ++ [y]) .non
  | _ => False
theorem mg_append : MtG rAppend gAppend := by
  intro K Lv H l ws as vs us P Q h hl rs ra k
  unfold gAppend at h
  split at h
  · cases ra with
    | cons r1 r2 =>
      cases r2
      exact ⟨l, vs, _, rfl, rfl, hl, by rw [← rs.length]; exact h.1, k _ _ _ _ h.2 (rs.append (.cons r1 .nil)) .non⟩
  · exact h.elim
abbrev rInsert : V → List V → Hp → VK → Prop := fun x vs H Q => ∃ (l : Addr) (xs : List V) (i : Int) (y : V), x = .ref l ∧ vs = [.int i, y] ∧ H l = some (.lst xs) ∧ xs.length < sizeLine ∧ 0 ≤ i ∧ i < 2 ^ 63 ∧
    Q .non (upd H l (.lst (xs.take i.toNat ++ [y] ++ xs.drop i.toNat)))
def gInsert : List W → List W → (List W → W → Prop) → Prop := fun ws as P => match as with
  | [.int i, y] => ws.length < sizeLine ∧ 0 ≤ i ∧ i < 2 ^ 63 ∧ P (ws.take i.toNat ++ [y] ++ ws.drop i.toNat) .non
  | _ => False
theorem mg_insert : MtG rInsert gInsert := by
  intro K Lv H l ws as vs us P Q h hl rs ra k
  unfold gInsert at h
  split at h
  · cases ra with
    | cons r1 r2 =>
      cases r1
      cases r2 with
      | cons r2 r3 =>
        cases r3
        exact ⟨l, vs, _, _, rfl, rfl, hl, by rw [← rs.length]; exact h.1, h.2.1, h.2.2.1, k _ _ _ _ h.2.2.2 (((rs.take _).append (.cons r2 .nil)).append (rs.drop _)) .non⟩
  · exact h.elim
def gExtend : List W → List W → (List W → W → Prop) → Prop := fun ws as P => match as with
  | [.lst ys] => ws.length + ys.length ≤ sizeLine ∧ P (ws ++ ys) .non
  | _ => False
theorem mg_extend : MtG rExtend gExtend := by
  intro K Lv H l ws as vs us P Q h hl rs ra k
  unfold gExtend at h
  split at h
  · cases ra with
    | cons r1 r2 =>
      cases r2
      cases r1 with
      | lst f r => exact ⟨l, _, vs, _, rfl, rfl, hl, f.1, by rw [← rs.length, ← r.length]; exact h.1, k _ _ _ _ h.2 (rs.append r) .non⟩
  · exact h.elim
def setW (ws : List W) (i : Int) (y : W) (P : List W → Prop) : Prop := match ixN ws.length i with
  | some j => P (ws.set j y)
  | none => False
theorem setW_inv {ws : List W} {i : Int} {y : W} {P : List W → Prop} (h : setW ws i y P) : ∃ j, ixN ws.length i = some j ∧ P (ws.set j y) := by
  unfold setW at h
  split at h
  · exact ⟨_, by assumption, h⟩
  · exact h.elim
theorem RelWs.set {K : PySem.W.Frag} {Lv : Addr → Prop} {H : Hp} {y : W} {v : V} (r : RelW K Lv H y v) : ∀ {ws : List W} {vs : List V} (j : Nat), RelWs K Lv H ws vs → RelWs K Lv H (ws.set j y) (vs.set j v)
  | _, _, _, .nil => .nil
  | _, _, 0, .cons _ t => .cons r t
  | _, _, j + 1, .cons q t => .cons q (RelWs.set r j t)
/-- of an owned list -/
def sIxO (j : Nat) (ii ie : IE) : IS := fun EI D st => ie EI st fun w st1 => ownL st1 j fun _ => ii EI st1 fun y st2 => ownL st2 j fun ws => match y with
  | .int k => setW ws k w fun ws' => D.nx (st2.put j (.own (.lst ws')))
  | _ => False
theorem s_ixO (j : Nat) {px tp : Pos} {ii ie : IE} {b : Expr} (he : PE X e (LE X.K F Wx ie)) (hi : PE X b (LE X.K F Wx ii)) (hN : X.N[j]? = some x := by rfl) (hv : Vis X.env.scope x := by first | exact Or.inl rfl | exact Or.inr (Or.inl rfl) | exact Or.inr (Or.inr rfl)) (hd : (x == ("__debug__" : Str)) = false := by decide)
    (hcd : (x == ("__classdict__" : Str)) = false := by decide) (hs : swapsWithSole [.Subscript (.Name x px) b tp] e pos.line X.env = pure false := by rfl) (hw : swappedStores [.Subscript (.Name x px) b tp] e X.env = pure none := by rfl)
    (h1 : (assignEach [.Subscript (.Name x px) b tp] X.env).map (·.2) = [assign (.Subscript (.Name x px) b tp) X.env] := by rfl)
    (ha : ∀ v, assign (.Subscript (.Name x px) b tp) X.env v = (do
      let ov ← holding [v] (eval (.Name x px) X.env)
      let iv ← holding [v, ov] (eval b X.env)
      standAt tp
      holding [v, ov, iv] (setItem ov iv v)
      release [v, ov, iv] []) := by intro _; rfl) :
    PS X (.Assign [.Subscript (.Name x px) b tp] e pos) (LS X.K F Wx (sIxO j ii ie)) := ps_imp (ps_asg he (pg_sub (pe_var hN hv hd hcd) hi set_list ha) hs hw h1) fun D σ H h => by
  obtain ⟨st, DI, EI, l, q, u⟩ := h
  refine ⟨st, _, EI, l, q, u.x, fun w st1 v H1 q1 l1 s1 r1 => ?_⟩
  obtain ⟨ws0, e0, q1⟩ := ownL_inv q1
  obtain ⟨b', eb, _⟩ := l1.own j _ e0
  refine ⟨.ref b', eb, st1, _, EI, l1, q1, u.x.step s1, fun y st2 v2 H2 q2 l2 s2 r2 => ?_⟩
  obtain ⟨ws, e1, q2⟩ := ownL_inv q2
  obtain ⟨b2, eb2, ⟨vs, hv1, rs⟩, _⟩ := l2.own j _ e1
  rw [eb] at eb2
  cases eb2
  split at q2
  · cases r2
    obtain ⟨jj, ej, p⟩ := setW_inv q2
    refine ⟨b', vs, _, jj, rfl, rfl, hv1, by rw [← rs.length]; exact ej, ?_⟩
    have la : Live F st2 σ b' := .inl (.inr ⟨j, _, e1, eb⟩)
    have m : Mv (Live F st2 σ) H2 (Live F st2 σ) (upd H2 b' (.lst (vs.set jj v))) := Mv.write la fun _ z => z
    obtain ⟨l3, s3⟩ := l2.write (o' := .lst (ws.set jj w)) (u := .lst (vs.set jj v)) e1 eb ⟨_, upd_same, (rs.set (r1.mono s2.mv) jj).mono m⟩
    exact u.nx _ _ _ p l3 ((s1.trans s2).trans s3)
  · exact q2.elim
/-- a list of the store, by a name -/
def stoL (st : Stt) (j : Nat) (P : Addr → List W → Prop) : Prop := match st.ρ[j]? with
  | some (.val (.ref a)) => (match st.S a with
    | some (.lst ws) => P a ws
    | _ => False)
  | _ => False
theorem stoL_inv {st : Stt} {j : Nat} {P : Addr → List W → Prop} (h : stoL st j P) : ∃ a ws, st.ρ[j]? = some (.val (.ref a)) ∧ st.S a = some (.lst ws) ∧ P a ws := by
  unfold stoL at h
  split at h
  · split at h
    · exact ⟨_, _, by assumption, by assumption, h⟩
    · exact h.elim
  · exact h.elim
def sIxS (j : Nat) (ii ie : IE) : IS := fun EI D st => ie EI st fun w st1 => stoL st1 j fun _ _ => ii EI st1 fun y st2 => stoL st2 j fun a ws => match y with
  | .int k => setW ws k w fun ws' => D.nx (st2.puts a (.lst ws'))
  | _ => False
theorem s_ixS (j : Nat) {px tp : Pos} {ii ie : IE} {b : Expr} (he : PE X e (LE X.K F Wx ie)) (hi : PE X b (LE X.K F Wx ii)) (hN : X.N[j]? = some x := by rfl) (hv : Vis X.env.scope x := by first | exact Or.inl rfl | exact Or.inr (Or.inl rfl) | exact Or.inr (Or.inr rfl)) (hd : (x == ("__debug__" : Str)) = false := by decide)
    (hcd : (x == ("__classdict__" : Str)) = false := by decide) (hs : swapsWithSole [.Subscript (.Name x px) b tp] e pos.line X.env = pure false := by rfl) (hw : swappedStores [.Subscript (.Name x px) b tp] e X.env = pure none := by rfl)
    (h1 : (assignEach [.Subscript (.Name x px) b tp] X.env).map (·.2) = [assign (.Subscript (.Name x px) b tp) X.env] := by rfl)
    (ha : ∀ v, assign (.Subscript (.Name x px) b tp) X.env v = (do
      let ov ← holding [v] (eval (.Name x px) X.env)
      let iv ← holding [v, ov] (eval b X.env)
      standAt tp
      holding [v, ov, iv] (setItem ov iv v)
      release [v, ov, iv] []) := by intro _; rfl) :
    PS X (.Assign [.Subscript (.Name x px) b tp] e pos) (LS X.K F Wx (sIxS j ii ie)) := ps_imp (ps_asg he (pg_sub (pe_var hN hv hd hcd) hi set_list ha) hs hw h1) fun D σ H h => by
  obtain ⟨st, DI, EI, l, q, u⟩ := h
  refine ⟨st, _, EI, l, q, u.x, fun w st1 v H1 q1 l1 s1 r1 => ?_⟩
  obtain ⟨a0, ws0, e0, _, q1⟩ := stoL_inv q1
  obtain ⟨v0, ev, r0⟩ := l1.val j _ e0
  cases r0
  refine ⟨.ref a0, ev, st1, _, EI, l1, q1, u.x.step s1, fun y st2 v2 H2 q2 l2 s2 r2 => ?_⟩
  obtain ⟨a1, ws, e1, es, q2⟩ := stoL_inv q2
  obtain ⟨v1, ev1, r1'⟩ := l2.val j _ e1
  rw [ev] at ev1
  cases ev1
  cases r1'
  split at q2
  · cases r2
    obtain ⟨jj, ej, p⟩ := setW_inv q2
    obtain ⟨vs, hv1, rs⟩ := l2.sto _ _ es
    refine ⟨a0, vs, _, jj, rfl, rfl, hv1, by rw [← rs.length]; exact ej, ?_⟩
    have la : Live F st2 σ a0 := .inl (.inl (by rw [es]; exact fun z => nomatch z))
    have m : Mv (Live F st2 σ) H2 (Live F st2 σ) (upd H2 a0 (.lst (vs.set jj v))) := Mv.write la fun _ z => z
    obtain ⟨l3, s3⟩ := l2.writeS (o' := .lst (ws.set jj w)) (u := .lst (vs.set jj v)) es ⟨_, upd_same, (rs.set (r1.mono s2.mv) jj).mono m⟩
    exact u.nx _ _ _ p l3 ((s1.trans s2).trans s3)
  · exact q2.elim
/-- xs[i] += e, a list of the store, numbers, i not below 0 -/
def rGetL : V → V → Hp → VK → Prop := fun x y H Q => ∃ p xs i v, x = .ref p ∧ y = .int i ∧ H p = some (.lst xs) ∧ 0 ≤ i ∧ i < 2 ^ 62 ∧ xs[i.toNat]? = some v ∧ Q v H
theorem get_list : PGet X rGetL := by
  intro pins s σ H x y v u Q I rx ry h
  obtain ⟨p, xs, i, z, rfl, rfl, hp, h0, h1, hz, q⟩ := h
  cases rx
  obtain ⟨t, rfl⟩ := ry
  obtain ⟨its, r, pl, _⟩ := I.list (SqL.of hp)
  obtain ⟨w, ew, rw'⟩ := r.get hz
  exact wpAny_getItem_list pl.isList h0 (by omega) (by simpa using ew) ⟨z, H, I, rw', q⟩
def sAugS (j : Nat) (f : Int → Int → Int) (ii ie : IE) : IS := fun EI D st => stoL st j fun _ _ => ii EI st fun y st1 => stoL st1 j fun _ ws => match y with
  | .int k => 0 ≤ k ∧ k < 2 ^ 62 ∧ (match ws[k.toNat]? with
    | some (.int n) => ie EI st1 fun z st2 => stoL st2 j fun a ws2 => (match z with
      | .int m => setW ws2 k (.int (f n m)) fun ws' => D.nx (st2.puts a (.lst ws'))
      | _ => False)
    | _ => False)
  | _ => False
theorem s_augS (j : Nat) {px tp : Pos} {ii ie : IE} {b : Expr} {op : Operator} {f : Int → Int → Int} (ho : PIp X op (ipI f)) (he : PE X e (LE X.K F Wx ie)) (hi : PE X b (LE X.K F Wx ii)) (hN : X.N[j]? = some x := by rfl) (hv : Vis X.env.scope x := by first | exact Or.inl rfl | exact Or.inr (Or.inl rfl) | exact Or.inr (Or.inr rfl)) (hd : (x == ("__debug__" : Str)) = false := by decide)
    (hcd : (x == ("__classdict__" : Str)) = false := by decide) (ha : ∀ ov iv new, augStore b ov iv new = (do holding [new, ov, iv] (setItem ov iv new); release [new, ov, iv] []; pure .next) := by intros; rfl) :
    PS X (.AugAssign (.Subscript (.Name x px) b tp) op e pos) (LS X.K F Wx (sAugS j f ii ie)) := ps_imp (ps_augS (pe_var hN hv hd hcd) hi get_list he ho set_list ha) fun D σ H h => by
  obtain ⟨st, DI, EI, l, q, u⟩ := h
  obtain ⟨a0, ws0, e0, _, q⟩ := stoL_inv q
  obtain ⟨v0, ev, r0⟩ := l.val j _ e0
  cases r0
  refine ⟨.ref a0, ev, st, _, EI, l, q, u.x, fun y st1 v1 H1 q1 l1 s1 r1 => ?_⟩
  obtain ⟨a1, ws1, e1, es1, q1⟩ := stoL_inv q1
  obtain ⟨v1', ev1, r1'⟩ := l1.val j _ e1
  rw [ev] at ev1
  cases ev1
  cases r1'
  split at q1
  · cases r1
    obtain ⟨hk0, hk1, q1⟩ := q1
    split at q1
    · rename_i m ew
      obtain ⟨vs1, hv1, rs1⟩ := l1.sto _ _ es1
      obtain ⟨z1, ez, rz⟩ := rs1.get ew
      cases rz
      refine ⟨a0, vs1, _, .int m, rfl, rfl, hv1, hk0, hk1, ez, st1, _, EI, l1, q1, u.x.step s1, fun z st2 v2 H2 q2 l2 s2 r2 => ?_⟩
      obtain ⟨a2, ws2, e2, es2, q2⟩ := stoL_inv q2
      obtain ⟨v2', ev2, r2'⟩ := l2.val j _ e2
      rw [ev] at ev2
      cases ev2
      cases r2'
      split at q2
      · rename_i m2
        cases r2
        obtain ⟨jj, ej, p⟩ := setW_inv q2
        obtain ⟨vs, hv2, rs⟩ := l2.sto _ _ es2
        refine ⟨_, _, rfl, rfl, a0, vs, _, jj, rfl, rfl, hv2, by rw [← rs.length]; exact ej, ?_⟩
        have la : Live F st2 σ a0 := .inl (.inl (by rw [es2]; exact fun z => nomatch z))
        have key : ∀ c : Int, Lk X.K F (st2.puts a0 (.lst (ws2.set jj (.int c)))) σ (upd H2 a0 (.lst (vs.set jj (.int c)))) ∧ Step st2 σ H2 (st2.puts a0 (.lst (ws2.set jj (.int c)))) σ (upd H2 a0 (.lst (vs.set jj (.int c)))) := fun c => by
          have m' : Mv (Live F st2 σ) H2 (Live F st2 σ) (upd H2 a0 (.lst (vs.set jj (.int c)))) := Mv.write la fun _ z => z
          exact l2.writeS es2 ⟨_, upd_same, (rs.set (.int c) jj).mono m'⟩
        obtain ⟨l3, s3⟩ := key _
        exact u.nx _ _ _ p l3 ((s1.trans s2).trans s3)
      · exact q2.elim
    · exact q1.elim
  · exact q1.elim
def gLen : List W → (W → Prop) → Prop := fun ws P => match ws with
  | [.str y] => y.length ≤ sizeLine ∧ P (.int y.length)
  | [.tup ys] => P (.int ys.length)
  | [.lst ys] => P (.int ys.length)
  | [.scr ns] => P (.int ns.length)
  | _ => False
theorem bt_len {K : PySem.W.Frag} : BtG K (fun xs H Q => ∃ x n, xs = [x] ∧ LenV K x H n ∧ Q (.int n) H) gLen := by
  intro F st σ H ws vs P Q h l r k
  unfold gLen at h
  split at h
  · cases r with
    | cons r1 r2 =>
      cases r2
      cases r1
      exact ⟨_, _, rfl, ⟨h.1, rfl⟩, k _ _ H h.2 l .refl (.int _)⟩
  · cases r with
    | cons r1 r2 =>
      cases r2
      cases r1 with
      | tup f rs => exact ⟨_, _, rfl, .inr ⟨_, f.sq, rfl⟩, by rw [← rs.length]; exact k _ _ H h l .refl (.int _)⟩
  · cases r with
    | cons r1 r2 =>
      cases r2
      cases r1 with
      | lst f rs => exact ⟨_, _, rfl, .inl ⟨_, f.sq, rfl⟩, by rw [← rs.length]; exact k _ _ H h l .refl (.int _)⟩
  · cases r with
    | cons r1 r2 =>
      cases r2
      cases r1 with
      | scr f => exact ⟨_, _, rfl, .inl ⟨_, f.sq, rfl⟩, by rw [List.length_map]; exact k _ _ H h l .refl (.int _)⟩
  · exact h.elim
theorem i_len (hm : X.mg "len" = none) (ha : PA X (e :: es) (LA X.K F Wx n i)) (hg : Gl X "len" := by rfl) (he : starEach (e :: es) X.env = (false, eval e X.env) :: starEach es X.env := by rfl) (hpl : (backTo pos (starEach es X.env)).any (·.1) = false := by rfl) :
    PE X (.Call (.Name "len" p) (e :: es) [] pos) (LE X.K F Wx (iFn gLen i)) := i_fn call_len bt_len hm PySem.boot_len ha hg (by decide) (by decide) he hpl
/-- len of an owned list -/
def iLenO (j : Nat) : IE := fun _ st Q => ownL st j fun ws => Q (.int ws.length) st
theorem i_lenO (j : Nat) {px : Pos} (hm : X.mg "len" = none) (hN : X.N[j]? = some x := by rfl) (hv : Vis X.env.scope x := by first | exact Or.inl rfl | exact Or.inr (Or.inl rfl) | exact Or.inr (Or.inr rfl)) (hd : (x == ("__debug__" : Str)) = false := by decide)
    (hcd : (x == ("__classdict__" : Str)) = false := by decide) (hg : Gl X "len" := by rfl) (he : starEach [.Name x px] X.env = (false, eval (.Name x px) X.env) :: starEach [] X.env := by rfl) (hpl : (backTo pos (starEach [] X.env)).any (·.1) = false := by rfl) :
    PE X (.Call (.Name "len" p) [.Name x px] [] pos) (LE X.K F Wx (iLenO j)) := pe_imp (pe_callB call_len hg hm PySem.boot_len (pa_cons (pe_var hN hv hd hcd) pa_nil he) (by decide) (by decide) he hpl) fun σ H Q h => by
  obtain ⟨st, QI, EI, l, q, ux, k⟩ := h
  obtain ⟨ws, e0, q⟩ := ownL_inv q
  obtain ⟨b, eb, ⟨vs, hv, rs⟩, _⟩ := l.own j _ e0
  exact ⟨.ref b, eb, _, _, rfl, .inl ⟨_, SqL.of hv, rfl⟩, by rw [← rs.length]; exact k _ _ _ H q l .refl (.int _)⟩
def gAbs : List W → (W → Prop) → Prop := fun ws P => match ws with
  | [.int j] => P (.int (if j < 0 then -j else j))
  | _ => False
theorem bt_abs {K : PySem.W.Frag} : BtG K (fun xs H Q => ∃ i, xs = [.int i] ∧ Q (.int (if i < 0 then -i else i)) H) gAbs := by
  intro F st σ H ws vs P Q h l r k
  unfold gAbs at h
  split at h
  · cases r with
    | cons r1 r2 =>
      cases r2
      cases r1
      exact ⟨_, rfl, k _ _ H h l .refl (.int _)⟩
  · exact h.elim
theorem boot_abs' : bootBuiltins "abs" = some (.builtin "abs") := by decide +kernel
theorem i_abs (hm : X.mg "abs" = none) (ha : PA X (e :: es) (LA X.K F Wx n i)) (hg : Gl X "abs" := by rfl) (he : starEach (e :: es) X.env = (false, eval e X.env) :: starEach es X.env := by rfl) (hpl : (backTo pos (starEach es X.env)).any (·.1) = false := by rfl) :
    PE X (.Call (.Name "abs" p) (e :: es) [] pos) (LE X.K F Wx (iFn gAbs i)) := i_fn call_abs bt_abs hm boot_abs' ha hg (by decide) (by decide) he hpl
def gInt : List W → (W → Prop) → Prop := fun ws P => match ws with
  | [.int j] => P (.int j)
  | [.bl k] => P (.int (if k then 1 else 0))
  | _ => False
theorem bt_int {K : PySem.W.Frag} : BtG K (fun xs H Q => (∃ i, xs = [.int i] ∧ Q (.int i) H) ∨ ∃ k, xs = [.bl k] ∧ Q (.int (if k then 1 else 0)) H) gInt := by
  intro F st σ H ws vs P Q h l r k
  unfold gInt at h
  split at h
  · cases r with
    | cons r1 r2 =>
      cases r2
      cases r1
      exact .inl ⟨_, rfl, k _ _ H h l .refl (.int _)⟩
  · cases r with
    | cons r1 r2 =>
      cases r2
      cases r1
      exact .inr ⟨_, rfl, k _ _ H h l .refl (.int _)⟩
  · exact h.elim
theorem boot_int' : bootBuiltins "int" = some (.type "int") := by decide +kernel
theorem i_toint (hm : X.mg "int" = none) (ha : PA X (e :: es) (LA X.K F Wx n i)) (hg : Gl X "int" := by rfl) (he : starEach (e :: es) X.env = (false, eval e X.env) :: starEach es X.env := by rfl) (hpl : (backTo pos (starEach es X.env)).any (·.1) = false := by rfl) :
    PE X (.Call (.Name "int" p) (e :: es) [] pos) (LE X.K F Wx (iFn gInt i)) := i_ty call_int1 bt_int hm boot_int' ha hg (by decide) (by decide) he hpl
def gMinMax (f : Int → Int → Int) : List W → (W → Prop) → Prop := fun ws P => match ws with
  | [.int a, .int b] => P (.int (f a b))
  | _ => False
theorem bt_mm {K : PySem.W.Frag} {f : Int → Int → Int} : BtG K (fun xs H Q => ∃ i j, xs = [.int i, .int j] ∧ Q (.int (f i j)) H) (gMinMax f) := by
  intro F st σ H ws vs P Q h l r k
  unfold gMinMax at h
  split at h
  · cases r with
    | cons r1 r2 =>
      cases r1
      cases r2 with
      | cons r2 r3 =>
        cases r2
        cases r3
        exact ⟨_, _, rfl, k _ _ H h l .refl (.int _)⟩
  · exact h.elim
theorem boot_min' : bootBuiltins "min" = some (.builtin "min") := by decide +kernel
theorem boot_max' : bootBuiltins "max" = some (.builtin "max") := by decide +kernel
theorem i_max2 (hm : X.mg "max" = none) (ha : PA X (e :: es) (LA X.K F Wx n i)) (hc : X.calm = true := by rfl) (hg : Gl X "max" := by rfl) (he : starEach (e :: es) X.env = (false, eval e X.env) :: starEach es X.env := by rfl) (hpl : (backTo pos (starEach es X.env)).any (·.1) = false := by rfl) :
    PE X (.Call (.Name "max" p) (e :: es) [] pos) (LE X.K F Wx (iFn (gMinMax fun i j => if j > i then j else i) i)) := i_fn (call_max2 hc) bt_mm hm boot_max' ha hg (by decide) (by decide) he hpl
theorem i_min2 (hm : X.mg "min" = none) (ha : PA X (e :: es) (LA X.K F Wx n i)) (hc : X.calm = true := by rfl) (hg : Gl X "min" := by rfl) (he : starEach (e :: es) X.env = (false, eval e X.env) :: starEach es X.env := by rfl) (hpl : (backTo pos (starEach es X.env)).any (·.1) = false := by rfl) :
    PE X (.Call (.Name "min" p) (e :: es) [] pos) (LE X.K F Wx (iFn (gMinMax fun i j => if j < i then j else i) i)) := i_fn (call_min2 hc) bt_mm hm boot_min' ha hg (by decide) (by decide) he hpl
/-- list(x), tuple(x) -/
def gList : List W → (W → Prop) → Prop := fun ws P => match ws with
  | [.lst ys] => P (.lst ys)
  | [.tup ys] => P (.lst ys)
  | _ => False
theorem bt_list {K : PySem.W.Frag} : BtG K (fun xs H Q => ∃ p ys, xs = [.ref p] ∧ (SqL K H p ys ∨ SqT K H p ys) ∧ ∀ l, H l = none → Q (.ref l) (upd H l (.lst ys))) gList := by
  intro F st σ H ws vs P Q h l r k
  have key : ∀ (ys : List W) (us : List V), RelWs K (Live F st σ) H ys us → P (.lst ys) → ∀ q, H q = none → Q (.ref q) (upd H q (.lst us)) := fun ys us rs p q hq => by
    have s := Step.laid (o := .lst us) l hq
    exact k _ _ _ p (l.laid hq) s (.lst (FzL.new l hq) (rs.mono s.mv))
  unfold gList at h
  split at h
  · cases r with
    | cons r1 r2 =>
      cases r2
      cases r1 with
      | lst f rs => exact ⟨_, _, rfl, .inl f.sq, key _ _ rs h⟩
  · cases r with
    | cons r1 r2 =>
      cases r2
      cases r1 with
      | tup f rs => exact ⟨_, _, rfl, .inr f.sq, key _ _ rs h⟩
  · exact h.elim
theorem boot_list' : bootBuiltins "list" = some (.type "list") := by decide +kernel
theorem boot_tuple' : bootBuiltins "tuple" = some (.type "tuple") := by decide +kernel
theorem i_list (hm : X.mg "list" = none) (ha : PA X (e :: es) (LA X.K F Wx n i)) (hg : Gl X "list" := by rfl) (he : starEach (e :: es) X.env = (false, eval e X.env) :: starEach es X.env := by rfl) (hpl : (backTo pos (starEach es X.env)).any (·.1) = false := by rfl) :
    PE X (.Call (.Name "list" p) (e :: es) [] pos) (LE X.K F Wx (iFn gList i)) := i_ty call_list_of bt_list hm boot_list' ha hg (by decide) (by decide) he hpl
def gTuple : List W → (W → Prop) → Prop := fun ws P => match ws with
  | [.lst ys] => P (.tup ys)
  | [.tup ys] => P (.tup ys)
  | _ => False
theorem bt_tuple {K : PySem.W.Frag} : BtG K (fun xs H Q => ∃ p ys, xs = [.ref p] ∧ ((SqL K H p ys ∧ ∀ l, H l = none → Q (.ref l) (upd H l (.tup ys))) ∨ (SqT K H p ys ∧ Q (.ref p) H))) gTuple := by
  intro F st σ H ws vs P Q h l r k
  unfold gTuple at h
  split at h
  · cases r with
    | cons r1 r2 =>
      cases r2
      cases r1 with
      | lst f rs =>
        rename_i us
        refine ⟨_, us, rfl, .inl ⟨f.sq, fun q hq => ?_⟩⟩
        have s := Step.laid (o := .tup us) l hq
        exact k _ _ _ h (l.laid hq) s (.tup (FzT.new l hq) (rs.mono s.mv))
  · cases r with
    | cons r1 r2 =>
      cases r2
      cases r1 with
      | tup f rs => exact ⟨_, _, rfl, .inr ⟨f.sq, k _ _ H h l .refl (.tup f rs)⟩⟩
  · exact h.elim
theorem i_tuple (hm : X.mg "tuple" = none) (ha : PA X (e :: es) (LA X.K F Wx n i)) (hg : Gl X "tuple" := by rfl) (he : starEach (e :: es) X.env = (false, eval e X.env) :: starEach es X.env := by rfl) (hpl : (backTo pos (starEach es X.env)).any (·.1) = false := by rfl) :
    PE X (.Call (.Name "tuple" p) (e :: es) [] pos) (LE X.K F Wx (iFn gTuple i)) := i_ty call_tuple_of bt_tuple hm boot_tuple' ha hg (by decide) (by decide) he hpl
/-- list(range(a)) -/
def iListRg (ia : IE) : IE := fun EI st Q => ia EI st fun x st1 => match x with
  | .int j => 0 ≤ j ∧ j ≤ 16777216 ∧ Q (.lst (rng 0 j.toNat)) st1
  | _ => False
theorem rng_rel {K : PySem.W.Frag} {Lv : Addr → Prop} {H : Hp} (lo hi : Int) : RelWs K Lv H (rng lo (hi - lo).toNat) (rgV lo hi) := by
  unfold rng rgV
  generalize (hi - lo).toNat = n
  induction (List.range n) with
  | nil => exact .nil
  | cons i l ih => exact .cons (.int _) ih
theorem i_listRg {p2 pos2 : Pos} (hm : X.mg "list" = none) (hm2 : X.mg "range" = none) (ha : PE X a (LE X.K F Wx ia)) (hc : X.calm = true := by rfl) (hg : Gl X "list" := by rfl) (hg2 : Gl X "range" := by rfl) (n1 : starEach [a] X.env = (false, eval a X.env) :: starEach [] X.env := by rfl)
    (na : starEach [.Call (.Name "range" p2) [a] [] pos2] X.env = (false, eval (.Call (.Name "range" p2) [a] [] pos2) X.env) :: starEach [] X.env := by rfl) : PE X (.Call (.Name "list" p) [.Call (.Name "range" p2) [a] [] pos2] [] pos) (LE X.K F Wx (iListRg ia)) := by
  refine pe_imp (pe_listRg hc hg hm (prg_1 hg2 hm2 ha n1) na) fun σ H Q h => ?_
  obtain ⟨st, QI, EI, l, q, ux, k⟩ := h
  refine ⟨st, _, EI, l, q, ux, fun x st1 v H1 q1 l1 s1 r1 => ?_⟩
  split at q1
  · rename_i j
    cases r1
    refine ⟨_, rfl, RgOk.of_le (by decide) q1.2.1 (by decide) q1.1, fun q hq => ?_⟩
    have s := Step.laid (o := .lst (rgV 0 j)) l1 hq
    have e1 : (j - 0).toNat = j.toNat := by rw [Int.sub_zero]
    have rr := rng_rel (K := X.K) (Lv := Live F st1 σ) (H := upd H1 q (.lst (rgV 0 j))) 0 j
    rw [e1] at rr
    exact k _ _ _ _ q1.2.2 (l1.laid hq) (s1.trans s) (.lst (FzL.new l1 hq) rr)
  · exact q1.elim
/-- all(..), any(..) of truths -/
def blsOf : List W → Option (List Bool)
  | [] => some []
  | .bl b :: ws => (blsOf ws).map (b :: ·)
  | _ => none
theorem bls_rel {K : PySem.W.Frag} {Lv : Addr → Prop} {H : Hp} : ∀ {ws : List W} {vs : List V} {bs : List Bool}, blsOf ws = some bs → RelWs K Lv H ws vs → vs = bs.map V.bl := by
  intro ws
  induction ws with
  | nil =>
    intro vs bs e r
    cases r
    cases e
    rfl
  | cons w ws ih =>
    intro vs bs e r
    cases r with
    | cons h r =>
      cases w with
      | bl b =>
        cases h
        unfold blsOf at e
        cases q : blsOf ws with
        | none => rw [q] at e; cases e
        | some bs =>
          rw [q] at e
          cases e
          rw [ih q r]
          rfl
      | _ => cases e
def gAll (f : List Bool → Bool) : List W → (W → Prop) → Prop := fun ws P => match ws with
  | [.lst ys] => (match blsOf ys with
    | some bs => P (.bl (f bs))
    | none => False)
  | _ => False
theorem bt_all {K : PySem.W.Frag} {f : List Bool → Bool} : BtG K (fun vs H Q => ∃ (a : Addr) (bs : List Bool), vs = [V.ref a] ∧ SqL K H a (bs.map V.bl) ∧ Q (.bl (f bs)) H) (gAll f) := by
  intro F st σ H ws vs P Q h l r k
  unfold gAll at h
  split at h
  · split at h
    · rename_i bs eb
      cases r with
      | cons r1 r2 =>
        cases r2
        cases r1 with
        | lst fz rs =>
          have e := bls_rel eb rs
          subst e
          exact ⟨_, bs, rfl, fz.sq, k _ _ H h l .refl (.bl _)⟩
    · exact h.elim
  · exact h.elim
theorem boot_all' : bootBuiltins "all" = some (.builtin "all") := by decide +kernel
theorem i_all (hm : X.mg "all" = none) (ha : PA X (e :: es) (LA X.K F Wx n i)) (hc : X.calm = true := by rfl) (hg : Gl X "all" := by rfl) (he : starEach (e :: es) X.env = (false, eval e X.env) :: starEach es X.env := by rfl) (hpl : (backTo pos (starEach es X.env)).any (·.1) = false := by rfl) :
    PE X (.Call (.Name "all" p) (e :: es) [] pos) (LE X.K F Wx (iFn (gAll fun bs => bs.all _root_.id) i)) := i_fn (cr_all hc) bt_all hm boot_all' ha hg (by decide) (by decide) he hpl
def tyN : W → Option String
  | .non => some "NoneType"
  | .bl _ => some "bool"
  | .int _ => some "int"
  | .str _ => some "str"
  | .tup _ => some "tuple"
  | .lst _ => some "list"
  | .dct _ => some "dict"
  | _ => none
def gIsi : List W → (W → Prop) → Prop := fun ws P => match ws with
  | [x, .ty T] => (match tyN x with
    | some S => (match kitB S T with
      | some b => P (.bl b)
      | none => False)
    | none => False)
  | _ => False
theorem tyx_of {K : PySem.W.Frag} {Lv : Addr → Prop} {H : Hp} {w : W} {v : V} {S : String} (e : tyN w = some S) (r : RelW K Lv H w v) : TyX K H v (.type S) := by
  cases r with
  | non => cases e; exact .base .non
  | bl b => cases e; exact .base (.bl b)
  | int j => cases e; exact .base (.int j)
  | str y => cases e; exact .base (.str y)
  | tup f rs =>
    cases e
    rcases f with ⟨f, _⟩ | ⟨o, _, _, h1, h2, _⟩
    · exact .base (.tup f)
    · exact .kTuple h1 h2
  | lst f rs => cases e; exact .base (.lst f.1)
  | dct f n rs => cases e; exact .base (.dK f)
  | ty => cases e
  | ref => cases e
  | obj f n rs => cases e
  | dcT f n rs => cases e
  | exn0 => cases e
  | exn1 f n rs => cases e
  | scr f => cases e
  | glo n => cases e
theorem bt_isi {K : PySem.W.Frag} : BtG K (rIsi K) gIsi := by
  intro F st σ H ws vs P Q h l r k
  unfold gIsi at h
  split at h
  · split at h
    · rename_i S eS
      split at h
      · rename_i b eb
        cases r with
        | cons r1 r2 =>
          cases r2 with
          | cons r2 r3 =>
            cases r2
            cases r3
            exact ⟨_, _, _, _, b, rfl, .ty _, tyx_of eS r1, kit_ty eb, k _ _ H h l .refl (.bl _)⟩
      · exact h.elim
    · exact h.elim
  · exact h.elim
theorem boot_isi' : bootBuiltins "isinstance" = some (.builtin "isinstance") := by decide +kernel
theorem i_isi (hm : X.mg "isinstance" = none) (ha : PA X (e :: es) (LA X.K F Wx n i)) (hg : Gl X "isinstance" := by rfl) (he : starEach (e :: es) X.env = (false, eval e X.env) :: starEach es X.env := by rfl) (hpl : (backTo pos (starEach es X.env)).any (·.1) = false := by rfl) :
    PE X (.Call (.Name "isinstance" p) (e :: es) [] pos) (LE X.K F Wx (iFn gIsi i)) := i_fn call_isi bt_isi hm boot_isi' ha hg (by decide) (by decide) he hpl
/-- a built-in type as a value -/
theorem i_tyv {T : String} (hm : X.mg x = none) (hv : bootBuiltins x = some (.type T)) (hg : Gl X x := by rfl) (hn : x ≠ "__name__" := by decide) (hdb : (x == ("__debug__" : Str)) = false := by decide) : PE X (.Name x pos) (LE X.K F Wx (iC (.ty T))) := i_c (pe_bltn (v := .ty T) hg hm hv rfl hn hdb) fun _ _ => .ty T
def RepOk (w : W) : Prop := okD 60 w = true ∧ (toD w).showable = true ∧ (toD w).shown.length ≤ sizeLine
def gRepr : List W → (W → Prop) → Prop := fun ws P => match ws with
  | [w] => RepOk w ∧ P (.str (toD w).shown)
  | _ => False
def rRepr (K : PySem.W.Frag) : List V → Hp → VK → Prop := fun vs H Q => ∃ (v : V) (d : PyData), vs = [v] ∧ Dp K H v d ∧ d.canLay0 = true ∧ d.depth ≤ 60 ∧ d.showable = true ∧ d.shown.length ≤ sizeLine ∧ Q (.str d.shown) H
theorem cr_repr (hgd : X.A.guards = some []) (hu : X.A.units + 64 < cLine) : CallR X (.builtin "repr") (rRepr X.K) := by
  intro pins s σ H xs us Q I r h
  obtain ⟨v, d, rfl, hd, hl, hdp, hs, hz, q⟩ := h
  obtain ⟨u, rfl, ru⟩ := vals1 r
  cases hd with
  | non => cases ru; exact PySem.P.repr_of_none ⟨.str _, H, I.tok _, ⟨_, rfl⟩, q⟩
  | bl b => cases ru; exact PySem.P.repr_of_bool ⟨.str _, H, I.tok _, ⟨_, rfl⟩, q⟩
  | int j =>
    obtain ⟨t, rfl⟩ := ru
    exact PySem.P.repr_of_int (of_decide_eq_true hs) ⟨.str _, H, I.tok _, ⟨_, rfl⟩, q⟩
  | str y =>
    obtain ⟨t, rfl⟩ := ru
    exact PySem.P.repr_of_str ⟨.str _, H, I.tok _, ⟨_, rfl⟩, q⟩ hz
  | lst f rs =>
    cases ru
    obtain ⟨as, rr⟩ := Dp.reads I _ _ _ (.lst f rs) rfl
    exact repr_of_reads' rr hs (PyData.noDict_hsm (PyData.hasDict_of_canLay _ hl)) hgd (by omega) (fun _ _ e => e) (fun h' u tk hk => ⟨.str _, H, I.kept hk, ⟨_, rfl⟩, q⟩) hz
  | tup f rs =>
    cases ru
    obtain ⟨as, rr⟩ := Dp.reads I _ _ _ (.tup f rs) rfl
    exact repr_of_reads' rr hs (PyData.noDict_hsm (PyData.hasDict_of_canLay _ hl)) hgd (by omega) (fun _ _ e => e) (fun h' u tk hk => ⟨.str _, H, I.kept hk, ⟨_, rfl⟩, q⟩) hz
theorem bt_repr {K : PySem.W.Frag} : BtG K (rRepr K) gRepr := by
  intro F st σ H ws vs P Q h l r k
  unfold gRepr at h
  split at h
  · cases r with
    | cons r1 r2 =>
      cases r2
      obtain ⟨⟨h1, h2, h3⟩, p⟩ := h
      obtain ⟨h4, h5⟩ := lay_of _ h1
      exact ⟨_, _, rfl, dp_of _ h1 r1, h4, h5, h2, h3, k _ _ H p l .refl (.str _)⟩
  · exact h.elim
theorem boot_repr' : bootBuiltins "repr" = some (.builtin "repr") := by decide +kernel
end
end Sh
namespace Sh
open PySem L2
open PyProof.Rows hiding St
abbrev S0 : Sto := fun _ => none
theorem live0 {a : Addr} : ¬ Live (fun _ => False) ⟨[], S0⟩ [] a := fun z => Or.elim z (fun z => Or.elim z (fun z => z rfl) ow_nil) _root_.id
theorem lk0 {K : PySem.W.Frag} {H : Hp} : Lk K (fun _ => False) ⟨[], S0⟩ [] H :=
  ⟨rfl, fun i w e => by simp at e, fun i o e => by simp at e, fun i j o o' a e => by simp at e, fun a o e => (nomatch (show (none : Option SO) = some o from e)), fun _ z => False.elim z, fun _ z => False.elim z⟩
theorem scr_of {K : PySem.W.Frag} {H : Hp} {a : Addr} {ns : List Int} (h : SqL K H a (ns.map V.int)) : RelW K (Live (fun _ => False) ⟨[], S0⟩ []) H (.scr ns) (.ref a) := by
  refine .scr ?_
  rcases h with (h | ⟨o, h⟩) | h
  · exact .inr (.inl ⟨h, live0⟩)
  · exact .inl ⟨⟨o, h⟩, live0⟩
  · exact .inr (.inr h)
/-- a law's spec at the script -/
theorem law_sp {K : PySem.W.Frag} {H : Hp} {a : Addr} {ns : List Int} {spec : ISp} (hS : SqL K H a (ns.map V.int)) (h : spec [.scr ns] S0 (fun r _ => r = .val (.bl true)) fun _ _ => False) : spI K 1 spec [.ref a] H (fun v _ => v = .bl true) fun _ _ _ => False := by
  refine ⟨fun _ => False, S0, [.scr ns], _, _, lk0, .cons (scr_of hS) .nil, rfl, h, fun r S' v H' q ok => ?_, fun _ _ _ _ _ z => False.elim z⟩
  have e : r = .val (.bl true) := q
  subst e
  obtain ⟨_, _, rv⟩ := ok
  cases rv
  rfl
theorem CX_none {P : Program} {w : World} {l : List Env} {H : Hp} {s : Shared} {e : Value} {s' : Shared} : ¬ L2.CX P w l H s (fun _ _ _ => False) e s' := fun ⟨_, _, _, _, _, _, _, _, _, _, _, _, z⟩ => z
section
variable {P : Program} {w : World} {K : PySem.W.Frag} {mg mb : Str → Option Value} {k : Nat} {fa a : Addr} {fd : FuncData} {x : Str} {sp : Sp} {sA : Shared} {us : List Value} {ns : List Int}
/-- the call of the law over an abstract heap that tracks the script at most -/
theorem law_at {H : Hp} (kin : K.In sA.heap) (gl : sA.heap.Ns mainGlobals mg) (bl : sA.heap.Ns builtinsNs mb) (bb : ∀ y : Str, y ≠ "__name__" → mb y = bootBuiltins y) (lim' : sA.heap.NoLimit) (gens : sA.gens = #[])
    (obj : sA.heap.get? a = some { cls := .type "list", data := .seq us.toArray }) (room : Room k callerA)
    (G : ∀ base : Heap, K.In base → base.Ns mainGlobals mg → FnG P w K mg base k fa fd [x] sp) (bd : ∀ (s : Shared) (u : Value), BindsTo s fd ⟨[u], []⟩ [(x, u)])
    (q : sp [.ref a] H (fun v _ => v = .bl true) fun _ _ _ => False) (only : Only H) (held : HOk P w H sA.heap) (mine : ∀ b, H b ≠ none → b = a) (out : H a ≠ none → K.lookup a = none) :
    codeAny (model P w) callerA (.call (.ref fa) ⟨[.ref a], []⟩) (fun r s' => r = .ok (.ret (.bool true)) ∧ OldK sA.heap s'.heap ∧ s'.os = sA.os ∧ AllBare s'.gens) sA := by
  -- what is a dict is not the script
  have nd : ∀ {b : Addr} {o : Obj} {ds : Array DictEntry} {m : Nat}, sA.heap.get? b = some o → o.data = .dict ds m → H b = none := fun {b o ds m} e d => by
    refine Classical.byContradiction fun z => ?_
    rw [mine b z, obj] at e
    cases e
    exact nomatch (show Data.seq us.toArray _ = Data.dict ds m from d)
  have ns' : ∀ {b : Addr} {f : Str → Option Value}, sA.heap.Ns b f → (hidT sA.heap H).Ns b f := fun {b f} ⟨o, ds, m, e, d, r⟩ => ⟨o, ds, m, hidT_get e (nd e d), d, r⟩
  have kb : K.In (hidT sA.heap H) := fun b o e => by
    refine hidT_get (kin b o e) (Classical.byContradiction fun z => ?_)
    have eb := mine b z
    rw [eb] at z e
    rw [out z] at e
    cases e
  obtain ⟨mc, c1, c2⟩ := lim'
  have md : Mod K mg (hidT sA.heap H) := ⟨kb, ns' gl, ⟨mb, ns' bl, bb⟩, ⟨mc, ns' c1, c2⟩⟩
  have en : Env0 P w K mg (hidT sA.heap H) callerA [] sA H := ⟨rfl, md, fun _ _ e => of_hidT e, Nat.le_of_eq (hidT_size _ _), trivial, fun b z => (nomatch (show b ∈ ([] : List Addr) from z)), held, .of_eq gens⟩
  refine codeAny_mono ((G _ kb (ns' gl)).go (us := [.ref a]) (vs := [.ref a]) room rfl en (bd sA _) (.cons rfl .nil) q) fun r s' h => ?_
  cases r with
  | error e => exact (CX_none h).elim
  | ok fl =>
    cases fl with
    | ret u =>
      obtain ⟨v, H', os, bare, un, held', rv, e⟩ := h
      have ev : v = .bl true := e
      subst ev
      have eu : u = Value.bool true := rv
      subst eu
      refine ⟨rfl, OldK.of_keep fun b o eb => ?_, os, bare⟩
      rcases only b with z | ⟨ob, xs, z⟩
      · exact un.keep b o eb z (fun y => (nomatch (show b ∈ ([] : List Addr) from y))) (fun y => nomatch y)
      · have e1 := (held b _ z).1
        rw [eb] at e1
        cases e1
        exact (held' b _ (un.frzs b o _ z)).1
    | next => exact h.elim
    | brk => exact h.elim
    | cont => exact h.elim
theorem law_go {spec : ISp} (kin : K.In sA.heap) (gl : sA.heap.Ns mainGlobals mg) (bl : sA.heap.Ns builtinsNs mb) (bb : ∀ y : Str, y ≠ "__name__" → mb y = bootBuiltins y) (lim' : sA.heap.NoLimit) (gens : sA.gens = #[])
    (obj : sA.heap.get? a = some { cls := .type "list", data := .seq us.toArray }) (ints' : IntsAre us ns) (len : ns.length ≤ sizeLine) (room : Room k callerA)
    (G : ∀ base : Heap, K.In base → base.Ns mainGlobals mg → FnG P w K mg base k fa fd [x] (spI K 1 spec)) (bd : ∀ (s : Shared) (u : Value), BindsTo s fd ⟨[u], []⟩ [(x, u)])
    (h : spec [.scr ns] S0 (fun r _ => r = .val (.bl true)) fun _ _ => False) :
    codeAny (model P w) callerA (.call (.ref fa) ⟨[.ref a], []⟩) (fun r s' => r = .ok (.ret (.bool true)) ∧ OldK sA.heap s'.heap ∧ s'.os = sA.os ∧ AllBare s'.gens) sA := by
  have rel := vals_ints ints'
  have len2 : us.length = ns.length := ints'.length
  cases e : K.lookup a with
  | some o =>
    have eo := (kin a o e).symm.trans obj
    cases eo
    have sq : SqL K (fun _ => none) a (ns.map V.int) := .inr ⟨_, us.toArray, _, e, rfl, rfl, rfl, by rw [List.size_toArray, len2]; exact len, by simpa using rel⟩
    exact law_at kin gl bl bb lim' gens obj room G bd (law_sp sq h) (fun _ => .inl rfl) (fun b u z => nomatch (show (none : Option HO) = some u from z)) (fun b z => (z rfl).elim) fun z => (z rfl).elim
  | none =>
    let H : Hp := upd (fun _ => none) a (.frz { cls := .type "list", data := .seq us.toArray } (.lst (ns.map V.int)))
    have at_a : H a = some (.frz { cls := .type "list", data := .seq us.toArray } (.lst (ns.map V.int))) := upd_same
    have off : ∀ b, b ≠ a → H b = none := fun b z => upd_ne z
    refine law_at (H := H) kin gl bl bb lim' gens obj room G bd (law_sp (.inl (.inr ⟨_, at_a⟩)) h) (fun b => ?_) (fun b u z => ?_) (fun b z => ?_) fun _ => e
    · by_cases q : b = a
      · rw [q]; exact .inr ⟨_, _, at_a⟩
      · exact .inl (off b q)
    · by_cases q : b = a
      · subst q
        rw [at_a] at z
        cases z
        exact ⟨obj, by rw [List.length_map]; exact len, us, _, rel, obj⟩
      · rw [off b q] at z
        cases z
    · exact Classical.byContradiction fun q => z (off b q)
end
/-- THE END of a law -/
theorem walkG {l : PySem.W.OpenLaw} {n k : Nat} {q : Program} {loose : List Str} {XP : (Str → Option Value) → Heap → Prop} {YP : World → Heap → Prop} {d : DefRec} {x : Str} (hn : l.most = some n) (hn2 : n ≤ sizeLine) (hdf : d.params.defaults = []) (room : Room k callerA)
    (T : ∀ (w : World) (mg : Str → Option Value) (fa : Addr) (h : Heap), YP w h → h.Ns mainGlobals mg → mg d.name = some (.ref fa) → ∃ (K : PySem.W.Frag) (fd : FuncData) (spec : ISp), K.In h ∧ (∀ (s : Shared) (u : Value), BindsTo s fd ⟨[u], []⟩ [(x, u)]) ∧
      (∀ ns : List Int, ns.length ≤ n → spec [.scr ns] S0 (fun r _ => r = .val (.bl true)) fun _ _ => False) ∧ ∀ base : Heap, K.In base → base.Ns mainGlobals mg → FnG l.prog w K mg base k fa fd [x] (spI K 1 spec)) :
    PySem.W.WalkO q loose XP YP l.row.toRowW d [] (fun f vs => PySem.call f vs) :=
  Att.attach_call hn hdf fun w s₀ s₁ mg mb fa o pm cd doc a vs ns G Y ho hd hcd hmg hobj hints hlen hg => by
    obtain ⟨K, fd, spec, kin, bd, sp, F⟩ := T w mg fa _ Y G.T.g hmg
    exact law_go kin G.T.g G.T.b G.T.builtins G.T.nolimit hg hobj hints (Nat.le_trans hlen hn2) room F bd (sp ns hlen)
end Sh
namespace Sh
open PySem L2
open PyProof.Rows hiding St
section
variable {K : PySem.W.Frag} {F : Addr → Prop} {st : Stt} {σ : L2.St} {H : Hp} {a : Addr} {o : SO}
theorem live_pub : ∀ b, Live F (st.puts a o) σ b → Live (FA F a) st σ b := fun b z => by
  rcases z with (z | z) | z
  · by_cases e : b = a
    · exact .inr (.inr e)
    · refine .inl (.inl ?_)
      have q : (st.puts a o).S b = st.S b := Sto.put_ne e
      rw [q] at z
      exact z
  · exact .inl (.inr z)
  · exact .inr (.inl z)
/-- a new object goes into the store -/
theorem Lk.publish (l : Lk K (FA F a) st σ H) (r : RelO K (Live (FA F a) st σ) H a o) (nF : ¬ F a) : Lk K F (st.puts a o) σ H := by
  have m : Mv (Live (FA F a) st σ) H (Live F (st.puts a o) σ) H := mv_same live_pub
  refine ⟨l.len, fun i w e => ?_, fun i o' e => ?_, l.inj, fun b o' e => ?_, fun b z => l.ftr b (.inl z), fun b z => ?_⟩
  · obtain ⟨v, e1, r1⟩ := l.val i w e
    exact ⟨v, e1, r1.mono m⟩
  · obtain ⟨b, e1, r1, n1, n2⟩ := l.own i o' e
    refine ⟨b, e1, r1.move (fun _ q => q) m, ?_, fun z => n2 (.inl z)⟩
    have ne : b ≠ a := fun z => n2 (.inr z)
    exact (Sto.put_ne ne).trans n1
  · by_cases q : b = a
    · subst q
      have e2 : some o = some o' := Eq.trans (Sto.put_same (S := st.S)).symm e
      cases e2
      exact r.move (fun _ q => q) m
    · have e2 : st.S b = some o' := (Sto.put_ne q).symm.trans e
      exact (l.sto b o' e2).move (fun _ q => q) m
  · have ne : b ≠ a := fun q => nF (q ▸ z)
    exact (Sto.put_ne ne).trans (l.fdis b (.inl z))
theorem Step.publish {st0 : Stt} {σ0 : L2.St} {H0 : Hp} (s : Step st0 σ0 H0 st σ H) (n : NewAt st0 σ0 H0 a) : Step st0 σ0 H0 (st.puts a o) σ H :=
  ⟨s.keep, fun b z => by
    rcases z with z | z
    · by_cases e : b = a
      · rw [e]; exact n
      · have q : (st.puts a o).S b = st.S b := Sto.put_ne e
        rw [q] at z
        exact s.new b (.inl z)
    · exact s.new b (.inr z)⟩
end
section
variable {X : Cx} {F : Addr → Prop} {Wx : WX} {a b c e : Expr} {es : List Expr} {pos : Pos} {ia ib ic : IE} {nn : IN}
/-- x = a new object that is handed about: it goes into the store -/
def sSetP (i : Nat) (nn : IN) : IS := fun EI D st => nn EI st fun o st1 => ∀ a, st1.S a = none → D.nx ((st1.puts a o).put i (.val (.ref a)))
theorem setP_of {K : PySem.W.Frag} {i : Nat} {D : Ends} {σ : L2.St} {H : Hp} (h : LS K F Wx (sSetP i nn) D σ H) : tAsg (LN K F Wx nn) (gName i) D σ H := by
  obtain ⟨st, DI, EI, l, q, u⟩ := h
  exact ⟨st, _, EI, l, q, u.x, fun o st1 a H1 q1 l1 s1 r1 n1 => u.nx _ _ H1 (q1 a (l1.fdis a (.inr rfl))) ((l1.publish r1 (NewAt.nf l n1)).put (.ref a)) ((Step.publish s1 n1).trans Step.put)⟩
theorem s_setP (i : Nat) {x : Str} {pos' : Pos} (hN : X.N.Nodup) (ha : PE X a (LN X.K F Wx nn)) (hi : X.N[i]? = some x := by rfl) (hx : Loc X.env.scope x := by first | exact Or.inl rfl | exact Or.inr rfl) (hs : swapsWith a (some (.Name x pos')) pos.line X.env = pure false := by rfl)
    (hf : X.fn x = true ∨ X.env.scope.names.lookup x = some .local := by first | exact .inl rfl | exact .inr rfl | assumption) : PS X (.Assign [.Name x pos'] a pos) (LS X.K F Wx (sSetP i nn)) := ps_imp (ps_set hN hi hx ha hs hf) fun _ _ _ h => setP_of h
end
theorem boot_bool' : bootBuiltins "bool" = some (.type "bool") := by decide +kernel
theorem boot_str' : bootBuiltins "str" = some (.type "str") := by decide +kernel
structure Df (K : PySem.W.Frag) (mg : Str → Option Value) (x : Str) (s : Stmt) : Prop where
  ex : ∃ f fd, FunD K x x (defArgs s) (defBody s) (defScope s) [] [] f fd ∧ mg x = some (.ref f)
structure Cal (P : Program) (w : World) (K : PySem.W.Frag) (mg : Str → Option Value) (base : Heap) (x : Str) (k n : Nat) (spec : ISp) : Prop where
  ex : ∃ f fd ps, FnG P w K mg base k f fd ps (spI K n spec) ∧ mg x = some (.ref f) ∧ PySem.W.keepIn K (.ref f) = true ∧ Binds K fd ps []
section
variable {P : Program} {w : World} {K : PySem.W.Frag} {mg : Str → Option Value} {base : Heap} {x : Str} {k n : Nat}
theorem Cal.spec {sp sp' : ISp} (C : Cal P w K mg base x k n sp) (h : ∀ ws S Q E, sp' ws S Q E → sp ws S Q E) : Cal P w K mg base x k n sp' := by
  obtain ⟨f, fd, ps, G, r⟩ := C.ex
  exact ⟨f, fd, ps, G.spec h, r⟩
theorem Cal.up {sp : ISp} {k' : Nat} (C : Cal P w K mg base x k n sp) (h : k ≤ k') : Cal P w K mg base x k' n sp := by
  obtain ⟨f, fd, ps, G, r⟩ := C.ex
  exact ⟨f, fd, ps, G.up h, r⟩
/-- a def of the module keeps what its body does -/
theorem calI {s : Stmt} {N ps : List Str} {ib : IS} (D : Df K mg x s) (Sc : FnScope N ps (defScope s))
    (bd : ∀ (kV doc pm : Value) (an : Option Addr) (cdv ct : Value) (us : List Value), us.length = ps.length → bindArgs (PySem.W.fnOf x x (defArgs s) (defBody s) (defScope s) .none kV doc pm an cdv ct) ⟨us, []⟩ = pure (ps.zip us))
    (hb : ∀ (f : Addr) (cdv : Value) (A : Around) (outer : List Env) (s' : Shared) (H : Hp) (E : XK), Room k (A.deeper (envOfC x (defScope s) s'.heap.objs.size f cdv)) → A.guards = some [] → ∀ (F : Addr → Prop) (Wx : WX), Takes (cxOf (L2.CX P w) P w K mg base N x (defScope s) f cdv A outer s' H E) Wx →
      PSs (cxOf (L2.CX P w) P w K mg base N x (defScope s) f cdv A outer s' H E) (defBody s) (LS K F Wx ib)) : Cal P w K mg base x (k + 1) ps.length (bodyI N.length ib) := by
  obtain ⟨f, fd, Fd, hm⟩ := D.ex
  exact ⟨f, fd, ps, fnI Fd Sc (hb f), hm, Fd.kp, Fd.bindsN bd⟩
end
section
variable {X : Cx} {F : Addr → Prop} {Wx : WX} {e : Expr} {es : List Expr} {pos p : Pos} {k' n : Nat} {spec : ISp} {x : Str} {i : IA}
theorem i_cal (C : Cal X.prog X.w X.K X.mg X.base x k' n spec) (hr : Room k' X.A) (hgd : X.A.guards = some []) (tk : Takes X Wx) (ha : PA X (e :: es) (LA X.K F Wx n i)) (hg : Gl X x := by rfl) (hdb : (x == ("__debug__" : Str)) = false := by decide)
    (he : starEach (e :: es) X.env = (false, eval e X.env) :: starEach es X.env := by rfl) (hpl : (backTo pos (starEach es X.env)).any (·.1) = false := by rfl) : PE X (.Call (.Name x p) (e :: es) [] pos) (LE X.K F Wx (iCall spec i)) := by
  obtain ⟨f, fd, ps, G, hm, hk, hb⟩ := C.ex
  exact i_call G hr hgd tk hm hk hb ha hg hdb he hpl
theorem n_cal (C : Cal X.prog X.w X.K X.mg X.base x k' n spec) (hr : Room k' X.A) (hgd : X.A.guards = some []) (tk : Takes X Wx) (ha : PA X (e :: es) (LA X.K F Wx n i)) (hg : Gl X x := by rfl) (hdb : (x == ("__debug__" : Str)) = false := by decide)
    (he : starEach (e :: es) X.env = (false, eval e X.env) :: starEach es X.env := by rfl) (hpl : (backTo pos (starEach es X.env)).any (·.1) = false := by rfl) : PE X (.Call (.Name x p) (e :: es) [] pos) (LN X.K F Wx (nCall spec i)) := by
  obtain ⟨f, fd, ps, G, hm, hk, hb⟩ := C.ex
  exact n_call G hr hgd tk hm hk hb ha hg hdb he hpl
theorem i_cal0 (C : Cal X.prog X.w X.K X.mg X.base x k' 0 spec) (hr : Room k' X.A) (hgd : X.A.guards = some []) (tk : Takes X Wx) (hg : Gl X x := by rfl) (hdb : (x == ("__debug__" : Str)) = false := by decide) : PE X (.Call (.Name x p) [] [] pos) (LE X.K F Wx (iCall spec iNil)) := by
  obtain ⟨f, fd, ps, G, hm, hk, hb⟩ := C.ex
  exact i_call0 G hr hgd tk hm hk hb hg hdb
end
end Sh
namespace Sh
open PySem L2
open PyProof.Rows hiding St
mutual
def kvB (K : PySem.W.Frag) : Nat → Value → W → Bool
  | _, .none, .non => true
  | _, .bool b, .bl c => b == c
  | _, .int i _, .int j => i == j
  | _, .str x _, .str y => x == y
  | n + 1, .ref a, .tup ws => (match K.lookup a with
    | some ⟨.type c, _, .seq its _, _⟩ => decide (c = "tuple") && (decide (its.size ≤ sizeLine) && kvsB K n its.toList ws)
    | _ => false)
  | _, _, _ => false
def kvsB (K : PySem.W.Frag) : Nat → List Value → List W → Bool
  | _, [], [] => true
  | n, v :: vs, w :: ws => kvB K n v w && kvsB K n vs ws
  | _, _, _ => false
end
def KvOk (K : PySem.W.Frag) (u : Value) (w : W) : Prop := ∃ v : V, RelV v u ∧ ∀ Lv H, RelW K Lv H w v
theorem kvsB_ok {K : PySem.W.Frag} {n : Nat} (ih : ∀ u w, kvB K n u w = true → KvOk K u w) : ∀ (us : List Value) (ws : List W), kvsB K n us ws = true → ∃ vs, Vals vs us ∧ ∀ Lv H, RelWs K Lv H ws vs
  | [], [], _ => ⟨[], .nil, fun _ _ => .nil⟩
  | [], _ :: _, h => by simp [kvsB] at h
  | _ :: _, [], h => by simp [kvsB] at h
  | u :: us, w :: ws, h => by
    have h2 : (kvB K n u w && kvsB K n us ws) = true := by unfold kvsB at h; exact h
    rw [Bool.and_eq_true] at h2
    obtain ⟨v, r, q⟩ := ih u w h2.1
    obtain ⟨vs, rs, qs⟩ := kvsB_ok ih us ws h2.2
    exact ⟨v :: vs, .cons r rs, fun Lv H => .cons (q Lv H) (qs Lv H)⟩
theorem kvB_ok {K : PySem.W.Frag} : ∀ {n : Nat} (u : Value) (w : W), kvB K n u w = true → KvOk K u w := by
  intro n
  induction n with
  | zero =>
    intro u w h
    cases u <;> cases w <;> first
      | exact ⟨.non, rfl, fun _ _ => .non⟩
      | (unfold kvB at h; rw [beq_iff_eq] at h; subst h; first | exact ⟨.bl _, rfl, fun _ _ => .bl _⟩ | exact ⟨.int _, ⟨_, rfl⟩, fun _ _ => .int _⟩ | exact ⟨.str _, ⟨_, rfl⟩, fun _ _ => .str _⟩)
      | (simp [kvB] at h; done)
  | succ n ih =>
    intro u w h
    cases u <;> cases w <;> first
      | exact ⟨.non, rfl, fun _ _ => .non⟩
      | (unfold kvB at h; rw [beq_iff_eq] at h; subst h; first | exact ⟨.bl _, rfl, fun _ _ => .bl _⟩ | exact ⟨.int _, ⟨_, rfl⟩, fun _ _ => .int _⟩ | exact ⟨.str _, ⟨_, rfl⟩, fun _ _ => .str _⟩)
      | (simp [kvB] at h; done)
      | skip
    rename_i a ws
    unfold kvB at h
    split at h
    · rename_i c _ its _ _ q
      rw [Bool.and_eq_true, Bool.and_eq_true] at h
      obtain ⟨h1, h2, h3⟩ := h
      obtain ⟨vs, rs, qs⟩ := kvsB_ok ih _ _ h3
      exact ⟨.ref a, rfl, fun Lv H => .tup (.inr ⟨_, its, _, q, congrArg Value.type (of_decide_eq_true h1), rfl, of_decide_eq_true h2, rs⟩) (qs Lv H)⟩
    · cases h
/-- a name of the module stands for w -/
def Kc (K : PySem.W.Frag) (mg : Str → Option Value) (x : Str) (w : W) : Prop := ∃ u, mg x = some u ∧ KvOk K u w
def kcB (K : PySem.W.Frag) (x : Str) (w : W) : Bool := match PySem.W.nsIn K mainGlobals x with
  | some (some u) => kvB K 9 u w
  | _ => false
theorem kcB_ok {K : PySem.W.Frag} {h : Heap} {mg : Str → Option Value} (X : K.In h) (G : h.Ns mainGlobals mg) {x : Str} {w : W} (c : kcB K x w = true) : Kc K mg x w := by
  unfold kcB at c
  split at c
  · rename_i u e
    exact ⟨u, PySem.W.mg_of X G e, kvB_ok u w c⟩
  · cases c
section
variable {X : Cx} {F : Addr → Prop} {Wx : WX} {a b c e : Expr} {pos : Pos} {ia ib : IE} {x : Str} {w : W}
theorem i_k (k : Kc X.K X.mg x w) (hg : Gl X x := by rfl) (hd : (x == ("__debug__" : Str)) = false := by decide) : PE X (.Name x pos) (LE X.K F Wx (iC w)) := by
  obtain ⟨u, hm, v, r, q⟩ := k
  exact i_c (pe_glob hg hm r hd) q
end
def rowsB (K : PySem.W.Frag) : List DictEntry → List (Str × W) → Bool
  | [], [] => true
  | e :: es, (k, w) :: r => e.key.isStr k && (kvB K 9 e.val w && rowsB K es r)
  | _, _ => false
def kdB (K : PySem.W.Frag) (x : Str) (tbl : List (Str × W)) : Bool := match PySem.W.nsIn K mainGlobals x with
  | some (some (.ref d)) => decide (d = He.ga K x) && (match K.lookup d with
    | some ⟨_, _, .dict es _, _⟩ => rowsB K es.toList tbl
    | _ => false)
  | _ => false
theorem isStr_inv {v : Value} {x : Str} (h : v.isStr x = true) : ∃ t, v = .str x t := by
  unfold Value.isStr at h
  split at h
  · rw [beq_iff_eq] at h; subst h; exact ⟨_, rfl⟩
  · cases h
theorem rows_find {K : PySem.W.Frag} (z : Str) : ∀ (es : List DictEntry) (tbl : List (Str × W)), rowsB K es tbl = true → es.any (·.refKey) = false ∧
    ((tbl.lookup z = none ∧ es.find? (·.key.isStr z) = none) ∨ ∃ w e, tbl.lookup z = some w ∧ es.find? (·.key.isStr z) = some e ∧ KvOk K e.val w)
  | [], [], _ => ⟨rfl, .inl ⟨rfl, rfl⟩⟩
  | [], _ :: _, h => by simp [rowsB] at h
  | _ :: _, [], h => by simp [rowsB] at h
  | e :: es, (k, w) :: r, h => by
    have h2 : (e.key.isStr k && (kvB K 9 e.val w && rowsB K es r)) = true := h
    rw [Bool.and_eq_true, Bool.and_eq_true] at h2
    obtain ⟨h1, hv, hr⟩ := h2
    obtain ⟨t, ek⟩ := isStr_inv h1
    obtain ⟨i1, i2⟩ := rows_find z es r hr
    have nr : e.refKey = false := by unfold DictEntry.refKey; rw [ek]
    have es' : e.key.isStr z = (k == z) := by rw [ek]; rfl
    refine ⟨by rw [List.any_cons, nr, i1]; rfl, ?_⟩
    by_cases q : k = z
    · subst q
      refine .inr ⟨w, e, ?_, ?_, kvB_ok _ _ hv⟩
      · rw [List.lookup_cons]; simp
      · rw [List.find?_cons_of_pos (by rw [es']; simp)]
    · have l : List.lookup z ((k, w) :: r) = List.lookup z r := by
        rw [List.lookup_cons]
        have : (z == k) = false := by rw [beq_eq_false_iff_ne]; exact fun y => q y.symm
        rw [this]
      have f : (e :: es).find? (·.key.isStr z) = es.find? (·.key.isStr z) := List.find?_cons_of_neg (by rw [es']; simpa using q)
      rw [l, f]
      exact i2
structure Kd (K : PySem.W.Frag) (w : World) (mg : Str → Option Value) (x : Str) (tbl : List (Str × W)) : Prop where
  ex : ∃ d es n, mg x = some (.ref d) ∧ KDict K w d es n ∧ ∀ z, (tbl.lookup z = none ∧ PySem.W.nsIn K d z = some none) ∨ ∃ wv u, tbl.lookup z = some wv ∧ PySem.W.nsIn K d z = some (some u) ∧ KvOk K u wv
theorem kdB_ok {K : PySem.W.Frag} {h : Heap} {wd : World} {mg : Str → Option Value} (X : K.In h) (G : h.Ns mainGlobals mg) {x : Str} {tbl : List (Str × W)} (c : kdB K x tbl = true) (t : ∃ es n, KDict K wd (He.ga K x) es n) : Kd K wd mg x tbl := by
  unfold kdB at c
  split at c
  · rename_i d e
    rw [Bool.and_eq_true] at c
    obtain ⟨c1, c2⟩ := c
    have ed := of_decide_eq_true c1
    obtain ⟨es, n, D⟩ := t
    rw [← ed] at D
    refine ⟨d, es, n, PySem.W.mg_of X G e, D, fun z => ?_⟩
    rw [D.at_] at c2
    obtain ⟨i1, i2⟩ := rows_find z es.toList tbl c2
    have en : PySem.W.nsIn K d z = match es.toList.find? (·.key.isStr z) with
      | some e => some (some e.val)
      | none => if es.toList.any (·.refKey) then none else some none := by
      unfold PySem.W.nsIn
      rw [D.at_]
      rfl
    rcases i2 with ⟨l, f⟩ | ⟨w, e', l, f, k⟩
    · rw [f, i1] at en
      exact .inl ⟨l, en⟩
    · rw [f] at en
      exact .inr ⟨w, e'.val, l, en, k⟩
  · cases c
section
variable {X : Cx} {F : Addr → Prop} {Wx : WX} {a b c e : Expr} {pos p : Pos} {ia ib : IE} {x : Str} {tbl : List (Str × W)}
/-- word in TABLE -/
def tKdIn (neg : Bool) (tbl : List (Str × W)) (ia : IE) : IT := fun EI st Q => ia EI st fun v st1 => match v with
  | .str z => Q (if neg then !(tbl.lookup z).isSome else (tbl.lookup z).isSome) st1
  | _ => False
theorem kd_in {K : PySem.W.Frag} {neg : Bool} {d : Addr} {r : R2} (hr : ∀ z b H Q, ((∃ y, PySem.W.nsIn K d z = some y ∧ b = if neg then !y.isSome else y.isSome)) → Q (.bl b) H → r (.str z) (.ref d) H Q)
    (h : ∀ z, (tbl.lookup z = none ∧ PySem.W.nsIn K d z = some none) ∨ ∃ wv u, tbl.lookup z = some wv ∧ PySem.W.nsIn K d z = some (some u) ∧ KvOk K u wv) {σ : L2.St} {H : Hp} {Q : Bool → Hp → Prop} (q : LT K F Wx (tKdIn neg tbl ia) σ H Q) :
    tOp r (LE K F Wx ia) (tC (.ref d)) σ H fun x H' => ∃ k, x = .bl k ∧ Q k H' := by
  obtain ⟨st, QI, EI, l, q, ux, k⟩ := q
  refine ⟨st, _, EI, l, q, ux, fun w st1 v H1 q1 l1 s1 r1 => ?_⟩
  split at q1
  · rename_i z
    cases r1
    refine hr z _ H1 _ ?_ ⟨_, rfl, k _ st1 H1 q1 l1 s1⟩
    rcases h z with ⟨e1, e2⟩ | ⟨w, u, e1, e2, _⟩
    · exact ⟨none, e2, by rw [e1]; rfl⟩
    · exact ⟨some u, e2, by rw [e1]; rfl⟩
  · exact q1.elim
theorem kd_inE {K : PySem.W.Frag} {neg : Bool} {d : Addr} {r : R2} (hr : ∀ z b H Q, ((∃ y, PySem.W.nsIn K d z = some y ∧ b = if neg then !y.isSome else y.isSome)) → Q (.bl b) H → r (.str z) (.ref d) H Q)
    (h : ∀ z, (tbl.lookup z = none ∧ PySem.W.nsIn K d z = some none) ∨ ∃ wv u, tbl.lookup z = some wv ∧ PySem.W.nsIn K d z = some (some u) ∧ KvOk K u wv) {σ : L2.St} {H : Hp} {Q : VK} (q : LT K F Wx (tKdIn neg tbl ia) σ H fun b H' => Q (.bl b) H') :
    tOp r (LE K F Wx ia) (tC (.ref d)) σ H Q := by
  obtain ⟨st, QI, EI, l, q, ux, k⟩ := q
  refine ⟨st, _, EI, l, q, ux, fun w st1 v H1 q1 l1 s1 r1 => ?_⟩
  split at q1
  · rename_i z
    cases r1
    refine hr z _ H1 _ ?_ (k _ st1 H1 q1 l1 s1)
    rcases h z with ⟨e1, e2⟩ | ⟨w, u, e1, e2, _⟩
    · exact ⟨none, e2, by rw [e1]; rfl⟩
    · exact ⟨some u, e2, by rw [e1]; rfl⟩
  · exact q1.elim
theorem t_kdnotin (k : Kd X.K X.w X.mg x tbl) (ha : PE X a (LE X.K F Wx ia)) (hg : Gl X x := by rfl) (hd : (x == ("__debug__" : Str)) = false := by decide) (hm : behindInMarks .NotIn (.Name x p) = false := by rfl) : PT X (.Compare a [.NotIn] [.Name x p] pos) (LT X.K F Wx (tKdIn true tbl ia)) := by
  obtain ⟨d, es, n, mgx, D, h⟩ := k.ex
  refine pt_imp (pt_cmpR (op_notIn_kd D) ha (pe_glob (v := .ref d) hg mgx rfl hd) hm) fun σ H Q q => kd_in (fun z b H Q ⟨y, e, eb⟩ q => ⟨z, y, rfl, rfl, e, by rw [eb] at q; exact q⟩) h q
def iOfT (t : IT) : IE := fun EI st Q => t EI st fun b st1 => Q (.bl b) st1
theorem of_t {K : PySem.W.Frag} {t : IT} {σ : L2.St} {H : Hp} {Q : VK} (h : LE K F Wx (iOfT t) σ H Q) : LT K F Wx t σ H fun b H' => Q (.bl b) H' := by
  obtain ⟨st, QI, EI, l, q, ux, k⟩ := h
  exact ⟨st, _, EI, l, q, ux, fun b st1 H1 q1 l1 s1 => k _ st1 _ H1 q1 l1 s1 (.bl b)⟩
theorem i_kdnotin (k : Kd X.K X.w X.mg x tbl) (ha : PE X a (LE X.K F Wx ia)) (hg : Gl X x := by rfl) (hd : (x == ("__debug__" : Str)) = false := by decide) (hm : behindInMarks .NotIn (.Name x p) = false := by rfl) : PE X (.Compare a [.NotIn] [.Name x p] pos) (LE X.K F Wx (iOfT (tKdIn true tbl ia))) := by
  obtain ⟨d, es, n, mgx, D, h⟩ := k.ex
  refine pe_imp (pe_cmpR (op_notIn_kd D) ha (pe_glob (v := .ref d) hg mgx rfl hd) hm) fun σ H Q q => kd_inE (fun z b H Q ⟨y, e, eb⟩ q => ⟨z, y, rfl, rfl, e, by rw [eb] at q; exact q⟩) h (of_t q)
/-- TABLE[word] -/
def iKdIx (tbl : List (Str × W)) (ib : IE) : IE := fun EI st Q => ib EI st fun v st1 => match v with
  | .str z => (match tbl.lookup z with
    | some w => Q w st1
    | none => False)
  | _ => False
theorem i_kdix (k : Kd X.K X.w X.mg x tbl) (hb : PE X b (LE X.K F Wx ib)) (hs : PlainIx b := by intro _ _; rfl) (hg : Gl X x := by rfl) (hd : (x == ("__debug__" : Str)) = false := by decide) : PE X (.Subscript (.Name x p) b pos) (LE X.K F Wx (iKdIx tbl ib)) := by
  obtain ⟨d, es, n, mgx, D, h⟩ := k.ex
  refine pe_imp (pe_ix ix_kdict (pe_glob (v := .ref d) hg mgx rfl hd) hb hs) fun σ H Q q => ?_
  obtain ⟨st, QI, EI, l, q, ux, k⟩ := q
  refine ⟨st, _, EI, l, q, ux, fun w st1 v H1 q1 l1 s1 r1 => ?_⟩
  split at q1
  · rename_i z
    cases r1
    split at q1
    · rename_i wv e
      rcases h z with ⟨e1, _⟩ | ⟨w, u, e1, e2, v0, r0, rw0⟩
      · rw [e1] at e; cases e
      · rw [e1] at e
        cases e
        exact ⟨d, z, v0, rfl, rfl, ⟨es, n, u, D.at_, D.lit, e2, r0⟩, k _ st1 v0 H1 q1 l1 s1 (rw0 _ _)⟩
    · exact q1.elim
  · exact q1.elim
end
abbrev pairW (p : Int × Int) : W := .tup [.int p.1, .int p.2]
def lexLe (p q : Int × Int) : Prop := p.1 < q.1 ∨ (p.1 = q.1 ∧ p.2 ≤ q.2)
/-- of pairs of numbers, as they lie in K or the heap -/
def rSortZ (K : PySem.W.Frag) : List V → Hp → VK → Prop := fun vs H Q => ∃ (a : Addr) (zs : List ((Int × Int) × V)), vs = [V.ref a] ∧ SqL K H a (zs.map (·.2)) ∧ (∀ z ∈ zs, ∃ t, z.2 = V.ref t ∧ SqT K H t [.int z.1.1, .int z.1.2]) ∧
  ∀ (ys : List ((Int × Int) × V)) (p : Addr), ys.Perm zs → (ys.map (·.1)).Pairwise lexLe → H p = none → Q (.ref p) (upd H p (.lst (ys.map (·.2))))
open Classical in
theorem cr_sortZ {X : Cx} : CallR X (.builtin "sorted") (rSortZ X.K) := by
  intro pins s σ H vs us Q I r h
  obtain ⟨adr, zs, rfl, hs, hz, q⟩ := h
  obtain ⟨its, rv, il, sz⟩ := I.list hs
  obtain ⟨u, rfl, ru⟩ := vals1 r
  obtain rfl : u = Value.ref adr := ru
  let key : V → Int × Int := fun v => if hk : ∃ z ∈ zs, z.2 = v then (Classical.choose hk).1 else (0, 0)
  have keyOf : ∀ z ∈ zs, key z.2 = z.1 := fun z mz => by
    have hk : ∃ y ∈ zs, y.2 = z.2 := ⟨z, mz, rfl⟩
    have e : key z.2 = (Classical.choose hk).1 := dif_pos hk
    obtain ⟨my, ey⟩ := Classical.choose_spec hk
    obtain ⟨t, et, ht⟩ := hz _ my
    obtain ⟨t', et', ht'⟩ := hz z mz
    rw [ey, et'] at et
    cases et
    have := I.tuple_inj ht ht'
    rw [e]
    injection this with a1 a2
    injection a2 with a2 _
    exact Prod.ext (V.int.inj a1) (V.int.inj a2)
  have zk : zs = (zs.map (·.2)).map fun v => (key v, v) := by
    rw [List.map_map]
    conv => lhs; rw [← List.map_id zs]
    exact List.map_congr_left fun z mz => Prod.ext (keyOf z mz).symm rfl
  obtain ⟨b1, b2⟩ := refs_back rv fun x mx => by
    obtain ⟨z, mz, ez⟩ := List.mem_map.mp mx
    obtain ⟨t, et, _⟩ := hz z mz
    exact ⟨t, by rw [← ez, et]⟩
  refine SrtO.sorted_pairsO (k := fun u => key (backV u)) il.isList (by rw [← rv.length]; exact sz) (fun v mv => ?_) fun h' d out o1 o2 kp dd dn => ?_
  · obtain ⟨t, rfl⟩ := b2 v mv
    have mx : V.ref t ∈ zs.map (·.2) := by rw [b1]; exact List.mem_map.mpr ⟨_, mv, rfl⟩
    obtain ⟨z, mz, ez⟩ := List.mem_map.mp mx
    obtain ⟨t', et, ht⟩ := hz z mz
    rw [ez] at et
    cases et
    obtain ⟨its2, r2, ⟨o, ho, hc, n, hd⟩, _⟩ := I.tuple ht
    obtain ⟨u1, u2, e2, ri, rj⟩ := vals2 r2
    obtain ⟨t1, rfl⟩ := ri
    obtain ⟨t2, rfl⟩ := rj
    have ek : key (backV (Value.ref t)) = z.1 := by rw [← keyOf z mz, ez]; rfl
    simp only [ek]
    subst e2
    exact ⟨t, o, t1, t2, n, rfl, ho, hc, hd⟩
  · have o3 : ∀ u ∈ out, ∃ a, u = Value.ref a := fun u hu => b2 u (o2.perm.mem_iff.mp hu)
    obtain ⟨n, dn⟩ := dn
    have pm : ((out.map backV).map fun v => (key v, v)).Perm zs := by
      conv => rhs; rw [zk, b1]
      exact (o2.perm.map backV).map _
    have e2 : ((out.map backV).map fun v => (key v, v)).map (·.2) = out.map backV := by
      rw [List.map_map]
      exact List.map_id _
    have fin := q ((out.map backV).map fun v => (key v, v)) d pm ?_ (I.hok.fresh dd)
    · rw [e2] at fin
      refine ⟨.ref d, upd H d (.lst (out.map backV)), I.laid (t' := s.toks) kp dd ⟨?_, out, n, vals_back o3, dn⟩, rfl, fin⟩
      have := pm.length_eq
      rw [List.length_map] at this
      rw [this, ← List.length_map (f := (·.2))]
      exact sz
    · rw [List.map_map, List.map_map]
      refine List.pairwise_map.mpr (List.Pairwise.imp (fun {x y} hxy => ?_) o1)
      have l := SrtO.lexB_no.mp hxy
      show lexLe (key (backV x)) (key (backV y))
      unfold lexLe
      omega
def gSorted : List W → (W → Prop) → Prop := fun ws P =>
  (∃ ns : List Int, ws = [.lst (ns.map .int)] ∧ ∀ ns' : List Int, ns'.Perm ns → ns'.Pairwise (· ≤ ·) → P (.lst (ns'.map .int))) ∨
  ∃ ps : List (Int × Int), ws = [.lst (ps.map pairW)] ∧ ∀ ps' : List (Int × Int), ps'.Perm ps → ps'.Pairwise lexLe → P (.lst (ps'.map pairW))
theorem ints_of {K : PySem.W.Frag} {Lv : Addr → Prop} {H : Hp} : ∀ {ns : List Int} {vs : List V}, RelWs K Lv H (ns.map W.int) vs → vs = ns.map V.int
  | [], _, .nil => rfl
  | n :: ns, _, .cons r rs => by
    cases r
    rw [ints_of rs]; rfl
theorem pairs_of {K : PySem.W.Frag} {Lv : Addr → Prop} {H : Hp} : ∀ {ps : List (Int × Int)} {vs : List V}, RelWs K Lv H (ps.map pairW) vs → ∃ zs : List ((Int × Int) × V), zs.map (·.1) = ps ∧ zs.map (·.2) = vs ∧ ∀ z ∈ zs, RelW K Lv H (pairW z.1) z.2
  | [], _, .nil => ⟨[], rfl, rfl, fun z hz => by cases hz⟩
  | p :: ps, _, .cons (v := v) r rs => by
    obtain ⟨zs, e1, e2, h⟩ := pairs_of rs
    refine ⟨(p, v) :: zs, by rw [List.map_cons, e1], by rw [List.map_cons, e2], fun z hz => ?_⟩
    rcases List.mem_cons.mp hz with rfl | hz
    · exact r
    · exact h z hz
theorem rel_zs {K : PySem.W.Frag} {Lv : Addr → Prop} {H : Hp} : ∀ {zs : List ((Int × Int) × V)}, (∀ z ∈ zs, RelW K Lv H (pairW z.1) z.2) → RelWs K Lv H ((zs.map (·.1)).map pairW) (zs.map (·.2))
  | [], _ => .nil
  | z :: zs, h => .cons (h z (List.mem_cons_self ..)) (rel_zs fun y hy => h y (List.mem_cons_of_mem _ hy))
theorem bt_sorted {K : PySem.W.Frag} : BtG K (fun vs H Q => rSortedI K vs H Q ∨ rSortZ K vs H Q) gSorted := by
  intro F st σ H ws vs P Q h l r k
  rcases h with ⟨ns, rfl, h⟩ | ⟨ps, rfl, h⟩
  · cases r with
    | cons r1 r2 =>
      cases r2
      cases r1 with
      | lst f rs =>
        rw [ints_of rs] at f
        refine .inl ⟨_, ns, rfl, f.sq, fun ns' p pm pw hp => ?_⟩
        exact k _ _ _ (h ns' pm pw) (l.laid hp) (Step.laid l hp) (.lst (FzL.new l hp) (RelWs.ints _))
  · cases r with
    | cons r1 r2 =>
      cases r2
      cases r1 with
      | lst f rs =>
        obtain ⟨zs, e1, e2, hz⟩ := pairs_of rs
        rw [← e2] at f
        refine .inr ⟨_, zs, rfl, f.sq, fun z mz => ?_, fun ys p pm pw hp => ?_⟩
        · have r0 := hz z mz
          generalize ev : z.2 = v at r0
          cases r0 with
          | tup ft rt =>
            cases rt with
            | cons a1 rt =>
              cases rt with
              | cons a2 rt =>
                cases rt
                cases a1; cases a2
                exact ⟨_, rfl, ft.sq⟩
        · have pm2 : (ys.map (·.1)).Perm ps := by rw [← e1]; exact pm.map _
          exact k _ _ _ (h _ pm2 pw) (l.laid hp) (Step.laid l hp) (.lst (FzL.new l hp) ((rel_zs fun y hy => hz y (pm.mem_iff.mp hy)).mono (Step.laid l hp).mv))
section
variable {X : Cx} {F : Addr → Prop} {Wx : WX} {e : Expr} {es : List Expr} {pos p : Pos} {i : IA} {n : Nat}
theorem boot_sorted' : bootBuiltins "sorted" = some (.builtin "sorted") := by decide +kernel
theorem i_sorted (hm : X.mg "sorted" = none) (ha : PA X (e :: es) (LA X.K F Wx n i)) (hg : Gl X "sorted" := by rfl) (he : starEach (e :: es) X.env = (false, eval e X.env) :: starEach es X.env := by rfl) (hpl : (backTo pos (starEach es X.env)).any (·.1) = false := by rfl) :
    PE X (.Call (.Name "sorted" p) (e :: es) [] pos) (LE X.K F Wx (iFn gSorted i)) := i_fn (cr_sortedI.or cr_sortZ) bt_sorted hm boot_sorted' ha hg (by decide) (by decide) he hpl
end
end Sh
namespace Sh
open PySem L2
open PyProof.Rows hiding St
open He (ga ma)
section
variable {K : PySem.W.Frag} {Lv : Addr → Prop} {H : Hp}
theorem RelFs.get {f : Str} : ∀ {ws : List (Str × W)} {vs : List (Str × V)} {w : W}, RelFs K Lv H ws vs → ws.lookup f = some w → ∃ v, vs.lookup f = some v ∧ RelW K Lv H w v
  | _, _, _, .nil, e => by cases e
  | _, _, w, .cons (k := k) h r, e => by
    rw [List.lookup_cons] at e
    rw [List.lookup_cons]
    cases q : f == k with
    | true =>
      rw [q] at e
      cases e
      exact ⟨_, rfl, h⟩
    | false =>
      rw [q] at e
      exact RelFs.get r e
theorem RelFs.no {f : Str} : ∀ {ws : List (Str × W)} {vs : List (Str × V)}, RelFs K Lv H ws vs → ws.lookup f = none → vs.lookup f = none
  | _, _, .nil, _ => rfl
  | _, _, .cons (k := k) h r, e => by
    rw [List.lookup_cons] at e
    rw [List.lookup_cons]
    cases q : f == k with
    | true => rw [q] at e; cases e
    | false => rw [q] at e; exact RelFs.no r e
def putW (f : Str) (v : W) : List (Str × W) → List (Str × W)
  | [] => [(f, v)]
  | (g, x) :: r => if g = f then (g, v) :: r else (g, x) :: putW f v r
theorem RelFs.put {f : Str} {w : W} {v : V} (h : RelW K Lv H w v) : ∀ {ws : List (Str × W)} {vs : List (Str × V)}, RelFs K Lv H ws vs → RelFs K Lv H (putW f w ws) (putF f v vs)
  | _, _, .nil => .cons h .nil
  | _, _, .cons (k := k) a r => by
    unfold putW putF
    by_cases q : k = f
    · rw [if_pos q, if_pos q]; exact .cons h r
    · rw [if_neg q, if_neg q]; exact .cons a (RelFs.put h r)
theorem RelFs.length : ∀ {ws : List (Str × W)} {vs : List (Str × V)}, RelFs K Lv H ws vs → ws.length = vs.length
  | _, _, .nil => rfl
  | _, _, .cons _ r => congrArg Nat.succ (RelFs.length r)
end
/-- an object: frozen, or of the store -/
def objOf (st : Stt) (x : W) (P : Str → List (Str × W) → Prop) : Prop := match x with
  | .obj C fs => P C fs
  | .ref a => (match st.S a with
    | some (.ins C fs) => P C fs
    | _ => False)
  | _ => False
theorem objOf_inv {K : PySem.W.Frag} {F : Addr → Prop} {st : Stt} {σ : L2.St} {H : Hp} {x : W} {v : V} {P : Str → List (Str × W) → Prop} (h : objOf st x P) (l : Lk K F st σ H) (r : RelW K (Live F st σ) H x v) :
    ∃ a C fs dx vs, v = .ref a ∧ P C fs ∧ H a = some (.ins (ga K C) dx vs) ∧ RelFs K (Live F st σ) H fs vs := by
  unfold objOf at h
  split at h
  · cases r with
    | obj e n rf => exact ⟨_, _, _, _, _, rfl, h, e, rf⟩
  · split at h
    · rename_i C fs es
      cases r
      obtain ⟨dx, vs, e, rf⟩ := l.sto _ _ es
      exact ⟨_, _, _, _, _, rfl, h, e, rf⟩
    · exact h.elim
  · exact h.elim
structure Atr (K : PySem.W.Frag) (cs : List Str) (f : Str) : Prop where
  at_ : ∀ C ∈ cs, Cls K (ga K C) ∧ NoAttr K (ga K C) f
section
variable {X : Cx} {F : Addr → Prop} {Wx : WX} {a b c e o : Expr} {es : List Expr} {pos pos' : Pos} {ia ib ic : IE} {cs : List Str} {f : Str}
/-- x.f -/
def iFld (cs : List Str) (f : Str) (ia : IE) : IE := fun EI st Q => ia EI st fun x st1 => objOf st1 x fun C fs => C ∈ cs ∧ (match fs.lookup f with
  | some w => Q w st1
  | none => False)
theorem i_fld (T : Atr X.K cs f) (ha : PE X a (LE X.K F Wx ia)) (hb : attributeBase a f X.env (eval a X.env) = eval a X.env := by rfl) : PE X (.Attribute a f pos) (LE X.K F Wx (iFld cs f ia)) := by
  refine pe_imp (pe_fld ha hb) fun σ H Q h => ?_
  obtain ⟨st, QI, EI, l, q, ux, k⟩ := h
  refine ⟨st, _, EI, l, q, ux, fun x st1 v H1 q1 l1 s1 r1 => ?_⟩
  obtain ⟨p, C, fs, dx, vs, rfl, ⟨hC, q2⟩, e, rf⟩ := objOf_inv q1 l1 r1
  split at q2
  · rename_i w ew
    obtain ⟨u, eu, ru⟩ := rf.get ew
    exact ⟨p, _, dx, vs, u, rfl, e, (T.at_ C hC).1, (T.at_ C hC).2, eu, k w st1 u H1 q2 l1 s1 ru⟩
  · exact q2.elim
/-- o.f = e, an object of the store -/
def sAtt (cs : List Str) (f : Str) (io iv : IE) : IS := fun EI D st => iv EI st fun w st1 => io EI st1 fun x st2 => match x with
  | .ref a => (match st2.S a with
    | some (.ins C fs) => C ∈ cs ∧ fs.length < 1000 ∧ D.nx (st2.puts a (.ins C (putW f w fs)))
    | _ => False)
  | _ => False
theorem s_att (T : Atr X.K cs f) (ho : PE X o (LE X.K F Wx ia)) (hv : PE X e (LE X.K F Wx ib)) (hs : swapsWith e (some (.Attribute o f pos')) pos.line X.env = pure false := by rfl) : PS X (.Assign [.Attribute o f pos'] e pos) (LS X.K F Wx (sAtt cs f ia ib)) := ps_imp (ps_fld ho hv hs) fun D σ H h => by
  obtain ⟨st, DI, EI, l, q, u⟩ := h
  refine ⟨st, _, EI, l, q, u.x, fun w st1 v H1 q1 l1 s1 r1 => ⟨st1, _, EI, l1, q1, u.x.step s1, fun x st2 v2 H2 q2 l2 s2 r2 => ?_⟩⟩
  split at q2
  · split at q2
    · rename_i p _ C fs es
      obtain ⟨hC, hl, q2⟩ := q2
      cases r2
      obtain ⟨dx, vs, e2, rf⟩ := l2.sto _ _ es
      refine ⟨p, _, dx, vs, rfl, e2, (T.at_ C hC).1, (T.at_ C hC).2, by rw [← rf.length]; exact hl, ?_⟩
      have la : Live F st2 σ p := .inl (.inl (by rw [es]; exact fun z => nomatch z))
      have m : Mv (Live F st2 σ) H2 (Live F st2 σ) (upd H2 p (.ins (ga X.K C) dx (putF f v vs))) := Mv.write la fun _ z => z
      obtain ⟨l3, s3⟩ := l2.writeS (o' := .ins C (putW f w fs)) (u := .ins (ga X.K C) dx (putF f v vs)) es ⟨dx, _, upd_same, (RelFs.put ((r1.mono s2.mv)) rf |>.mono m)⟩
      exact u.nx _ _ _ q2 l3 ((s1.trans s2).trans s3)
    · exact q2.elim
  · exact q2.elim
end
structure CalM (P : Program) (w : World) (K : PySem.W.Frag) (mg : Str → Option Value) (base : Heap) (C m : Str) (k n : Nat) (spec : ISp) : Prop where
  ex : ∃ fd ps, Cls K (ga K C) ∧ Meth K (ga K C) m (ma K (ga K C) m) ∧ FnG P w K mg base k (ma K (ga K C) m) fd ps (spI K (n + 1) spec) ∧ Binds K fd ps []
theorem CalM.spec {P : Program} {w : World} {K : PySem.W.Frag} {mg : Str → Option Value} {base : Heap} {C m : Str} {k n : Nat} {sp sp' : ISp} (M : CalM P w K mg base C m k n sp) (h : ∀ ws S Q E, sp' ws S Q E → sp ws S Q E) : CalM P w K mg base C m k n sp' := by
  obtain ⟨fd, ps, c, hm, G, b⟩ := M.ex
  exact ⟨fd, ps, c, hm, G.spec h, b⟩
theorem CalM.up {P : Program} {w : World} {K : PySem.W.Frag} {mg : Str → Option Value} {base : Heap} {C m : Str} {k k' n : Nat} {sp : ISp} (M : CalM P w K mg base C m k n sp) (h : k ≤ k') : CalM P w K mg base C m k' n sp := by
  obtain ⟨fd, ps, c, hm, G, b⟩ := M.ex
  exact ⟨fd, ps, c, hm, G.up h, b⟩
/-- of several classes -/
structure Ms (P : Program) (w : World) (K : PySem.W.Frag) (mg : Str → Option Value) (base : Heap) (m : Str) (k n : Nat) (tb : List (Str × ISp)) : Prop where
  at_ : ∀ C sp, tb.lookup C = some sp → CalM P w K mg base C m k n sp
theorem Ms.nil {P : Program} {w : World} {K : PySem.W.Frag} {mg : Str → Option Value} {base : Heap} {m : Str} {k n : Nat} : Ms P w K mg base m k n [] := ⟨fun _ _ e => by cases e⟩
theorem Ms.cons {P : Program} {w : World} {K : PySem.W.Frag} {mg : Str → Option Value} {base : Heap} {C m : Str} {j k n : Nat} {sp : ISp} {tb : List (Str × ISp)} (M : CalM P w K mg base C m j n sp) (h : j ≤ k) (r : Ms P w K mg base m k n tb) : Ms P w K mg base m k n ((C, sp) :: tb) := ⟨fun D sp' e => by
  rw [List.lookup_cons] at e
  cases q : D == C with
  | true =>
    rw [q] at e
    cases e
    rw [eq_of_beq q]
    exact M.up h
  | false =>
    rw [q] at e
    exact r.at_ D sp' e⟩
section
variable {X : Cx} {F : Addr → Prop} {Wx : WX} {a b c e o : Expr} {es : List Expr} {pos apos : Pos} {ia ib ic : IE} {m : Str} {k' n : Nat} {tb : List (Str × ISp)} {i : IA}
def iMeth (tb : List (Str × ISp)) (m : Str) (ia : IE) (i : IA) : IE := fun EI st Q => ia EI st fun x st1 => objOf st1 x fun C fs => fs.lookup m = none ∧ (match tb.lookup C with
  | some spec => i EI st1 fun ws st2 => spec (x :: ws) st2.S (fun r S' => Q r.fz { st2 with S := S' }) fun x S' => EI x { st2 with S := S' }
  | none => False)
def nMeth (tb : List (Str × ISp)) (m : Str) (ia : IE) (i : IA) : IN := fun EI st Q => ia EI st fun x st1 => objOf st1 x fun C fs => fs.lookup m = none ∧ (match tb.lookup C with
  | some spec => i EI st1 fun ws st2 => spec (x :: ws) st2.S (fun r S' => match r with
    | .new o => Q o { st2 with S := S' }
    | .val _ => False) fun x S' => EI x { st2 with S := S' }
  | none => False)
/-- the reading by objects -/
def tMethG (X : Cx) (k' n : Nat) (m : Str) (Wx : WX) (ta : TE) (t : TA) : TE := fun σ H Q => ta σ H fun x H1 => ∃ a C dx fs f fd ps sp, x = .ref a ∧ H1 a = some (.ins C dx fs) ∧ Cls X.K C ∧ Meth X.K C m f ∧ FnG X.prog X.w X.K X.mg X.base k' f fd ps sp ∧ Binds X.K fd ps [] ∧ fs.lookup m = none ∧
  t σ H1 fun vs H2 => sp (x :: vs) H2 Q (WE Wx σ)
theorem pe_methG0 {ta : TE} {pl : Sem Bool} (he : PE X o ta) (hr : Room k' X.A) (hgd : X.A.guards = some []) (tk : Takes X Wx)
    (ht : eval (.Call (.Attribute o m apos) [] [] pos) X.env = (do
      let ov ← eval o X.env
      standAt apos.atName
      let (f, first) ← holding [ov] (getMethod ov m pl)
      callWith pos f first (backTo pos (starEach [] X.env)) (backToKw pos (keywordEach [] X.env)))) :
    PE X (.Call (.Attribute o m apos) [] [] pos) (tMethG X k' n m Wx ta tNil) := by
  refine ⟨fun pins s σ H Q I h => ?_⟩
  refine PySem.W.methodCall_KW (pl := pl) (thn (he.run pins s σ H _ I h) fun u s1 ⟨x, H1, I1, rx, a, C, dx, fs, f, fd, ps, sp, ex, ea, c, hm, G, hb, l, q⟩ => ?_) ht
  subst ex
  obtain rfl : u = Value.ref a := rx
  refine getmeth_ok I1 ea c hm l ?_
  exact PySem.W.callWith_K0 (first := [.ref a]) I1.kIn hm.kp (run_fnG (us := [.ref a]) (vs := [.ref a]) G hr hgd tk hb I1 (.cons rfl .nil) q)
theorem meth_val {la : IA → TA} (hla : ∀ {i : IA} {σ : L2.St} {H : Hp} {Q : List V → Hp → Prop}, LA X.K F Wx n i σ H Q → la i σ H Q) (M : Ms X.prog X.w X.K X.mg X.base m k' n tb) {σ : L2.St} {H : Hp} {Q : VK} (h : LE X.K F Wx (iMeth tb m ia i) σ H Q) : tMethG X k' n m Wx (LE X.K F Wx ia) (la i) σ H Q := by
  obtain ⟨st, QI, EI, l, q, ux, k⟩ := h
  refine ⟨st, _, EI, l, q, ux, fun x st1 v H1 q1 l1 s1 r1 => ?_⟩
  obtain ⟨p, C, fs, dx, vs, rfl, ⟨hn, q2⟩, e, rf⟩ := objOf_inv q1 l1 r1
  split at q2
  · rename_i spec es
    obtain ⟨fd, ps, c, hm, G, b⟩ := (M.at_ C spec es).ex
    refine ⟨p, _, dx, vs, _, fd, ps, _, rfl, e, c, hm, G, b, rf.no hn, hla ⟨st1, _, EI, l1, q2, ux.step s1, fun ws st2 us H2 hl q3 l2 s2 r2 => ?_⟩⟩
    refine call_ok l2 (.cons (r1.mono s2.mv) r2) (by simp [hl]) q3 (ux.step (s1.trans s2)) fun r S' v H3 q4 h2 => ?_
    have ⟨l3, rv⟩ := h2.fz l2.enter
    obtain ⟨l4, s4⟩ := l2.back h2.1 l3 (fun _ z => z) fun a z => .inl z
    exact k r.fz _ v H3 q4 l4 ((s1.trans s2).trans s4) (rv.mono (mv_same fun b z => (live_enter (F := F) (st := { st2 with S := S' }) (σ := σ)).mpr z))
  · exact q2.elim
theorem i_meth0 {pl : Sem Bool} (M : Ms X.prog X.w X.K X.mg X.base m k' 0 tb) (hr : Room k' X.A) (hgd : X.A.guards = some []) (tk : Takes X Wx) (ho : PE X o (LE X.K F Wx ia))
    (ht : eval (.Call (.Attribute o m apos) [] [] pos) X.env = (do
      let ov ← eval o X.env
      standAt apos.atName
      let (f, first) ← holding [ov] (getMethod ov m pl)
      callWith pos f first (backTo pos (starEach [] X.env)) (backToKw pos (keywordEach [] X.env))) := by rfl) : PE X (.Call (.Attribute o m apos) [] [] pos) (LE X.K F Wx (iMeth tb m ia iNil)) :=
  pe_imp (pe_methG0 (k' := k') (n := 0) (pl := pl) ho hr hgd tk ht) fun _ _ _ h => meth_val (i := iNil) (la := fun i σ H Q => LA X.K F Wx 0 i σ H Q) (fun z => z) M h |> fun z => (show tMethG X k' 0 m Wx (LE X.K F Wx ia) tNil _ _ _ from by
    obtain ⟨st, QI, EI, l, q, ux, kk⟩ := z
    refine ⟨st, QI, EI, l, q, ux, fun x st1 v H1 q1 l1 s1 r1 => ?_⟩
    obtain ⟨a, C, dx, fs, f, fd, ps, sp, e1, e2, c, hm, G, b, hn, t⟩ := kk x st1 v H1 q1 l1 s1 r1
    exact ⟨a, C, dx, fs, f, fd, ps, sp, e1, e2, c, hm, G, b, hn, la_nil t⟩)
end
structure CalP (P : Program) (w : World) (K : PySem.W.Frag) (mg : Str → Option Value) (base : Heap) (C f : Str) (k : Nat) (spec : ISp) : Prop where
  ex : ∃ p g fd ps, Cls K (ga K C) ∧ PropOf K (ga K C) f p g ∧ FnG P w K mg base k g fd ps (spI K 1 spec) ∧ Binds K fd ps []
theorem CalP.spec {P : Program} {w : World} {K : PySem.W.Frag} {mg : Str → Option Value} {base : Heap} {C f : Str} {k : Nat} {sp sp' : ISp} (M : CalP P w K mg base C f k sp) (h : ∀ ws S Q E, sp' ws S Q E → sp ws S Q E) : CalP P w K mg base C f k sp' := by
  obtain ⟨p, g, fd, ps, c, hm, G, b⟩ := M.ex
  exact ⟨p, g, fd, ps, c, hm, G.spec h, b⟩
theorem CalP.up {P : Program} {w : World} {K : PySem.W.Frag} {mg : Str → Option Value} {base : Heap} {C f : Str} {k k' : Nat} {sp : ISp} (M : CalP P w K mg base C f k sp) (h : k ≤ k') : CalP P w K mg base C f k' sp := by
  obtain ⟨p, g, fd, ps, c, hm, G, b⟩ := M.ex
  exact ⟨p, g, fd, ps, c, hm, G.up h, b⟩
structure Ps (P : Program) (w : World) (K : PySem.W.Frag) (mg : Str → Option Value) (base : Heap) (f : Str) (k : Nat) (tb : List (Str × ISp)) : Prop where
  at_ : ∀ C sp, tb.lookup C = some sp → CalP P w K mg base C f k sp
theorem Ps.nil {P : Program} {w : World} {K : PySem.W.Frag} {mg : Str → Option Value} {base : Heap} {f : Str} {k : Nat} : Ps P w K mg base f k [] := ⟨fun _ _ e => by cases e⟩
theorem Ps.cons {P : Program} {w : World} {K : PySem.W.Frag} {mg : Str → Option Value} {base : Heap} {C f : Str} {j k : Nat} {sp : ISp} {tb : List (Str × ISp)} (M : CalP P w K mg base C f j sp) (h : j ≤ k) (r : Ps P w K mg base f k tb) : Ps P w K mg base f k ((C, sp) :: tb) := ⟨fun D sp' e => by
  rw [List.lookup_cons] at e
  cases q : D == C with
  | true =>
    rw [q] at e
    cases e
    rw [eq_of_beq q]
    exact M.up h
  | false =>
    rw [q] at e
    exact r.at_ D sp' e⟩
section
variable {X : Cx} {F : Addr → Prop} {Wx : WX} {a b c e o : Expr} {es : List Expr} {pos apos : Pos} {ia ib ic : IE} {f : Str} {k' n : Nat} {tb : List (Str × ISp)} {i : IA}
/-- x.f, a property whose getter raises nothing -/
def iProp (tb : List (Str × ISp)) (f : Str) (ia : IE) : IE := fun EI st Q => ia EI st fun x st1 => objOf st1 x fun C fs => match tb.lookup C with
  | some spec => spec [x] st1.S (fun r S' => Q r.fz { st1 with S := S' }) fun _ _ => False
  | none => False
theorem prop_fnG {pins : List (Addr × Obj)} {σ : L2.St} {H : Hp} {s : Shared} {Q : VK} {bb : Bool} {E' : Value → Shared → Prop} {C p g av dx : Addr} {fs : List (Str × V)} {fd : FuncData} {ps : List Str} {sp : Sp} (I : Inv X pins σ H s) (ea : H av = some (.ins C dx fs)) (c : Cls X.K C) (hp : PropOf X.K C f p g)
    (G : FnG X.prog X.w X.K X.mg X.base k' g fd ps sp) (hr : Room (k' + 1) X.A) (hgd : X.A.guards = some []) (hb : Binds X.K fd ps []) (h : sp [.ref av] H Q fun _ _ _ => False) :
    wpAny (model X.prog X.w) X.A (getAttr (.ref av) f bb) (EP X pins σ Q) E' s := by
  obtain ⟨mA, O, _, _, _, _⟩ := ins_get I.hok ea
  obtain ⟨od, J, _⟩ := O.look
  obtain ⟨rest, hrec⟩ := hp.rec_
  have I1 := I.tok (s.toks + 1)
  have hl : ([Value.ref av]).length = ps.length := by rw [← G.len h]; rfl
  have hc : (PySem.W.clsIn X.K C).isSome = true := by
    obtain ⟨cd, hc, _⟩ := PySem.W.any_some c.hd
    rw [hc]
    rfl
  have bd := hb { s with toks := s.toks + 1 } [.ref av] I1.kIn (by simpa using hl)
  rw [List.append_nil] at bd
  refine PySem.W.get_bind I.kIn J (PySem.W.plainGet_of (c.get f)).1 (PySem.W.findObj_data hc hp.at_ hp.get hp.tak) (PySem.W.plainGet_of (c.get f)).2 (wpAny_call (PySem.W.prop_get (s := { s with toks := s.toks + 1 }) I.kIn hrec ?_))
  refine codeAny_mono (G.go (A := X.A.in1) (outer := X.stack) (s := { s with toks := s.toks + 1 }) (H := H) (args := ⟨[.ref av], []⟩) (us := [.ref av]) (vs := [.ref av]) (Q := Q) (E := fun _ _ _ => False) hr.in1 hgd I1.env0.in1 bd (.cons rfl .nil) h) fun r s' hq => ?_
  cases r with
  | error er => exact (CX_none hq).elim
  | ok fl =>
    cases fl with
    | ret u =>
      obtain ⟨v, H', I3, rv, q3⟩ := I1.after hq
      show wpAny _ _ (handedOut u) _ _ _
      rw [PySem.W.handedOut_of (handed_of rv)]
      exact wpAny_pure ⟨v, H', I3, rv, q3⟩
    | next => exact False.elim hq
    | brk => exact False.elim hq
    | cont => exact False.elim hq
theorem i_prop (M : Ps X.prog X.w X.K X.mg X.base f k' tb) (hr : Room (k' + 1) X.A) (hgd : X.A.guards = some []) (ha : PE X a (LE X.K F Wx ia)) (hab : attributeBase a f X.env (eval a X.env) = eval a X.env := by rfl) : PE X (.Attribute a f pos) (LE X.K F Wx (iProp tb f ia)) := by
  refine ⟨fun pins s σ H Q I h => ?_⟩
  obtain ⟨st, QI, EI, l, q, ux, k⟩ := h
  refine attr_of hab (thn (ha.run pins s σ H (fun v H1 => ∃ p C dx vs pp g fd ps sp, v = .ref p ∧ H1 p = some (.ins C dx vs) ∧ Cls X.K C ∧ PropOf X.K C f pp g ∧ FnG X.prog X.w X.K X.mg X.base k' g fd ps sp ∧ Binds X.K fd ps [] ∧ sp [.ref p] H1 Q fun _ _ _ => False) I ⟨st, _, EI, l, q, ux, fun x st1 v H1 q1 l1 s1 r1 => ?_⟩) fun u s1 hx => ?_)
  · obtain ⟨p, C, fs, dx, vs, rfl, q2, e, rf⟩ := objOf_inv q1 l1 r1
    split at q2
    · rename_i spec es
      obtain ⟨pp, g, fd, ps, c, hp, G, b⟩ := (M.at_ C spec es).ex
      refine ⟨p, _, dx, vs, pp, g, fd, ps, _, rfl, e, c, hp, G, b, ?_⟩
      refine ⟨Fo F st1 σ, st1.S, [x], _, _, l1.enter, .cons (r1.mono (mv_same fun a z => live_enter.mp z)) .nil, rfl, q2, fun r S' v H3 q4 h2 => ?_, fun _ _ _ _ _ z => z.elim⟩
      have ⟨l3, rv⟩ := h2.fz l1.enter
      obtain ⟨l4, s4⟩ := l1.back h2.1 l3 (fun _ z => z) fun a z => .inl z
      exact k r.fz _ v H3 q4 l4 (s1.trans s4) (rv.mono (mv_same fun b z => (live_enter (F := F) (st := { st1 with S := S' }) (σ := σ)).mpr z))
    · exact q2.elim
  · obtain ⟨x, H1, I1, rx, p, C, dx, vs, pp, g, fd, ps, sp, ex, e, c, hp, G, b, q⟩ := hx
    subst ex
    obtain rfl : u = Value.ref p := rx
    exact prop_fnG I1 e c hp G hr hgd b q
end
def Sto.del (S : Sto) (a : Addr) : Sto := fun b => if b = a then none else S b
theorem Sto.del_same {S : Sto} {a : Addr} : S.del a a = none := if_pos rfl
theorem Sto.del_ne {S : Sto} {a b : Addr} (h : b ≠ a) : S.del a b = S b := if_neg h
theorem Sto.del_put {S : Sto} {a : Addr} {o : SO} (h : S a = none) : (S.put a o).del a = S := by
  funext b
  unfold Sto.del Sto.put
  split
  · rename_i e; rw [e, h]
  · rfl
section
variable {K : PySem.W.Frag} {F : Addr → Prop} {st : Stt} {σ : L2.St} {H : Hp} {a : Addr} {o : SO}
theorem live_del (b : Addr) : Live (FA F a) { st with S := st.S.del a } σ b → st.S a ≠ none → Live F st σ b := fun z h => by
  rcases z with (z | z) | z | z
  · by_cases e : b = a
    · exact absurd (show st.S.del a b = none by rw [e]; exact Sto.del_same) z
    · exact .inl (.inl (by rw [← Sto.del_ne (S := st.S) e]; exact z))
  · exact .inl (.inr z)
  · exact .inr z
  · exact .inl (.inl (by rw [z]; exact h))
/-- an object is taken out of the store: nobody else's -/
theorem Lk.unpub (l : Lk K F st σ H) (e : st.S a = some o) : Lk K (FA F a) { st with S := st.S.del a } σ H ∧ RelO K (Live (FA F a) { st with S := st.S.del a } σ) H a o := by
  have ne : st.S a ≠ none := by rw [e]; exact fun z => nomatch z
  have m : Mv (Live F st σ) H (Live (FA F a) { st with S := st.S.del a } σ) H := mv_same fun b z => live_del b z ne
  have sd : ∀ b u, st.S.del a b = some u → st.S b = some u := fun b u q => by
    by_cases eb : b = a
    · rw [eb, Sto.del_same] at q; cases q
    · rw [Sto.del_ne eb] at q; exact q
  refine ⟨⟨l.len, fun i w q => ?_, fun i u q => ?_, l.inj, fun b u q => (l.sto b u (sd b u q)).move (fun _ z => z) m, fun b z => ?_, fun b z => ?_⟩, (l.sto a o e).move (fun _ z => z) m⟩
  · obtain ⟨v, e1, r⟩ := l.val i w q
    exact ⟨v, e1, r.mono m⟩
  · obtain ⟨b, e1, r, n1, n2⟩ := l.own i u q
    have nb : b ≠ a := fun z => by rw [z, e] at n1; cases n1
    exact ⟨b, e1, r.move (fun _ z => z) m, (Sto.del_ne nb).trans n1, fun z => z.elim n2 nb⟩
  · rcases z with z | z
    · exact l.ftr b z
    · rw [z]; exact (l.sto a o e).at
  · rcases z with z | z
    · have nb : b ≠ a := fun q => by have := l.fdis b z; rw [q, e] at this; cases this
      exact (Sto.del_ne nb).trans (l.fdis b z)
    · rw [z]; exact Sto.del_same
theorem Step.del {st0 : Stt} {σ0 : L2.St} {H0 : Hp} (s : Step st0 σ0 H0 st σ H) : Step st0 σ0 H0 { st with S := st.S.del a } σ H :=
  ⟨s.keep, fun b z => s.new b (z.imp (fun z q => z (by
    by_cases e : b = a
    · show st.S.del a b = none
      rw [e]; exact Sto.del_same
    · exact (Sto.del_ne e).trans q)) id)⟩
end
structure CalK (P : Program) (w : World) (K : PySem.W.Frag) (mg : Str → Option Value) (base : Heap) (C : Str) (k n : Nat) (spec : ISp) : Prop where
  ex : ∃ fd ps, Mk K (ga K C) (ma K (ga K C) "__init__") ∧ FnG P w K mg base k (ma K (ga K C) "__init__") fd ps (spI K (n + 1) spec) ∧ Binds K fd ps [] ∧ mg C = some (.ref (ga K C))
theorem CalK.spec {P : Program} {w : World} {K : PySem.W.Frag} {mg : Str → Option Value} {base : Heap} {C : Str} {k n : Nat} {sp sp' : ISp} (M : CalK P w K mg base C k n sp) (h : ∀ ws S Q E, sp' ws S Q E → sp ws S Q E) : CalK P w K mg base C k n sp' := by
  obtain ⟨fd, ps, m, G, b⟩ := M.ex
  exact ⟨fd, ps, m, G.spec h, b⟩
section
variable {X : Cx} {F : Addr → Prop} {Wx : WX} {a b c e o : Expr} {es : List Expr} {pos apos p : Pos} {ia ib ic : IE} {C : Str} {k' n : Nat} {spec : ISp} {i : IA}
def nMake (C : Str) (spec : ISp) (i : IA) : IN := fun EI st Q => i EI st fun ws st1 => ∀ a, st1.S a = none → spec (.ref a :: ws) (st1.S.put a (.ins C [])) (fun r S' => r = .val .non ∧ (match S' a with
    | some o => Q o { st1 with S := S'.del a }
    | none => False)) fun x S' => EI x { st1 with S := S'.del a }
theorem make_guards {A : Around} {C : Addr} {us : List Value} {kw : List (Str × Value)} (h : A.guards = some []) : (A.under (.builtin "type.__call__" ⟨.ref C :: us, kw⟩)).guards = some [] := by
  first
  | exact h
  | simp [Around.under, Code.guards, Code.isGuard, guardIds, pushGuards, h]
theorem run_makeG {pins : List (Addr × Obj)} {σ : L2.St} {H : Hp} {s : Shared} {Q : VK} {us : List Value} {vs : List V} {Ca f : Addr} {fd : FuncData} {ps : List Str} {sp : Sp} (M : Mk X.K Ca f) (G : FnG X.prog X.w X.K X.mg X.base k' f fd ps sp) (hr : Room (k' + 1) X.A) (hgd : X.A.guards = some []) (tk : Takes X Wx) (hb : Binds X.K fd ps [])
    (I : Inv X pins σ H s) (r : Vals vs us)
    (h : ∀ x dx, H x = none → H dx = none → dx ≠ x → sp (.ref x :: vs) (upd (upd H dx (.own x)) x (.ins Ca dx [])) (fun v H2 => v = .non ∧ Q (.ref x) H2) (WE Wx σ)) :
    wpAny (model X.prog X.w) X.A (call (.ref Ca) us) (EP X pins σ Q) X.xe s := by
  have hq := h (s.heap.objs.size + 1) s.heap.objs.size (I.hok.fresh (Nat.le_succ _)) (I.hok.fresh (Nat.le_refl _)) (Nat.ne_of_lt (Nat.lt_succ_self _))
  have I2 := Inv.made (C := Ca) I
  have r2 : Vals (V.ref (s.heap.objs.size + 1) :: vs) (Value.ref (s.heap.objs.size + 1) :: us) := .cons rfl r
  have hl : (Value.ref (s.heap.objs.size + 1) :: us).length = ps.length := by
    have e := r2.length
    rw [G.len hq] at e
    exact e.symm
  have bd := hb _ (Value.ref (s.heap.objs.size + 1) :: us) I2.kIn (by simpa using hl)
  rw [List.append_nil] at bd
  refine wpAny_call (make_map (f := f) I.kIn M.makes M.init (beq_iff_eq.mp M.fn) (codeAny_mono (G.go (hr.make Ca us []) (make_guards hgd) (I2.env0.make Ca us []) bd r2 hq) fun r s' hq' => ?_))
  cases r with
  | error e => exact passAt tk σ pins _ _ e s' I2 hq'
  | ok fl =>
    cases fl with
    | ret u =>
      obtain ⟨v, H', I3, rv, ev, q3⟩ := I2.after hq'
      subst ev
      exact ⟨rv, ⟨V.ref (s.heap.objs.size + 1), H', I3, rfl, q3⟩⟩
    | next => exact False.elim hq'
    | brk => exact False.elim hq'
    | cont => exact False.elim hq'
theorem RelX.less {K : PySem.W.Frag} {Lv Lv' : Addr → Prop} {H : Hp} {x : Exn} {cls : Value} {d : Option Addr} (h : ∀ b, Lv' b → Lv b) (r : RelX K Lv H x cls d) : RelX K Lv' H x cls d := by
  obtain ⟨e1, z⟩ := r
  refine ⟨e1, z.imp id ?_⟩
  rintro ⟨a, vs', e2, e3, e4, e5⟩
  exact ⟨a, vs', e2, e3, fun z => e4 (h a z), e5.mono (mv_same h)⟩
theorem make_spec {σ : L2.St} {st1 : Stt} {H1 : Hp} {ws : List W} {vs : List V} {EI : XI} {QI : SO → Stt → Prop} {Q : VK} {st : Stt} {H : Hp} (l1 : Lk X.K F st1 σ H1) (r1 : RelWs X.K (Live F st1 σ) H1 ws vs) (hl : ws.length = n) (s1 : Step st σ H st1 σ H1) (ux : UpX X.K F Wx st σ H EI)
    (q1 : ∀ a, st1.S a = none → spec (.ref a :: ws) (st1.S.put a (.ins C [])) (fun r S' => r = .val .non ∧ (match S' a with
      | some o => QI o { st1 with S := S'.del a }
      | none => False)) fun x S' => EI x { st1 with S := S'.del a })
    (k : ∀ o st' a H', QI o st' → Lk X.K (FA F a) st' σ H' → Step st σ H st' σ H' → RelO X.K (Live (FA F a) st' σ) H' a o → NewAt st σ H a → Q (.ref a) H') :
    ∀ x dx, H1 x = none → H1 dx = none → dx ≠ x → spI X.K (n + 1) spec (.ref x :: vs) (upd (upd H1 dx (.own x)) x (.ins (ga X.K C) dx [])) (fun v H2 => v = .non ∧ Q (.ref x) H2) (WE Wx σ) := by
  intro x dx hx hdx ne
  have nS : st1.S x = none := by
    cases z : st1.S x with
    | none => rfl
    | some o =>
      obtain ⟨u, q⟩ := (l1.sto x o z).at
      rw [hx] at q; cases q
  have nF : ¬ F x := fun z => by
    obtain ⟨u, q⟩ := l1.ftr x z
    rw [hx] at q; cases q
  have l2 := l1.laid (o := .own x) hdx
  have s2 := Step.laid (o := .own x) l1 hdx
  have hx2 : upd H1 dx (HO.own x) x = none := by rw [upd_ne (Ne.symm ne)]; exact hx
  have l3 := l2.foreign (u := .ins (ga X.K C) dx []) hx2
  have l4 := l3.publish (o := .ins C []) ⟨dx, [], upd_same, .nil⟩ nF
  have s3 : Step st1 σ (upd H1 dx (.own x)) (st1.puts x (.ins C [])) σ (upd (upd H1 dx (.own x)) x (.ins (ga X.K C) dx [])) := Step.publish (Step.laid l2 hx2) (.inr hx2)
  have sa := (s1.trans s2).trans s3
  have r2 : RelWs X.K (Live F (st1.puts x (.ins C [])) σ) (upd (upd H1 dx (.own x)) x (.ins (ga X.K C) dx [])) ws vs := r1.mono (s2.trans s3).mv
  refine ⟨Fo F (st1.puts x (.ins C [])) σ, _, .ref x :: ws, _, _, l4.enter, .cons (.ref x) (r2.mono (mv_same fun a z => live_enter.mp z)), by simp [hl], q1 x nS, fun r S' v H3 q4 h2 => ?_, fun xx S' cls d H3 q4 lx sx rx => ?_⟩
  · obtain ⟨er, q4⟩ := q4
    subst er
    obtain ⟨sc, lc, rv⟩ := h2
    cases rv
    refine ⟨rfl, ?_⟩
    split at q4
    · rename_i o eo
      obtain ⟨l5, s5⟩ := l4.back sc lc (fun _ z => z) fun a z => .inl z
      obtain ⟨l6, ro⟩ := l5.unpub (a := x) (o := o) eo
      have nx : NewAt st1 σ H1 x := .inr hx
      exact k o _ x H3 q4 l6 (sa.trans (Step.del s5)) ro (nx.step s1)
    · exact q4.elim
  · obtain ⟨l5, s5⟩ := l4.back sx lx (fun _ z => z) fun a z => .inl z
    have lv : ∀ b, Live F { st1.puts x (.ins C []) with S := S' } σ b → Live (Fo F (st1.puts x (.ins C [])) σ) ⟨[], S'⟩ [] b := fun b z => (live_enter (F := F) (st := { st1.puts x (.ins C []) with S := S' }) (σ := σ)).mpr z
    have rx2 := RelX.less lv rx
    have fin : Lk X.K F { st1 with S := S'.del x } σ H3 ∧ ∀ b, Live F { st1 with S := S'.del x } σ b → Live F { st1.puts x (.ins C []) with S := S' } σ b := by
      cases z : S' x with
      | none =>
        have e : S'.del x = S' := by
          funext b
          unfold Sto.del
          split
          · rename_i e; rw [e, z]
          · rfl
        rw [e]
        exact ⟨l5, fun _ w => w⟩
      | some o =>
        obtain ⟨l6, ro⟩ := l5.unpub (a := x) (o := o) z
        exact ⟨l6.less fun _ w => .inl w, fun b w => live_del (st := { st1.puts x (.ins C []) with S := S' }) (a := x) b (w.imp id .inl) (by show S' x ≠ none; rw [z]; exact fun y => nomatch y)⟩
    exact ux xx _ cls d H3 q4 fin.1 (sa.trans (Step.del s5)) (RelX.less fin.2 rx2)
theorem n_make (M : CalK X.prog X.w X.K X.mg X.base C k' n spec) (hr : Room (k' + 1) X.A) (hgd : X.A.guards = some []) (tk : Takes X Wx) (ha : PA X (e :: es) (LA X.K F Wx n i)) (hg : Gl X C := by rfl) (hdb : (C == ("__debug__" : Str)) = false := by decide)
    (he : starEach (e :: es) X.env = (false, eval e X.env) :: starEach es X.env := by rfl) (hpl : (backTo pos (starEach es X.env)).any (·.1) = false := by rfl) : PE X (.Call (.Name C p) (e :: es) [] pos) (LN X.K F Wx (nMake C spec i)) := by
  obtain ⟨fd, ps, Mk', G, hb, hm⟩ := M.ex
  refine ⟨fun pins s σ H Q I h => ?_⟩
  obtain ⟨st, QI, EI, l, q, ux, k⟩ := h
  refine wpAny_Call_Name_kw (ld_glob I hg hm ?_ hdb)
  refine PySem.W.callWith_K (h₀ := X.base) I.ok.mod.kin Mk'.kp (thn (ha.run pos pins s σ H (fun vs H1 => ∀ x dx, H1 x = none → H1 dx = none → dx ≠ x → spI X.K (n + 1) spec (.ref x :: vs) (upd (upd H1 dx (.own x)) x (.ins (ga X.K C) dx [])) (fun v H2 => v = .non ∧ Q (.ref x) H2) (WE Wx σ)) I ⟨st, _, EI, l, q, ux, fun ws st1 vs H1 hl q1 l1 s1 r1 => ?_⟩) fun us s1 ⟨vs, H1, I1, r, q⟩ => ⟨I1.kIn, ?_⟩) he hpl
  · exact make_spec l1 r1 hl s1 ux q1 k
  · exact run_makeG Mk' G hr hgd tk hb I1 r q
theorem i_make (M : CalK X.prog X.w X.K X.mg X.base C k' n spec) (hr : Room (k' + 1) X.A) (hgd : X.A.guards = some []) (tk : Takes X Wx) (ha : PA X (e :: es) (LA X.K F Wx n i)) (hg : Gl X C := by rfl) (hdb : (C == ("__debug__" : Str)) = false := by decide)
    (he : starEach (e :: es) X.env = (false, eval e X.env) :: starEach es X.env := by rfl) (hpl : (backTo pos (starEach es X.env)).any (·.1) = false := by rfl) : PE X (.Call (.Name C p) (e :: es) [] pos) (LE X.K F Wx (iFz (nMake C spec i))) := i_fz (n_make M hr hgd tk ha hg hdb he hpl)
end
end Sh
namespace Sh
open PySem L2
open PyProof.Rows hiding St
open He (ga ma)
section
variable {X : Cx} {F : Addr → Prop} {Wx : WX} {a b c e o : Expr} {es : List Expr} {pos apos p : Pos} {ia ib ic : IE} {m : Str} {k' n : Nat} {tb : List (Str × ISp)} {i : IA}
def iLenM (tb : List (Str × ISp)) (ia : IE) : IE := fun EI st Q => ia EI st fun x st1 => objOf st1 x fun C fs => match tb.lookup C with
  | some spec => spec [x] st1.S (fun r S' => match r with
    | .val (.int n) => 0 ≤ n ∧ n < 2 ^ 63 ∧ Q (.int n) { st1 with S := S' }
    | _ => False) fun _ _ => False
  | none => False
def iInv (tb : List (Str × ISp)) (ia : IE) : IE := fun EI st Q => ia EI st fun x st1 => objOf st1 x fun C fs => match tb.lookup C with
  | some spec => spec [x] st1.S (fun r S' => Q r.fz { st1 with S := S' }) fun x S' => EI x { st1 with S := S' }
  | none => False
end
section
variable {X : Cx} {F : Addr → Prop} {Wx : WX} {a b c e o : Expr} {es : List Expr} {pos apos p : Pos} {ia ib ic : IE} {C : Str} {k' n : Nat} {spec : ISp} {i : IA}
def iMulM (C : Str) (spec : ISp) (ia ib : IE) : IE := fun EI st Q => ia EI st fun x st1 => ib EI st1 fun y st2 => objOf st2 x fun C1 _ => objOf st2 y fun C2 _ => C1 = C ∧ C2 = C ∧ spec [x, y] st2.S (fun r S' => Q r.fz { st2 with S := S' }) fun x S' => EI x { st2 with S := S' }
end
def tiObj (t : Addr) : Obj := { cls := .type "tuple_iterator", data := .fields #[.ref t, .int 0 0] }
def ItT (t it : Addr) : HO := .ext fun h => h.get? it = some (tiObj t)
def ItL (t it : Addr) : HO := ItO t it 0
/-- a tuple or a list -/
def SqB (K : PySem.W.Frag) (H : Hp) (t : Addr) (xs : List V) : Bool → Prop
  | true => SqT K H t xs
  | false => SqL K H t xs
def ItB (t it : Addr) : Bool → HO
  | true => ItT t it
  | false => ItL t it
section
variable {P : Program} {w : World} {K : PySem.W.Frag} {mg : Str → Option Value} {base : Heap}
/-- the def at f gives the iterator of a field's tuple or list, a young one -/
structure FnIt (P : Program) (w : World) (K : PySem.W.Frag) (mg : Str → Option Value) (base : Heap) (k : Nat) (f : Addr) (fd : FuncData) (fld : Str) (C : Addr) : Prop where
  go : ∀ {A : Around} {outer : List Env} {s : Shared} {H : Hp} {args : Args} {a dx t : Addr} {fs : List (Str × V)} {xs : List V} {b : Bool}, Room k A → A.guards = some [] → Env0 P w K mg base A outer s H → BindsTo s fd args [(("self" : Str), .ref a)] →
    H a = some (.ins C dx fs) → fs.lookup fld = some (.ref t) → SqB K H t xs b →
    codeAny (model P w) A (.call (.ref f) args) (CR (L2.CX P w) outer P w H s (fun v H' => ∃ it, v = .ref it ∧ H it = none ∧ s.heap.objs.size ≤ it ∧ H' = upd H it (ItB t it b)) fun _ _ _ => False) s
end
def rIterT (K : PySem.W.Frag) (n : Nat) : List V → Hp → VK → Prop := fun xs H Q => ∃ (t : Addr) (zs : List V) (b : Bool), xs = [.ref t] ∧ SqB K H t zs b ∧ ∀ it, H it = none → n ≤ it → Q (.ref it) (upd H it (ItB t it b))
theorem call_iterTup {prog : Program} {w : World} {A : Around} {E : Value → Shared → Prop} {s : Shared} {t : Addr} {items : Array Value} {Q : Value → Shared → Prop} (ht : s.heap.IsTuple t items) (h : Q (.ref s.heap.objs.size) { s with heap := s.heap.push (tiObj t) }) : wpAny (model prog w) A (call (.builtin "iter") [.ref t]) Q E s := by
  refine Calls.call_function_entry (by decide +kernel) (by decide +kernel) PySem.W.kdk_entry_iter (PySem.W.kdk_args_iter _) ?_
  unfold Builtin.«iter»
  refine wpAny_bind (m := someArgs "iter" 1 2 _) (wpAny_of_eq (a := [Value.ref t]) (by first | rfl | kernel_rfl!) ?_)
  show wpAny _ _ (pyIter (.ref t) >>= _) _ _ _
  exact wpAny_bind (wpAny_pyIter_tuple ht (wpAny_pure ⟨_, rfl, h⟩))
theorem itT_ok {P : Program} {w : World} {H : Hp} {h : Heap} {t it : Addr} (e : h.get? it = some (tiObj t)) : ObjOk P w H h it (ItT t it) := ⟨e, ⟨_, e⟩, fun h1 h2 q k => k _ q⟩
theorem call_iterTN {X : Cx} : CallR X (.builtin "iter") (rIterT X.K X.s_0.heap.objs.size) := by
  intro pins s σ H xs us Q I r h
  obtain ⟨t, zs, b, rfl, hq, q⟩ := h
  obtain ⟨u, rfl, ru⟩ := vals1 r
  cases ru
  have hn := q _ (I.hok.fresh (Nat.le_refl _)) I.sz
  cases b with
  | true =>
    obtain ⟨its, rv, pl, hz⟩ := I.tuple hq
    refine call_iterTup (show s.heap.IsTuple t its.toArray from pl) ?_
    exact ⟨.ref s.heap.objs.size, _, I.laid (t' := s.toks) (fun b u e => Heap.get?_push_of_some _ e) (Nat.le_refl _) (itT_ok (Heap.get?_push_size _ rfl)), rfl, hn⟩
  | false =>
    obtain ⟨its, rv, pl, hz⟩ := I.list hq
    refine GNX.call_iter pl.isList ?_
    exact ⟨.ref s.heap.objs.size, _, I.laid (t' := s.toks) (fun b u e => Heap.get?_push_of_some _ e) (Nat.le_refl _) (itO_ok (Heap.get?_push_size _ rfl)), rfl, hn⟩
section
variable {P : Program} {w : World} {K : PySem.W.Frag} {mg : Str → Option Value} {base : Heap} {x qual : Str} {params : Arguments} {body : List Stmt} {scope : Scope} {f : Addr} {fd : FuncData}
/-- def __iter__(self): return iter(self.fld) -/
theorem fnIt_of {N : List Str} {fld : Str} {C : Addr} {p1 p2 p3 p4 p5 : Pos} (Fd : FunD K x qual params body scope [] [] f fd) (Sc : FnScope N [("self" : Str)] scope) (hN : N[0]? = some ("self" : Str)) (hbody : body = [.Return (some (.Call (.Name "iter" p1) [.Attribute (.Name "self" p2) fld p3] [] p4)) p5])
    (c : Cls K C) (nf : NoAttr K C fld) (hm : mg "iter" = none)
    (hgl : ∀ (cdv : Value) (A : Around) (outer : List Env) (s : Shared) (H : Hp) (E : XK), Gl (cxOf (L2.CX P w) P w K mg base N qual scope f cdv A outer s H E) "iter") : FnIt P w K mg base 1 f fd fld C := by
  subst hbody
  obtain ⟨oc, od, dV, kV, doc, pm, an, cdv, ct, osl, rfl, lk, hcd, _, _⟩ := Fd.ex
  refine ⟨fun {A outer s H args a dx t fs xs b} room gu e0 bd ea lf hsq => ?_⟩
  have kin : K.In s.heap := e0.mod.kin.keeps fun b o e => (e0.bs b o e).1
  have noLim : s.heap.NoLimit := e0.mod.nolimit.keeps fun b o e => (e0.bs b o e).1
  have kinds : ∀ y ∈ [(("self" : Str), Value.ref a)], scope.names.lookup y.1 = some .local ∨ (scope.names.lookup y.1 = some .cell ∧ ((cellsFrom (s.heap.objs.size + 1) scope.names []).lookup y.1).isSome = true) := fun y hy => by
    have ey : y = (("self" : Str), Value.ref a) := by simpa using hy
    rw [ey]
    rcases Sc.par ("self" : Str) (List.mem_singleton.mpr rfl) with q | q
    · exact .inl q
    · exact .inr ⟨q, PySem.W.cellsFrom_some _ _ _ (.inl q)⟩
  refine codeAny_call_function room.depth (kin _ _ lk) rfl Sc.co Sc.gen rfl (PySem.W.codeRec_of kin hcd) (bd _ _ _ _ ?_)
  refine wpAny_newFunctionEnv_cells Sc.kind kinds fun env he s1 z => ?_
  subst he
  refine ⟨noLim.keeps z.toInCall.keep, codeAny_func ?_⟩
  let Q : VK := fun v H' => ∃ it, v = .ref it ∧ H it = none ∧ s.heap.objs.size ≤ it ∧ H' = upd H it (ItB t it b)
  have I := inv_start (CX := L2.CX P w) (E := fun _ _ _ => False) (vs := [.ref a]) (us := [.ref a]) Sc room.hd e0 rfl (.cons rfl .nil) z
  have vis : Vis scope "self" := (Sc.par "self" (List.mem_singleton.mpr rfl)).elim (fun z => .inl z) (fun z => .inr (.inl z))
  have d := pss_one (X := cxOf (L2.CX P w) P w K mg base N qual scope f cdv A outer s H fun _ _ _ => False) (ps_ret (pos := p5) (pe_callB (p := p1) (pos := p4) call_iterTN (hgl cdv A outer s H _) hm (by decide +kernel) (pa_cons (pe_fld (f := fld) (pos := p3) (pe_var (pos := p2) (i := 0) hN vis) rfl) pa_nil)))
  have h0 : (L2.start N [V.ref a])[0]? = some (some (.ref a)) := rfl
  refine wpAny_mono (d.run [] s1 _ H { nx := fun _ H' => False, rt := Q } I ⟨.ref a, h0, a, C, dx, fs, .ref t, rfl, ea, c, nf, lf, t, xs, b, rfl, hsq, fun it hi hn => ⟨it, rfl, hi, hn, rfl⟩⟩) (fun fl s' hs => ?_) fun _ _ h => h
  cases fl with
  | ret u =>
    obtain ⟨v, σ', H', J, rv, q⟩ := hs
    exact ⟨v, H', J.os, J.bare, J.base, J.hok, rv, q⟩
  | next => obtain ⟨_, _, _, q⟩ := hs; exact q.elim
  | brk => obtain ⟨_, _, _, q⟩ := hs; exact q.elim
  | cont => obtain ⟨_, _, _, q⟩ := hs; exact q.elim
end
structure CalI (P : Program) (w : World) (K : PySem.W.Frag) (mg : Str → Option Value) (base : Heap) (C fld : Str) (k : Nat) : Prop where
  ex : ∃ fd, Cls K (ga K C) ∧ Meth K (ga K C) "__iter__" (ma K (ga K C) "__iter__") ∧ FnIt P w K mg base k (ma K (ga K C) "__iter__") fd fld (ga K C) ∧ Binds K fd [("self" : Str)] []
structure Is (P : Program) (w : World) (K : PySem.W.Frag) (mg : Str → Option Value) (base : Heap) (k : Nat) (tb : List (Str × Str)) : Prop where
  at_ : ∀ C fld, tb.lookup C = some fld → CalI P w K mg base C fld k
theorem Is.nil {P : Program} {w : World} {K : PySem.W.Frag} {mg : Str → Option Value} {base : Heap} {k : Nat} : Is P w K mg base k [] := ⟨fun _ _ e => by cases e⟩
theorem Is.cons {P : Program} {w : World} {K : PySem.W.Frag} {mg : Str → Option Value} {base : Heap} {C fld : Str} {k : Nat} {tb : List (Str × Str)} (M : CalI P w K mg base C fld k) (r : Is P w K mg base k tb) : Is P w K mg base k ((C, fld) :: tb) := ⟨fun D sp' e => by
  rw [List.lookup_cons] at e
  cases q : D == C with
  | true =>
    rw [q] at e
    cases e
    rw [eq_of_beq q]
    exact M
  | false =>
    rw [q] at e
    exact r.at_ D sp' e⟩
section
variable {X : Cx} {F : Addr → Prop} {Wx : WX} {a b c e o tg : Expr} {pos apos p : Pos} {ia ib ic : IE} {k' n : Nat} {tb : List (Str × Str)}
def lIter (tb : List (Str × Str)) (ia : IE) : IL := fun EI st Q => ia EI st fun x st1 => objOf st1 x fun C fs => match tb.lookup C with
  | some fld => (match fs.lookup fld with
    | some (.tup ws) => Q ws st1
    | some (.lst ws) => Q ws st1
    | _ => False)
  | none => False
theorem nextOf_tup {prog : Program} {w : World} {A : Around} {E : Value → Shared → Prop} {s : Shared} {Q : Value → Shared → Prop} {it t : Addr} {i : Nat} (h : s.heap.IsTupleIter it t i) (q : Q (.ref it) s) : PySem.W.OwitIt (model prog w) A Q E (.ref it) s :=
  wpAny_specialOf (name := Str.ofString "__next__") h.typeIs PySem.F.slot_tuple_iterator_next.lookup q
theorem nextOf_lst {prog : Program} {w : World} {A : Around} {E : Value → Shared → Prop} {s : Shared} {Q : Value → Shared → Prop} {it l : Addr} {i : Nat} (h : s.heap.get? it = some (GNX.itObj l i)) (q : Q (.ref it) s) : PySem.W.OwitIt (model prog w) A Q E (.ref it) s :=
  wpAny_specialOf (s := s) (name := Str.ofString "__next__") ⟨_, h, rfl⟩ slot_listiter_next.lookup q
theorem dropIt {H : Hp} {it : Addr} {o : HO} (h : H it = none) : ItX.dropH (upd H it o) it = H := ItX.dropH_upd h
theorem l_iter (M : Is X.prog X.w X.K X.mg X.base k' tb) (hr : Room k' X.A) (hgd : X.A.guards = some []) (ha : PE X a (LE X.K F Wx ia)) : PI X tg a (LI X.K F Wx (lIter tb ia)) := by
  refine ⟨fun pins s σ H R I h => ?_⟩
  obtain ⟨st, QI, EI, l, q, ux, k⟩ := h
  refine thn (ha.run pins s σ H (fun v H1 => ∃ p C dx fs t fld xs fd f bb, v = .ref p ∧ H1 p = some (.ins C dx fs) ∧ Cls X.K C ∧ Meth X.K C "__iter__" f ∧ FnIt X.prog X.w X.K X.mg X.base k' f fd fld C ∧ Binds X.K fd [("self" : Str)] [] ∧ fs.lookup fld = some (.ref t) ∧ SqB X.K H1 t xs bb ∧ R (match bb with | true => Itt X.K t | false => Itl X.K t) H1) I
    ⟨st, _, EI, l, q, ux, fun x st1 v H1 q1 l1 s1 r1 => ?_⟩) fun u s1 hx => ?_
  · obtain ⟨p, C, fs, dx, vs, rfl, q2, e, rf⟩ := objOf_inv q1 l1 r1
    split at q2
    · rename_i fld es
      obtain ⟨fd, c, hm, G, b⟩ := (M.at_ C fld es).ex
      split at q2
      · rename_i ws ew
        obtain ⟨w, ev, rw'⟩ := rf.get ew
        cases rw' with
        | tup ft rt =>
          refine ⟨p, _, dx, vs, _, fld, _, fd, _, true, rfl, e, c, hm, G, b, ev, ft.sq, k _ _ _ H1 q2 l1 s1 (yd_tup (fun _ _ m => (ft.mono m).sq) rt)⟩
      · rename_i ws ew
        obtain ⟨w, ev, rw'⟩ := rf.get ew
        cases rw' with
        | lst ft rt =>
          refine ⟨p, _, dx, vs, _, fld, _, fd, _, false, rfl, e, c, hm, G, b, ev, ft.sq, k _ _ _ H1 q2 l1 s1 (yd_list (fun _ _ m => (ft.mono m).sq) rt)⟩
      · exact q2.elim
    · exact q2.elim
  · obtain ⟨x, H1, I1, rx, p, C, dx, fs, t, fld, xs, fd, f, bb, ex, e, c, hm, G, b, lf, hsq, kR⟩ := hx
    subst ex
    obtain rfl : u = Value.ref p := rx
    obtain ⟨mF, hF⟩ := I1.fr
    obtain ⟨mA, O, _, _, _, _⟩ := ins_get I1.hok e
    obtain ⟨od, J, _⟩ := O.look
    have bd := b s1 [.ref p] I1.kIn rfl
    rw [List.append_nil] at bd
    refine PySem.W.owit_iter hF I1.ok.mod.kin J hm.at_ hm.fn (wpAny_call (codeAny_mono (G.go hr hgd I1.env0 bd e lf hsq) fun res s2 hq => ?_))
    cases res with
    | error er => exact (CX_none hq).elim
    | ok fl =>
      cases fl with
      | ret w =>
        obtain ⟨v, H2, I2, rv, it, ev, hit, hn, eH⟩ := I1.after hq
        subst eH
        subst ev
        obtain rfl : w = Value.ref it := rv
        have hy : X.s_0.heap.objs.size ≤ it := Nat.le_trans I1.sz hn
        cases bb with
        | true =>
          have eo : s2.heap.get? it = some (tiObj t) := (I2.hok it _ upd_same).1
          have hti : s2.heap.IsTupleIter it t 0 := ⟨_, eo, rfl, rfl⟩
          refine nextOf_tup hti ⟨it, [it], _, _, H1, rfl, ?_, turn_tuple t it, hti, fun b hb => ?_, kR⟩
          · have := ItX.inv_drop I2 (a := it) upd_same
            rw [dropIt hit] at this
            exact this
          · have eb : b = it := by simpa using hb
            rw [eb]
            have := ItX.inv_fp I2 (a := it) upd_same hy
            rw [dropIt hit] at this
            exact this
        | false =>
          have eo : s2.heap.get? it = some (GNX.itObj t 0) := (I2.hok it _ upd_same).1
          have hti : s2.heap.IsListIter it t 0 := ⟨_, eo, rfl, rfl⟩
          refine nextOf_lst eo ⟨it, [it], _, _, H1, rfl, ?_, turn_list t it, hti, fun b hb => ?_, kR⟩
          · have := ItX.inv_drop I2 (a := it) upd_same
            rw [dropIt hit] at this
            exact this
          · have eb : b = it := by simpa using hb
            rw [eb]
            have := ItX.inv_fp I2 (a := it) upd_same hy
            rw [dropIt hit] at this
            exact this
      | next => exact False.elim hq
      | brk => exact False.elim hq
      | cont => exact False.elim hq
end
end Sh
namespace Sh
open PySem L2
open PyProof.Rows hiding St
open He (ga ma)
def prA (K : PySem.W.Frag) (C f : Str) : Addr := match PySem.W.findIn K (.ref (ga K C)) f with
  | some (some (.ref p)) => p
  | _ => 0
def gtA (K : PySem.W.Frag) (C f : Str) : Addr := match PySem.W.recIn K (prA K C f) "property" with
  | some (.ref g :: _) => g
  | _ => 0
def fnA (K : PySem.W.Frag) (a : Addr) : He.FnW := match K.lookup a with
  | some ⟨_, _, .func d, _⟩ => some (d.name, d.qualname, d.params, d.body, d.scope, d.globals, d.closure, d.builtins)
  | _ => none
structure PrD where
  cls : Str
  nm : Str
  qual : Str
  params : Arguments
  body : List Stmt
  scope : Scope
def PrD.val (d : PrD) : He.FnW := some (d.nm, d.qual, d.params, .stmts d.body, d.scope, mainGlobals, [], builtinsNs)
def PrD.ok (K : PySem.W.Frag) (d : PrD) : Bool := He.eqO (PySem.W.findIn K (.ref (ga K d.cls)) d.nm) (some (some (.ref (prA K d.cls d.nm)))) && (He.eqO (PySem.W.specialIn K (.ref (prA K d.cls d.nm)) "__get__") (some (some (.builtin "property.__get__"))) &&
  (decide (PySem.W.takesIn K (.ref (prA K d.cls d.nm)) = some true) && ((match PySem.W.recIn K (prA K d.cls d.nm) "property" with
    | some (.ref _ :: _) => true
    | _ => false) && (PySem.W.keepIn K (.ref (gtA K d.cls d.nm)) && (match K.lookup (gtA K d.cls d.nm) with
    | some ⟨_, _, .func fd, _⟩ => PySem.W.codeIn K fd.code d.qual && He.dflB K fd.defaults []
    | _ => false)))))
theorem PrD.funD {K : PySem.W.Frag} {d : PrD} (e : fnA K (gtA K d.cls d.nm) = d.val) (c : d.ok K = true) : PropOf K (ga K d.cls) d.nm (prA K d.cls d.nm) (gtA K d.cls d.nm) ∧ ∃ fd, FunD K d.nm d.qual d.params d.body d.scope [] [] (gtA K d.cls d.nm) fd := by
  obtain ⟨c1, c⟩ := He.ba c
  obtain ⟨c2, c⟩ := He.ba c
  obtain ⟨c3, c⟩ := He.ba c
  obtain ⟨c4, c⟩ := He.ba c
  obtain ⟨c5, c6⟩ := He.ba c
  refine ⟨⟨He.eqO_ok c1, He.eqO_ok c2, of_decide_eq_true c3, ?_⟩, ?_⟩
  · cases q : PySem.W.recIn K (prA K d.cls d.nm) "property" with
    | none => rw [q] at c4; cases c4
    | some l =>
      cases l with
      | nil => rw [q] at c4; cases c4
      | cons v r =>
        cases v <;> first | (rw [q] at c4; cases c4; done) | skip
        rename_i g
        refine ⟨r, ?_⟩
        have : gtA K d.cls d.nm = g := by unfold gtA; rw [q]
        rw [this]
  · unfold fnA at e
    cases q : K.lookup (gtA K d.cls d.nm) with
    | none => rw [q] at c6; cases c6
    | some o =>
      obtain ⟨oc, od, dt, osl⟩ := o
      rw [q] at c6 e
      cases dt with
      | func fd =>
        obtain ⟨n1, n2, n3, n4, n5, n6, n7, n8, n9, n10, n11, n12, n13, n14, n15⟩ := fd
        have e2 : (some (n1, n2, n3, n4, n5, n6, n7, n15) : He.FnW) = some (d.nm, d.qual, d.params, .stmts d.body, d.scope, mainGlobals, [], builtinsNs) := e
        injection e2 with e2
        injection e2 with h1 e2
        injection e2 with h2 e2
        injection e2 with h3 e2
        injection e2 with h4 e2
        injection e2 with h5 e2
        injection e2 with h6 e2
        injection e2 with h7 h8
        subst h1 h2 h3 h4 h5 h6 h7 h8
        obtain ⟨k1, k3⟩ := He.ba (show (PySem.W.codeIn K n13 d.qual && He.dflB K n8 []) = true from c6)
        exact ⟨_, ⟨⟨oc, od, n8, n9, n10, n11, n12, n13, n14, osl, rfl, q, k1, He.dflB_ok k3, .inl rfl⟩, c5⟩⟩
      | _ => cases c6
def obsPr (pr : List PrD) (K : PySem.W.Frag) : Bool × List He.FnW := (pr.all fun d => d.ok K, pr.map fun d => fnA K (gtA K d.cls d.nm))
def valPr (pr : List PrD) : Bool × List He.FnW := (true, pr.map PrD.val)
structure SaysP (fa : List He.Fa) (fn : List He.DefD) (ts : List He.Tab) (ex : PySem.W.Frag → Bool) (pr : List PrD) (w : World) (h : Heap) (K : PySem.W.Frag) : Prop where
  x : He.SaysX fa fn ts [] ex w h K
  p : obsPr pr K = valPr pr
theorem SaysP.pr {fa : List He.Fa} {fn : List He.DefD} {ts : List He.Tab} {ex : PySem.W.Frag → Bool} {pr : List PrD} {w : World} {h : Heap} {K : PySem.W.Frag} (c : SaysP fa fn ts ex pr w h K) (i : Nat) {d : PrD} (hd : pr[i]? = some d := by rfl) :
    PropOf K (ga K d.cls) d.nm (prA K d.cls d.nm) (gtA K d.cls d.nm) ∧ ∃ fd, FunD K d.nm d.qual d.params d.body d.scope [] [] (gtA K d.cls d.nm) fd := by
  have c2 : (pr.all fun d => d.ok K) = true := congrArg (fun z : Bool × List He.FnW => z.1) c.p
  have e : pr.map (fun d => fnA K (gtA K d.cls d.nm)) = pr.map PrD.val := congrArg (fun z : Bool × List He.FnW => z.2) c.p
  have e2 : (pr.map fun d => fnA K (gtA K d.cls d.nm))[i]? = (pr.map PrD.val)[i]? := by rw [e]
  rw [List.getElem?_map, List.getElem?_map, hd] at e2
  exact PrD.funD (Option.some.inj e2) (List.all_eq_true.mp c2 d (List.mem_of_getElem? hd))
def clsBody (s : Stmt) (j : Nat) : Stmt := match s with
  | .ClassDef _ _ _ b _ _ _ _ _ _ _ => b.getD j (.Pass ⟨0, 0, 0, 0⟩)
  | _ => .Pass ⟨0, 0, 0, 0⟩
structure DfM (K : PySem.W.Frag) (C m qual : Str) (s : Stmt) : Prop where
  ex : ∃ fd, FunD K m qual (defArgs s) (defBody s) (defScope s) [] [] (ma K (ga K C) m) fd
structure DfP (K : PySem.W.Frag) (C f qual : Str) (s : Stmt) : Prop where
  ex : PropOf K (ga K C) f (prA K C f) (gtA K C f) ∧ ∃ fd, FunD K f qual (defArgs s) (defBody s) (defScope s) [] [] (gtA K C f) fd
section
variable {P : Program} {w : World} {K : PySem.W.Frag} {mg : Str → Option Value} {base : Heap} {C m f qual : Str} {k n : Nat} {s : Stmt} {N ps : List Str} {ib : IS}
theorem calMI (D : DfM K C m qual s) (c : Cls K (ga K C)) (hm : Meth K (ga K C) m (ma K (ga K C) m)) (Sc : FnScope N ps (defScope s)) (hn : ps.length = n + 1)
    (bd : ∀ (kV doc pm : Value) (an : Option Addr) (cdv ct : Value) (us : List Value), us.length = ps.length → bindArgs (PySem.W.fnOf m qual (defArgs s) (defBody s) (defScope s) .none kV doc pm an cdv ct) ⟨us, []⟩ = pure (ps.zip us))
    (hb : ∀ (f : Addr) (cdv : Value) (A : Around) (outer : List Env) (s' : Shared) (H : Hp) (E : XK), Room k (A.deeper (envOfC qual (defScope s) s'.heap.objs.size f cdv)) → A.guards = some [] → ∀ (F : Addr → Prop) (Wx : WX), Takes (cxOf (L2.CX P w) P w K mg base N qual (defScope s) f cdv A outer s' H E) Wx →
      PSs (cxOf (L2.CX P w) P w K mg base N qual (defScope s) f cdv A outer s' H E) (defBody s) (LS K F Wx ib)) : CalM P w K mg base C m (k + 1) n (bodyI N.length ib) := by
  obtain ⟨fd, Fd⟩ := D.ex
  refine ⟨fd, ps, c, hm, ?_, Fd.bindsN bd⟩
  have := fnI Fd Sc (hb _)
  rw [hn] at this
  exact this
theorem calKI (D : DfM K C "__init__" qual s) (hmk : Mk K (ga K C) (ma K (ga K C) "__init__")) (hC : mg C = some (.ref (ga K C))) (Sc : FnScope N ps (defScope s)) (hn : ps.length = n + 1)
    (bd : ∀ (kV doc pm : Value) (an : Option Addr) (cdv ct : Value) (us : List Value), us.length = ps.length → bindArgs (PySem.W.fnOf "__init__" qual (defArgs s) (defBody s) (defScope s) .none kV doc pm an cdv ct) ⟨us, []⟩ = pure (ps.zip us))
    (hb : ∀ (f : Addr) (cdv : Value) (A : Around) (outer : List Env) (s' : Shared) (H : Hp) (E : XK), Room k (A.deeper (envOfC qual (defScope s) s'.heap.objs.size f cdv)) → A.guards = some [] → ∀ (F : Addr → Prop) (Wx : WX), Takes (cxOf (L2.CX P w) P w K mg base N qual (defScope s) f cdv A outer s' H E) Wx →
      PSs (cxOf (L2.CX P w) P w K mg base N qual (defScope s) f cdv A outer s' H E) (defBody s) (LS K F Wx ib)) : CalK P w K mg base C (k + 1) n (bodyI N.length ib) := by
  obtain ⟨fd, Fd⟩ := D.ex
  refine ⟨fd, ps, hmk, ?_, Fd.bindsN bd, hC⟩
  have := fnI Fd Sc (hb _)
  rw [hn] at this
  exact this
theorem calPI (D : DfP K C f qual s) (c : Cls K (ga K C)) (Sc : FnScope N ps (defScope s)) (hn : ps.length = 1)
    (bd : ∀ (kV doc pm : Value) (an : Option Addr) (cdv ct : Value) (us : List Value), us.length = ps.length → bindArgs (PySem.W.fnOf f qual (defArgs s) (defBody s) (defScope s) .none kV doc pm an cdv ct) ⟨us, []⟩ = pure (ps.zip us))
    (hb : ∀ (f : Addr) (cdv : Value) (A : Around) (outer : List Env) (s' : Shared) (H : Hp) (E : XK), Room k (A.deeper (envOfC qual (defScope s) s'.heap.objs.size f cdv)) → A.guards = some [] → ∀ (F : Addr → Prop) (Wx : WX), Takes (cxOf (L2.CX P w) P w K mg base N qual (defScope s) f cdv A outer s' H E) Wx →
      PSs (cxOf (L2.CX P w) P w K mg base N qual (defScope s) f cdv A outer s' H E) (defBody s) (LS K F Wx ib)) : CalP P w K mg base C f (k + 1) (bodyI N.length ib) := by
  obtain ⟨hp, fd, Fd⟩ := D.ex
  refine ⟨_, _, fd, ps, c, hp, ?_, Fd.bindsN bd⟩
  have := fnI Fd Sc (hb _)
  rw [hn] at this
  exact this
theorem calII {fld : Str} {p1 p2 p3 p4 p5 : Pos} (D : DfM K C "__iter__" qual s) (c : Cls K (ga K C)) (hm : Meth K (ga K C) "__iter__" (ma K (ga K C) "__iter__")) (nf : NoAttr K (ga K C) fld) (Sc : FnScope N [("self" : Str)] (defScope s)) (hN : N[0]? = some ("self" : Str)) (hi : mg "iter" = none)
    (hbody : defBody s = [.Return (some (.Call (.Name "iter" p1) [.Attribute (.Name "self" p2) fld p3] [] p4)) p5])
    (bd : ∀ (kV doc pm : Value) (an : Option Addr) (cdv ct : Value) (us : List Value), us.length = 1 → bindArgs (PySem.W.fnOf "__iter__" qual (defArgs s) (defBody s) (defScope s) .none kV doc pm an cdv ct) ⟨us, []⟩ = pure ([("self" : Str)].zip us))
    (hgl : ∀ (f : Addr) (cdv : Value) (A : Around) (outer : List Env) (s' : Shared) (H : Hp) (E : XK), Gl (cxOf (L2.CX P w) P w K mg base N qual (defScope s) f cdv A outer s' H E) "iter") : CalI P w K mg base C fld 1 := by
  obtain ⟨fd, Fd⟩ := D.ex
  exact ⟨fd, c, hm, fnIt_of Fd Sc hN hbody c nf hi (hgl _), Fd.bindsN bd⟩
end
def bTys : List String := ["NoneType", "bool", "int", "str", "tuple", "list", "dict"]
structure KitF (K : PySem.W.Frag) (cs : List Str) : Prop where
  cl : ∀ n ∈ cs, Cls K (ga K n) ∧ PySem.W.findIn K (.ref (ga K n)) "__class__" = some (some (.builtin "object.__class__")) ∧ PySem.W.mroIn K (ga K n) (.type "object") = some true
  b1 : PySem.W.specialIn K (.builtin "object.__class__") "__get__" = some (some (.builtin "getset_descriptor.__get__"))
  b2 : PySem.W.takesIn K (.builtin "object.__class__") = some true
  to : ∀ n ∈ cs, ∀ T ∈ bTys, PySem.W.kitOne K (.type T) (.ref (ga K n)) = some false
  of : ∀ n ∈ cs, ∀ T ∈ bTys, PySem.W.kitOne K (.ref (ga K n)) (.type T) = some false
  own : ∀ n ∈ cs, ∀ m ∈ cs, PySem.W.kitOne K (.ref (ga K n)) (.ref (ga K m)) = some (n == m)
def kitFB (K : PySem.W.Frag) (cs : List Str) : Bool := (cs.all fun n => (He.Fa.cls n).ok K && (He.eqO (PySem.W.findIn K (.ref (ga K n)) "__class__") (some (some (.builtin "object.__class__"))) && decide (PySem.W.mroIn K (ga K n) (.type "object") = some true))) &&
  (He.eqO (PySem.W.specialIn K (.builtin "object.__class__") "__get__") (some (some (.builtin "getset_descriptor.__get__"))) && (decide (PySem.W.takesIn K (.builtin "object.__class__") = some true) &&
  ((cs.all fun n => bTys.all fun T => decide (PySem.W.kitOne K (.type T) (.ref (ga K n)) = some false)) && ((cs.all fun n => bTys.all fun T => decide (PySem.W.kitOne K (.ref (ga K n)) (.type T) = some false)) &&
  cs.all fun n => cs.all fun m => decide (PySem.W.kitOne K (.ref (ga K n)) (.ref (ga K m)) = some (n == m))))))
theorem kitFB_ok {K : PySem.W.Frag} {cs : List Str} (h : kitFB K cs = true) : KitF K cs := by
  obtain ⟨c1, h⟩ := He.ba h
  obtain ⟨c2, h⟩ := He.ba h
  obtain ⟨c3, h⟩ := He.ba h
  obtain ⟨c4, h⟩ := He.ba h
  obtain ⟨c5, c6⟩ := He.ba h
  refine ⟨fun n hn => ?_, He.eqO_ok c2, of_decide_eq_true c3, fun n hn T hT => ?_, fun n hn T hT => ?_, fun n hn m hm => ?_⟩
  · obtain ⟨d1, d2⟩ := He.ba (List.all_eq_true.mp c1 n hn)
    obtain ⟨d2, d3⟩ := He.ba d2
    exact ⟨He.cls_ok d1, He.eqO_ok d2, of_decide_eq_true d3⟩
  · exact of_decide_eq_true (List.all_eq_true.mp (List.all_eq_true.mp c4 n hn) T hT)
  · exact of_decide_eq_true (List.all_eq_true.mp (List.all_eq_true.mp c5 n hn) T hT)
  · exact of_decide_eq_true (List.all_eq_true.mp (List.all_eq_true.mp c6 n hn) m hm)
def tyS (st : Stt) : W → Option (Sum String Str)
  | .obj C _ => some (.inr C)
  | .ref a => (match st.S a with
    | some (.ins C _) => some (.inr C)
    | _ => none)
  | w => (tyN w).map .inl
def isOne (cs : List Str) (t : Sum String Str) (c : W) : Option Bool := match t, c with
  | .inl S, .ty T => kitB S T
  | .inr C, .ty T => if C ∈ cs ∧ T ∈ bTys then some false else none
  | .inl S, .glo m => if m ∈ cs ∧ S ∈ bTys then some false else none
  | .inr C, .glo m => if C ∈ cs ∧ m ∈ cs then some (C == m) else none
  | _, _ => none
def isAny (cs : List Str) (t : Sum String Str) : List W → Option Bool
  | [] => some false
  | c :: r => (match isOne cs t c with
    | some true => some true
    | some false => isAny cs t r
    | none => none)
def tyVal (K : PySem.W.Frag) : Sum String Str → Value
  | .inl S => .type S
  | .inr C => .ref (ga K C)
def clVal (K : PySem.W.Frag) : W → Value
  | .ty T => .type T
  | .glo m => .ref (ga K m)
  | _ => .none
theorem isOne_ok {K : PySem.W.Frag} {cs : List Str} (T : KitF K cs) {t : Sum String Str} {c : W} {b : Bool} (h : isOne cs t c = some b) : PySem.W.kitOne K (tyVal K t) (clVal K c) = some b := by
  unfold isOne at h
  split at h
  · exact kit_ty h
  · split at h
    · rename_i z; cases h; exact T.of _ z.1 _ z.2
    · cases h
  · split at h
    · rename_i z; cases h; exact T.to _ z.1 _ z.2
    · cases h
  · split at h
    · rename_i z; cases h; exact T.own _ z.1 _ z.2
    · cases h
  · cases h
theorem isAny_ok {K : PySem.W.Frag} {cs : List Str} (T : KitF K cs) {t : Sum String Str} : ∀ {ds : List W} {b : Bool}, isAny cs t ds = some b → PySem.W.kitAny K (tyVal K t) (ds.map (clVal K)) = some b
  | [], _, h => h
  | c :: r, b, h => by
    unfold isAny at h
    split at h
    · rename_i e; cases h; exact kitAny_cons (isOne_ok T e) (fun z => nomatch z) fun _ => rfl
    · rename_i e; exact kitAny_cons (isOne_ok T e) (fun _ => isAny_ok T h) fun z => nomatch z
    · cases h
theorem clsV_of {K : PySem.W.Frag} {Lv : Addr → Prop} {H : Hp} {cs : List Str} {t : Sum String Str} {c : W} {v : V} {b : Bool} (h : isOne cs t c = some b) (r : RelW K Lv H c v) : ClsV v (clVal K c) := by
  cases r <;> first
    | exact .ty _
    | exact .own _
    | (exfalso; cases t <;> cases h)
theorem clsVs_of {K : PySem.W.Frag} {Lv : Addr → Prop} {H : Hp} : ∀ {ds : List W} {vs : List V}, (∀ d ∈ ds, (∃ T, d = .ty T) ∨ ∃ m, d = .glo m) → RelWs K Lv H ds vs → Paired ClsV vs (ds.map (clVal K))
  | _, _, _, .nil => .nil
  | _, _, hd, .cons h r => by
    refine .cons ?_ (clsVs_of (fun d hm => hd d (List.mem_cons_of_mem _ hm)) r)
    rcases hd _ (List.mem_cons_self ..) with ⟨T, rfl⟩ | ⟨m, rfl⟩
    · cases h; exact .ty _
    · cases h; exact .own _
theorem tyS_ok {K : PySem.W.Frag} {F : Addr → Prop} {st : Stt} {σ : L2.St} {H : Hp} {cs : List Str} (T : KitF K cs) {x : W} {v : V} {t : Sum String Str} (h : tyS st x = some t) (hc : ∀ C, t = .inr C → C ∈ cs) (l : Lk K F st σ H) (r : RelW K (Live F st σ) H x v) : TyX K H v (tyVal K t) := by
  have ins : ∀ {a dx : Addr} {C : Str} {vs : List (Str × V)}, C ∈ cs → H a = some (.ins (ga K C) dx vs) → TyX K H (.ref a) (.ref (ga K C)) := fun hC e => by
    obtain ⟨c1, c2, c3⟩ := T.cl _ hC
    exact .base (.ins e c1 c2 T.b1 T.b2 c3)
  unfold tyS at h
  split at h
  · cases h
    cases r with
    | obj e n rf => exact ins (hc _ rfl) e
  · split at h
    · rename_i es
      cases h
      cases r
      obtain ⟨dx, vs, e, rf⟩ := l.sto _ _ es
      exact ins (hc _ rfl) e
    · cases h
  · cases e : tyN x with
    | none => rw [e] at h; cases h
    | some S =>
      rw [e] at h
      cases h
      exact tyx_of e r
section
variable {X : Cx} {F : Addr → Prop} {Wx : WX} {e : Expr} {es : List Expr} {pos p : Pos} {cs : List Str} {i : IA} {n : Nat} {x : Str}
def tyIn (cs : List Str) : Sum String Str → Bool
  | .inl _ => true
  | .inr C => decide (C ∈ cs)
def cOk : W → Bool
  | .ty _ => true
  | .glo _ => true
  | _ => false
/-- isinstance(x, c), c a class or a tuple of classes -/
def iIsi (cs : List Str) (i : IA) : IE := fun EI st Q => i EI st fun ws st1 => match ws with
  | [x, c] => (match tyS st1 x with
    | some t => tyIn cs t = true ∧ (match c with
      | .tup ds => ds.all cOk = true ∧ (match isAny cs t ds with
        | some b => Q (.bl b) st1
        | none => False)
      | c => (match isOne cs t c with
        | some b => Q (.bl b) st1
        | none => False))
    | none => False)
  | _ => False
def rIsis (K : PySem.W.Frag) : List V → Hp → VK → Prop := fun xs H Q => rIsi K xs H Q ∨ rIsiT K xs H Q ∨ rIsiK K xs H Q
theorem call_isis : CallR X (.builtin "isinstance") (rIsis X.K) := call_isi.or (call_isiT.or call_isiK)
theorem i_isiX (T : KitF X.K cs) (hm : X.mg "isinstance" = none) (ha : PA X (e :: es) (LA X.K F Wx n i)) (hg : Gl X "isinstance" := by rfl) (he : starEach (e :: es) X.env = (false, eval e X.env) :: starEach es X.env := by rfl) (hpl : (backTo pos (starEach es X.env)).any (·.1) = false := by rfl) :
    PE X (.Call (.Name "isinstance" p) (e :: es) [] pos) (LE X.K F Wx (iIsi cs i)) := by
  refine pe_imp (pe_callB call_isis hg hm boot_isi' ha (by decide) (by decide) he hpl) fun σ H Q h => ?_
  obtain ⟨st, QI, EI, l, q, ux, k⟩ := h
  refine ⟨st, _, EI, l, q, ux, fun ws st1 vs H1 hn q1 l1 s1 r1 => ?_⟩
  split at q1
  · rename_i x c
    cases r1 with
    | cons ra r1 =>
    cases r1 with
    | cons rc r1 =>
    cases r1
    split at q1
    · rename_i t et
      obtain ⟨ht, q1⟩ := q1
      have ty := tyS_ok T et (fun C e => by subst e; exact of_decide_eq_true ht) l1 ra
      split at q1
      · rename_i ds
        obtain ⟨hd, q1⟩ := q1
        split at q1
        · rename_i b eb
          have hd' : ∀ d ∈ ds, (∃ T, d = .ty T) ∨ ∃ m, d = .glo m := fun d hm => by
            have := List.all_eq_true.mp hd d hm
            cases d <;> first | exact .inl ⟨_, rfl⟩ | exact .inr ⟨_, rfl⟩ | cases this
          cases rc with
          | tup ft rt =>
            rcases ft with ⟨hr, _⟩ | ⟨o, its, m, h1, h2, h3, _, h4⟩
            · exact .inr (.inl ⟨_, _, _, _, _, b, rfl, hr, clsVs_of hd' rt, ty, isAny_ok T eb, k _ _ _ H1 q1 l1 s1 (.bl b)⟩)
            · obtain ⟨oc, od, dt, sl⟩ := o
              have h2' : oc = .type "tuple" := h2
              have h3' : dt = .seq its m := h3
              subst h2' h3'
              have e4 := ClsV.all (clsVs_of hd' rt) h4
              refine .inr (.inr ⟨_, _, od, its.toList, m, sl, _, b, rfl, ?_, ty, ?_, k _ _ _ H1 q1 l1 s1 (.bl b)⟩)
              · simpa using h1
              · rw [e4]; exact isAny_ok T eb
        · exact q1.elim
      · split at q1
        · rename_i b eb
          exact .inl ⟨_, _, _, _, b, rfl, clsV_of eb rc, ty, isOne_ok T eb, k _ _ _ H1 q1 l1 s1 (.bl b)⟩
        · exact q1.elim
    · exact q1.elim
  · exact q1.elim
/-- a def or a class of the module as a value -/
theorem i_glo (hm : X.mg x = some (.ref (ga X.K x))) (hg : Gl X x := by rfl) (hd : (x == ("__debug__" : Str)) = false := by decide) : PE X (.Name x pos) (LE X.K F Wx (iC (.glo x))) := by
  refine ⟨fun pins s σ H Q I h => ?_⟩
  obtain ⟨st, QI, EI, l, q, ux, k⟩ := h
  exact ld_glob I hg hm ⟨.ref (ga X.K x), H, I, rfl, k _ st _ H q l .refl (.glo x)⟩ hd
end
end Sh
namespace Sh
open PySem L2 HT
open PyProof.Rows hiding St
section
variable {prog : Program} {w : World} {A : Around} {E : Value → Shared → Prop} {s : Shared}
end
section
variable {X : Cx} {F : Addr → Prop} {Wx : WX} {a : Expr} {pos : Pos} {ia : IE}
def iRevT (ia : IE) : IE := fun EI st Q => ia EI st fun x st1 => match x with
  | .tup ws => Q (.tup ws.reverse) st1
  | _ => False
end
structure DfA (K : PySem.W.Frag) (mg : Str → Option Value) (x nm : Str) (s : Stmt) : Prop where
  ex : ∃ f fd, FunD K nm nm (defArgs s) (defBody s) (defScope s) [] [] f fd ∧ mg x = some (.ref f)
theorem calA {P : Program} {w : World} {K : PySem.W.Frag} {mg : Str → Option Value} {base : Heap} {x nm : Str} {k : Nat} {s : Stmt} {N ps : List Str} {ib : IS} (D : DfA K mg x nm s) (Sc : FnScope N ps (defScope s))
    (bd : ∀ (kV doc pm : Value) (an : Option Addr) (cdv ct : Value) (us : List Value), us.length = ps.length → bindArgs (PySem.W.fnOf nm nm (defArgs s) (defBody s) (defScope s) .none kV doc pm an cdv ct) ⟨us, []⟩ = pure (ps.zip us))
    (hb : ∀ (f : Addr) (cdv : Value) (A : Around) (outer : List Env) (s' : Shared) (H : Hp) (E : XK), Room k (A.deeper (envOfC nm (defScope s) s'.heap.objs.size f cdv)) → A.guards = some [] → ∀ (F : Addr → Prop) (Wx : WX), Takes (cxOf (L2.CX P w) P w K mg base N nm (defScope s) f cdv A outer s' H E) Wx →
      PSs (cxOf (L2.CX P w) P w K mg base N nm (defScope s) f cdv A outer s' H E) (defBody s) (LS K F Wx ib)) : Cal P w K mg base x (k + 1) ps.length (bodyI N.length ib) := by
  obtain ⟨f, fd, Fd, hm⟩ := D.ex
  exact ⟨f, fd, ps, fnI Fd Sc (hb f), hm, Fd.kp, Fd.bindsN bd⟩
end Sh
namespace Sh
open PySem L2
open PyProof.Rows hiding St
open He (ga ma)
section
variable {prog : Program} {w : World} {A : Around} {E : Value → Shared → Prop} {s : Shared} {K : PySem.W.Frag} {x C L f : Addr} {h₀ : Heap} {m : Str → Option Value} {ox : Obj} {od : Option Obj} {name : Str} {b tb : Value}
end
section
variable {X : Cx} {F : Addr → Prop} {Wx : WX} {a b c e o : Expr} {es : List Expr} {pos apos p : Pos} {ia ib ic : IE} {C : Str} {k' n : Nat} {spec : ISp} {i : IA}
def gOwn (neg : Bool) (C : Str) (spec : ISp) (st : Stt) (x y : W) (P : W → Stt → Prop) : Prop := objOf st x fun C1 _ => objOf st y fun C2 _ => C1 = C ∧ C2 = C ∧ spec [x, y] st.S (fun r S' => match r with
    | .val (.bl b) => P (.bl (neg ^^ b)) { st with S := S' }
    | _ => False) fun _ _ => False
def iEqM (neg : Bool) (C : Str) (spec : ISp) (ia ib : IE) : IE := fun EI st Q => ia EI st fun x st1 => ib EI st1 fun y st2 => gOwn neg C spec st2 x y Q
end
end Sh
namespace Sh
open PySem L2
open PyProof.Rows hiding St
section
variable {X : Cx} {F : Addr → Prop} {Wx : WX} {vs : List Nat} {a b c e tg : Expr} {es : List Expr} {pos p : Pos} {ia ib ic : IE}
def enumW (ws : List W) : List W := (List.range ws.length).map fun (i : Nat) => .tup [.int (i : Int), (ws[i]?).getD .non]
def lEnum (ia : IE) : IL := fun EI st Q => ia EI st fun x st1 => match x with
  | .lst ws => Q (enumW ws) st1
  | _ => False
def nRep (ia ib : IE) : IN := fun EI st Q => ia EI st fun x st1 => ib EI st1 fun y st2 => match x, y with
  | .lst ws, .int k => -(2 ^ 63) ≤ k ∧ k < 2 ^ 63 ∧ ws.length * k.toNat ≤ sizeLine ∧ Q (.lst (List.replicate k.toNat ws).flatten) st2
  | _, _ => False
end
end Sh
namespace Sh
open PySem L2
open PyProof.Rows hiding St
section
variable {X : Cx} {F : Addr → Prop} {Wx : WX} {a b c e f o : Expr} {es : List Expr} {pos apos cpos p : Pos} {ia ib ic : IE} {i : IA} {n : Nat}
/-- the value of a key -/
def valW (ws : List (Key × W)) (k : Key) : Option W := (ws.find? fun kv => decide (kv.1 = k)).map (·.2)
/-- d.get(k, x) -/
def iDGet2 (io ie id : IE) : IE := fun EI st Q => io EI st fun x st1 => match x with
  | .dct ws => ie EI st1 fun y st2 => id EI st2 fun z st3 => match y with
    | .int k => Q ((valW ws (.inl k)).getD z) st3
    | .str k => Q ((valW ws (.inr k)).getD z) st3
    | _ => False
  | _ => False
def putKW (kvs : List (Key × W)) (k : Key) (v : W) : List (Key × W) := if (kvs.any fun kv => decide (kv.1 = k)) = true then kvs.map (fun kv => if kv.1 = k then (kv.1, v) else kv) else kvs ++ [(k, v)]
def mergeW (kvs more : List (Key × W)) : List (Key × W) := more.foldl (fun acc kv => putKW acc kv.1 kv.2) kvs
theorem RelKs.any {K : PySem.W.Frag} {Lv : Addr → Prop} {H : Hp} {k : Key} : ∀ {ws : List (Key × W)} {vs : List (Key × V)}, RelKs K Lv H ws vs → (ws.any fun kv => decide (kv.1 = k)) = (vs.any fun kv => decide (kv.1 = k))
  | [], _, .nil => rfl
  | _ :: _, _, .cons _ rs => by rw [List.any_cons, List.any_cons, RelKs.any rs]
theorem RelKs.set {K : PySem.W.Frag} {Lv : Addr → Prop} {H : Hp} {k : Key} {w : W} {v : V} (r : RelW K Lv H w v) : ∀ {ws : List (Key × W)} {vs : List (Key × V)}, RelKs K Lv H ws vs → RelKs K Lv H (ws.map fun kv => if kv.1 = k then (kv.1, w) else kv) (vs.map fun kv => if kv.1 = k then (kv.1, v) else kv)
  | [], _, .nil => .nil
  | (j, _) :: _, _, .cons h rs => by
    rw [List.map_cons, List.map_cons]
    by_cases z : j = k
    · simp only [z, if_true]; exact .cons r (RelKs.set r rs)
    · simp only [z, if_false]; exact .cons h (RelKs.set r rs)
theorem RelKs.app {K : PySem.W.Frag} {Lv : Addr → Prop} {H : Hp} {ws' : List (Key × W)} {vs' : List (Key × V)} (r : RelKs K Lv H ws' vs') : ∀ {ws : List (Key × W)} {vs : List (Key × V)}, RelKs K Lv H ws vs → RelKs K Lv H (ws ++ ws') (vs ++ vs')
  | [], _, .nil => r
  | _ :: _, _, .cons h rs => .cons h (RelKs.app r rs)
theorem RelKs.put {K : PySem.W.Frag} {Lv : Addr → Prop} {H : Hp} {k : Key} {w : W} {v : V} {ws : List (Key × W)} {vs : List (Key × V)} (r : RelW K Lv H w v) (rs : RelKs K Lv H ws vs) : RelKs K Lv H (putKW ws k w) (putK vs k v) := by
  unfold putKW putK
  rw [rs.any]
  split
  · exact rs.set r
  · exact RelKs.app (.cons r .nil) rs
end
end Sh
namespace Sh
open PySem L2
open PyProof.Rows hiding St
structure CalS (P : Program) (w : World) (K : PySem.W.Frag) (mg : Str → Option Value) (base : Heap) (x : Str) (k : Nat) (spec : ISp) : Prop where
  ex : ∃ f, (∀ {n : Nat} {A : Around} {outer : List Env} {s : Shared} {H : Hp} {us : List Value} {vs : List V} {Q : VK} {E : XK}, Room k A → A.guards = some [] → Env0 P w K mg base A outer s H → Vals vs us → spI K n spec vs H Q E →
    codeAny (model P w) A (.call (.ref f) ⟨us, []⟩) (CR (L2.CX P w) outer P w H s Q E) s) ∧ mg x = some (.ref f) ∧ PySem.W.keepIn K (.ref f) = true
section
variable {P : Program} {w : World} {K : PySem.W.Frag} {mg : Str → Option Value} {base : Heap} {x : Str} {k n : Nat}
theorem CalS.spec {sp sp' : ISp} (C : CalS P w K mg base x k sp) (h : ∀ ws S Q E, sp' ws S Q E → sp ws S Q E) : CalS P w K mg base x k sp' := by
  obtain ⟨f, G, r⟩ := C.ex
  exact ⟨f, fun a b c d e => G a b c d (spI.imp h e), r⟩
end
section
variable {X : Cx} {F : Addr → Prop} {Wx : WX} {e : Expr} {es : List Expr} {pos p : Pos} {k' n : Nat} {spec : ISp} {x : Str} {i : IA}
end
end Sh
namespace Sh
open PySem L2
open PyProof.Rows hiding St
section
variable {X : Cx} {F : Addr → Prop} {Wx : WX} {vs : List Nat} {a b c e tg : Expr} {es : List Expr} {pos p px : Pos} {ia ib ic : IE} {x : Str}
def iAddO (i : Nat) (ib : IE) : IE := fun EI st Q => ownL st i fun _ => ib EI st fun y st1 => ownL st1 i fun ws => match y with
  | .lst us => ws.length + us.length ≤ sizeLine ∧ Q (.lst (ws ++ us)) st1
  | _ => False
end
def frzS : Slot → Slot
  | .own o => .val o.fz
  | x => x
def Stt.pk (st : Stt) : Stt := ⟨st.ρ.map frzS, fun _ => none⟩
mutual
def plainW : W → Bool
  | .int _ => true
  | .str _ => true
  | .bl _ => true
  | .non => true
  | .tup ws => plainWs ws
  | _ => false
def plainWs : List W → Bool
  | [] => true
  | w :: ws => plainW w && plainWs ws
end
section
variable {K : PySem.W.Frag} {F : Addr → Prop} {st : Stt} {σ : L2.St} {H H' : Hp} {Lv Lv' : Addr → Prop}
mutual
theorem RelW.plain (m : ∀ a vs, H a = some (.tup vs) → ¬ Lv a → ¬ Lv' a) : ∀ {w : W} {v : V}, RelW K Lv H w v → plainW w = true → RelW K Lv' H w v
  | _, _, .non, _ => .non
  | _, _, .bl b, _ => .bl b
  | _, _, .int i, _ => .int i
  | _, _, .str x, _ => .str x
  | _, _, .ty n, h => nomatch h
  | _, _, .ref a, h => nomatch h
  | _, _, .glo n, h => nomatch h
  | _, _, .tup f r, h => .tup (f.imp (fun z => ⟨z.1, m _ _ z.1 z.2⟩) id) (RelWs.plain m r h)
  | _, _, .lst _ _, h => nomatch h
  | _, _, .scr _, h => nomatch h
  | _, _, .dct _ _ _, h => nomatch h
  | _, _, .obj _ _ _, h => nomatch h
  | _, _, .dcT _ _ _, h => nomatch h
  | _, _, .exn0, h => nomatch h
  | _, _, .exn1 _ _ _, h => nomatch h
theorem RelWs.plain (m : ∀ a vs, H a = some (.tup vs) → ¬ Lv a → ¬ Lv' a) : ∀ {ws : List W} {vs : List V}, RelWs K Lv H ws vs → plainWs ws = true → RelWs K Lv' H ws vs
  | _, _, .nil, _ => .nil
  | _, _, .cons h r, p => .cons (RelW.plain m h (Bool.and_eq_true_iff.mp p).1) (RelWs.plain m r (Bool.and_eq_true_iff.mp p).2)
end
theorem Lk.ext (l : Lk K F st σ H) (e : ∀ a u, H a = some u → H' a = some u) : Lk K F st σ H' := by
  have m : Mv (Live F st σ) H (Live F st σ) H' := fun a u h n => ⟨e a u h, n⟩
  refine ⟨l.len, fun i w q => ?_, fun i o q => ?_, l.inj, fun a o q => (l.sto a o q).move (e a) m, fun a q => ?_, l.fdis⟩
  · obtain ⟨v, e1, r⟩ := l.val i w q
    exact ⟨v, e1, r.mono m⟩
  · obtain ⟨a, e1, r, n1, n2⟩ := l.own i o q
    exact ⟨a, e1, r.move (e a) m, n1, n2⟩
  · obtain ⟨u, z⟩ := l.ftr a q
    exact ⟨u, e a u z⟩
theorem pk_get {i : Nat} {x : Slot} (h : st.pk.ρ[i]? = some x) : (∃ o, st.ρ[i]? = some (.own o) ∧ x = .val o.fz) ∨ (st.ρ[i]? = some x ∧ ∀ o, x ≠ .own o) := by
  have h : (st.ρ.map frzS)[i]? = some x := h
  rw [List.getElem?_map] at h
  cases e : st.ρ[i]? with
  | none => rw [e] at h; cases h
  | some y =>
    rw [e] at h
    cases y with
    | own o => cases h; exact .inl ⟨o, rfl, rfl⟩
    | val w => cases h; exact .inr ⟨rfl, fun _ z => nomatch z⟩
    | none => cases h; exact .inr ⟨rfl, fun _ z => nomatch z⟩
theorem pk_wr {a : Addr} : ¬ Wr st.pk σ a := fun z => by
  rcases z with z | ⟨i, o, e, _⟩
  · exact z rfl
  · rcases pk_get e with ⟨_, _, q⟩ | ⟨_, q⟩
    · cases q
    · exact q o rfl
theorem Lk.pk (l : Lk K F st σ H) : Lk K F st.pk σ H := by
  have m : Mv (Live F st σ) H (Live F st.pk σ) H := mv_same fun a z => z.elim (fun z => (pk_wr z).elim) .inr
  refine ⟨?_, fun i w q => ?_, fun i o q => ?_, fun i j o o' a e => ?_, fun a o q => (nomatch q), l.ftr, fun _ _ => rfl⟩
  · rw [← l.len]; exact List.length_map ..
  · rcases pk_get q with ⟨o, e, q⟩ | ⟨e, _⟩
    · cases q
      obtain ⟨a, ea, ra, na, nf⟩ := l.own i o e
      exact ⟨.ref a, ea, (ra.move (fun _ z => z) m).fz fun z => z.elim (fun z => pk_wr z) nf⟩
    · obtain ⟨v, ev, r⟩ := l.val i w e
      exact ⟨v, ev, r.mono m⟩
  · rcases pk_get q with ⟨_, _, q⟩ | ⟨_, q⟩
    · cases q
    · exact (q o rfl).elim
  · rcases pk_get e with ⟨_, _, q⟩ | ⟨_, q⟩
    · cases q
    · exact (q o rfl).elim
theorem wr_no_tup (l : Lk K F st σ H) {a : Addr} {vs : List V} (h : H a = some (.tup vs)) : ¬ Wr st σ a := fun z => by
  have key : ∀ o, ¬ RelO K (Live F st σ) H a o := fun o r => by
    cases o with
    | lst ws => obtain ⟨xs, e, _⟩ := r; rw [h] at e; cases e
    | dct ws => obtain ⟨xs, e, _⟩ := r; rw [h] at e; cases e
    | dcT ws => obtain ⟨xs, e, _⟩ := r; rw [h] at e; cases e
    | tbl b d => obtain ⟨_, _, xs, e, _⟩ := r; rw [h] at e; cases e
    | ins C ws => obtain ⟨dx, xs, e, _⟩ := r; rw [h] at e; cases e
  rcases z with z | ⟨i, o, e1, e2⟩
  · cases e : st.S a with
    | none => exact z e
    | some o => exact key o (l.sto a o e)
  · obtain ⟨b, e3, r, _⟩ := l.own i o e1
    rw [e2] at e3
    cases e3
    exact key o r
end
section
variable {X : Cx} {F : Addr → Prop} {Wx : WX} {e : Expr} {ie : IE} {nn : IN}
def iPeek (ie : IE) : IE := fun _ st Q => ie (fun _ _ => False) st.pk fun w _ => plainW w = true ∧ Q w st
def nPeek (nn : IN) : IN := fun _ st Q => nn (fun _ _ => False) st.pk fun o _ => match o with
  | .lst ws => plainWs ws = true ∧ Q (.lst ws) st
  | _ => False
theorem n_peek (h : PE X e (LN X.K F Wx nn)) : PE X e (LN X.K F Wx (nPeek nn)) := pe_imp h fun σ H Q h => by
  obtain ⟨st, QI, EI, l, q, ux, k⟩ := h
  refine ⟨st.pk, _, _, l.pk, q, (fun _ _ _ _ _ z => z.elim), fun o st1 a H1 q1 l1 s1 r1 n1 => ?_⟩
  have ext : ∀ a u, H a = some u → H1 a = some u := fun a u e => s1.keep a u e pk_wr
  have l2 := l.ext ext
  have ha : H a = none := n1.elim (fun z => (pk_wr z).elim) id
  have na : ¬ Live F st σ a := l.fresh ha
  have m : Mv (Live F st σ) H (Live (FA F a) st σ) H1 := fun b u e n => ⟨ext b u e, fun z => z.elim (fun z => n (.inl z)) fun z => z.elim (fun z => n (.inr z)) fun z => by rw [z, ha] at e; cases e⟩
  have l3 : Lk X.K (FA F a) st σ H1 := by
    refine ⟨l.len, fun i w q => ?_, fun i o q => ?_, l.inj, fun b o q => (l.sto b o q).move (ext b) m, fun b q => ?_, fun b z => ?_⟩
    · obtain ⟨v, e1, r⟩ := l.val i w q
      exact ⟨v, e1, r.mono m⟩
    · obtain ⟨b, e1, r, n1, n2⟩ := l.own i o q
      refine ⟨b, e1, r.move (ext b) m, n1, fun z => z.elim n2 fun z => ?_⟩
      obtain ⟨u, e⟩ := r.at
      rw [z, ha] at e; cases e
    · rcases q with q | q
      · obtain ⟨u, z⟩ := l.ftr b q
        exact ⟨u, ext b u z⟩
      · rw [q]; exact r1.at
    · rcases z with z | z
      · exact l.fdis b z
      · cases e : st.S b with
        | none => rfl
        | some o =>
          obtain ⟨u, e2⟩ := (l.sto b o e).at
          rw [z, ha] at e2; cases e2
  cases o with
  | lst ws =>
    obtain ⟨vs, hv, rs⟩ := r1
    exact k (.lst ws) st a H1 q1.2 l3 ⟨fun a u e _ => ext a u e, fun _ z => .inl z⟩ ⟨vs, hv, rs.plain (fun b us hh nl z => z.elim (wr_no_tup l3 hh) fun z => nl (.inr z)) q1.1⟩ (.inr ha)
  | dct ws => exact q1.elim
  | dcT ws => exact q1.elim
  | tbl b d => exact q1.elim
  | ins C ws => exact q1.elim
end
end Sh
namespace Sh
open PySem L2
open PyProof.Rows hiding St
section
variable {X : Cx} {F : Addr → Prop} {Wx : WX} {a b c e : Expr} {es : List Expr} {pos : Pos} {ia ib ic : IE} {nn : IN}
theorem op_notB {X : Cx} : OpR X (compareOp .IsNot) (fun x y H Q => ∃ b, y = .bl b ∧ (∀ n, x ≠ .ty n) ∧ Q (.bl (!decide (x = .bl b))) H) := by
  intro pins s σ H x y v u Q I rx ry h
  obtain ⟨b, rfl, ht, q⟩ := h
  cases (show u = Value.bool b from ry)
  have key : plainIs v (.bool b) = true ∧ (v == Value.bool b) = decide (x = .bl b) := by
    cases x <;> first
      | (cases rx; refine ⟨rfl, ?_⟩; first | rfl | (rename_i c; cases c <;> cases b <;> rfl))
      | (obtain ⟨t, rfl⟩ := rx; exact ⟨rfl, rfl⟩)
      | exact absurd rfl (ht _)
  refine wpAny_isNot_plain key.1 ?_
  rw [key.2]
  exact ⟨.bl _, H, I, rfl, q⟩
def isB (b : Bool) : W → Bool
  | .bl c => c == b
  | _ => false
def gIsB (neg : Bool) : W → W → (W → Prop) → Prop := fun x y P => match x, y with
  | .ty _, _ => False
  | x, .bl b => P (.bl (if neg then !isB b x else isB b x))
  | _, _ => False
theorem isB_rel {K : PySem.W.Frag} {Lv : Addr → Prop} {H : Hp} {w : W} {v : V} {b : Bool} (r : RelW K Lv H w v) : decide (v = .bl b) = isB b w := by
  cases r <;> first | rfl | (rename_i c; cases c <;> cases b <;> rfl)
theorem gIsB_inv {neg : Bool} {x y : W} {P : W → Prop} (h : gIsB neg x y P) : ∃ b, y = .bl b ∧ (∀ n, x ≠ .ty n) ∧ P (.bl (if neg then !isB b x else isB b x)) := by
  cases x <;> cases y <;> first | exact h.elim | exact ⟨_, rfl, (fun _ z => nomatch z), h⟩
theorem rel_nty {K : PySem.W.Frag} {Lv : Addr → Prop} {H : Hp} {w : W} {v : V} (r : RelW K Lv H w v) (h : ∀ n, w ≠ .ty n) (n : String) : v ≠ .ty n := by
  cases r <;> first | exact (h _ rfl).elim | exact fun z => nomatch z
theorem og_notB {K : PySem.W.Frag} : OpG K (fun x y H Q => ∃ b, y = .bl b ∧ (∀ n, x ≠ .ty n) ∧ Q (.bl (!decide (x = .bl b))) H) (gIsB true) := by
  intro F st σ H x y v u P Q h l rx ry k
  obtain ⟨b, rfl, ht, p⟩ := gIsB_inv h
  cases ry
  refine ⟨b, rfl, rel_nty rx ht, ?_⟩
  rw [isB_rel rx]
  exact k _ _ H p l .refl (.bl _)
theorem t_isnotB (ha : PE X a (LE X.K F Wx ia)) (hb : PE X b (LE X.K F Wx ib)) : PT X (.Compare a [.IsNot] [b] pos) (LT X.K F Wx (tBl (iB (gIsB true) ia ib))) := t_cmp op_notB og_notB ha hb (nomark _)

inductive It where
  | e (i : IE) | n (i : IN)
def iItems : List It → XI → Stt → (List R → Stt → Prop) → Prop
  | [], _, st, Q => Q [] st
  | .e i :: r, EI, st, Q => i EI st fun w st1 => iItems r EI st1 fun rs st2 => Q (.val w :: rs) st2
  | .n i :: r, EI, st, Q => i EI st fun o st1 => iItems r EI st1 fun rs st2 => Q (.new o :: rs) st2
def R.slot : R → Slot
  | .val w => .val w
  | .new o => .own o
def putsR (st : Stt) : List Nat → List R → Stt
  | i :: is, r :: rs => putsR (st.put i r.slot) is rs
  | _, _ => st
def sParM (is : List Nat) (its : List It) : IS := fun EI D st => iItems its EI st fun rs st1 => D.nx (putsR st1 is rs)
def FAs (F : Addr → Prop) : List Addr → Addr → Prop
  | [] => F
  | a :: as => FA (FAs F as) a
theorem FAs_iff {F : Addr → Prop} {b : Addr} : ∀ {as : List Addr}, FAs F as b ↔ F b ∨ b ∈ as
  | [] => by simp [FAs]
  | a :: as => by
    show FAs F as b ∨ b = a ↔ _
    rw [FAs_iff (as := as), List.mem_cons]
    constructor
    · rintro ((h | h) | h)
      · exact .inl h
      · exact .inr (.inr h)
      · exact .inr (.inl h)
    · rintro (h | h | h)
      · exact .inl (.inl h)
      · exact .inr h
      · exact .inl (.inr h)
inductive RelRs (K : PySem.W.Frag) (Lv : Addr → Prop) (H : Hp) : List R → List V → List Addr → Prop
  | nil : RelRs K Lv H [] [] []
  | val {w : W} {v : V} {rs : List R} {vs : List V} {as : List Addr} : RelW K Lv H w v → RelRs K Lv H rs vs as → RelRs K Lv H (.val w :: rs) (v :: vs) as
  | new {o : SO} {a : Addr} {rs : List R} {vs : List V} {as : List Addr} : RelO K Lv H a o → a ∉ as → RelRs K Lv H rs vs as → RelRs K Lv H (.new o :: rs) (.ref a :: vs) (a :: as)
theorem RelRs.mono {K : PySem.W.Frag} {Lv Lv' : Addr → Prop} {H H' : Hp} {rs : List R} {vs : List V} {as : List Addr} (r : RelRs K Lv H rs vs as) (m : Mv Lv H Lv' H') (k : ∀ a ∈ as, ∀ u, H a = some u → H' a = some u) : RelRs K Lv' H' rs vs as := by
  induction r with
  | nil => exact .nil
  | val rw' _ ih => exact .val (rw'.mono m) (ih k)
  | new ro n _ ih => exact .new (ro.move (k _ (List.mem_cons_self ..)) m) n (ih fun b hb => k b (List.mem_cons_of_mem _ hb))
theorem RelRs.len {K : PySem.W.Frag} {Lv : Addr → Prop} {H : Hp} {rs : List R} {vs : List V} {as : List Addr} (r : RelRs K Lv H rs vs as) : vs.length = rs.length := by
  induction r with
  | nil => rfl
  | val _ _ ih => simp [ih]
  | new _ _ _ ih => simp [ih]
def LM (K : PySem.W.Frag) (F : Addr → Prop) (Wx : WX) (its : List It) : TA := fun σ H Q => ∃ st QI EI, Lk K F st σ H ∧ iItems its EI st QI ∧ UpX K F Wx st σ H EI ∧
  ∀ rs st' vs as H', rs.length = its.length → QI rs st' → Lk K (FAs F as) st' σ H' → Step st σ H st' σ H' → RelRs K (Live (FAs F as) st' σ) H' rs vs as → (∀ a ∈ as, NewAt st σ H a) → Q vs H'
theorem mv_news {st st1 : Stt} {σ : L2.St} {H H1 : Hp} {as : List Addr} (s : Step st σ H st1 σ H1) (n : ∀ a ∈ as, NewAt st σ H a) : Mv (Live F st σ) H (Live (FAs F as) st1 σ) H1 := fun b u e nl =>
  ⟨s.keep b u e fun z => nl (.inl z), fun z => by
    rcases z with z | z
    · rcases s.new b z with z | z
      · exact nl (.inl z)
      · rw [e] at z; cases z
    · rcases FAs_iff.mp z with z | z
      · exact nl (.inr z)
      · rcases n b z with z | z
        · exact nl (.inl z)
        · rw [e] at z; cases z⟩
theorem pm_nil : PA X [] (LM X.K F Wx []) := pa_imp pa_nil fun σ H Q h => by
  obtain ⟨st, QI, EI, l, q, ux, k⟩ := h
  exact k [] st [] [] H rfl q l .refl .nil fun _ z => nomatch z
theorem pm_e {i : IE} {its : List It} (ha : PE X e (LE X.K F Wx i)) (hr : PA X es (LM X.K F Wx its)) (hs : starEach (e :: es) X.env = (false, eval e X.env) :: starEach es X.env := by rfl) : PA X (e :: es) (LM X.K F Wx (.e i :: its)) := pa_imp (pa_cons ha hr hs) fun σ H Q h => by
  obtain ⟨st, QI, EI, l, q, ux, k⟩ := h
  refine ⟨st, _, EI, l, q, ux, fun w st1 v H1 q1 l1 s1 r1 => ⟨st1, _, EI, l1, q1, ux.step s1, fun rs st2 vs as H2 hl q2 l2 s2 r2 n2 => ?_⟩⟩
  exact k (.val w :: rs) st2 (v :: vs) as H2 (by simp [hl]) q2 l2 (s1.trans s2) (.val (r1.mono (mv_news s2 n2)) r2) fun a h => (n2 a h).step s1
theorem pm_n {i : IN} {its : List It} (ha : PE X e (LN X.K F Wx i)) (hr : ∀ a, PA X es (LM X.K (FA F a) Wx its)) (hs : starEach (e :: es) X.env = (false, eval e X.env) :: starEach es X.env := by rfl) : PA X (e :: es) (LM X.K F Wx (.n i :: its)) := by
  have hr' : PA X es (fun σ H Q => ∃ a, LM X.K (FA F a) Wx its σ H Q) := ⟨fun pos pins s σ H Q I ⟨a, q⟩ => (hr a).run pos pins s σ H Q I q⟩
  refine pa_imp (pa_cons ha hr' hs) fun σ H Q h => ?_
  obtain ⟨st, QI, EI, l, q, ux, k⟩ := h
  refine ⟨st, _, EI, l, q, ux, fun o st1 a H1 q1 l1 s1 r1 n1 => ⟨a, st1, _, EI, l1, q1, (ux.step s1).more fun _ z => .inl z, fun rs st2 vs as H2 hl q2 l2 s2 r2 n2 => ?_⟩⟩
  have nw : ¬ Wr st1 σ a := fun z => by
    rcases z with z | ⟨j, o', e1, e2⟩
    · exact z (l1.fdis a (.inr rfl))
    · obtain ⟨b, e3, _, _, n3⟩ := l1.own j o' e1
      rw [e2] at e3
      cases e3
      exact n3 (.inr rfl)
  obtain ⟨u, hu⟩ := r1.at
  have na : a ∉ as := fun z => by
    rcases n2 a z with z | z
    · exact nw z
    · rw [hu] at z; cases z
  have sub : ∀ b, FAs F (a :: as) b → FAs (FA F a) as b := fun b z => by
    rw [FAs_iff] at z ⊢
    rcases z with z | z
    · exact .inl (.inl z)
    · rcases List.mem_cons.mp z with z | z
      · exact .inl (.inr z)
      · exact .inr z
  have m3 : Mv (Live (FAs (FA F a) as) st2 σ) H2 (Live (FAs F (a :: as)) st2 σ) H2 := mv_same fun b z => z.imp id (sub b)
  have ro : RelO X.K (Live (FAs (FA F a) as) st2 σ) H2 a o := r1.move (fun u e => s2.keep a u e nw) (mv_news s2 n2)
  refine k (.new o :: rs) st2 (.ref a :: vs) (a :: as) H2 (by simp [hl]) q2 (l2.less sub) (s1.trans s2) (.new (ro.move (fun _ z => z) m3) na (r2.mono m3 fun _ _ _ z => z)) fun b hb => ?_
  rcases List.mem_cons.mp hb with rfl | hb
  · exact n1
  · exact (n2 b hb).step s1
def putsV (σ : L2.St) : List Nat → List V → L2.St
  | i :: is, v :: vs => putsV (σ.set i (some v)) is vs
  | _, _ => σ
theorem mv_keepNew {F' : Addr → Prop} {st : Stt} {σ : L2.St} {H : Hp} {i : Nat} {o : SO} {a : Addr} (l : st.ρ.length = σ.length) : Mv (Live (FA F' a) st σ) H (Live F' (st.put i (.own o)) (σ.set i (some (.ref a)))) H := fun b u e n => ⟨e, fun z => n (by
  rcases z with (z | ⟨j, o', e1, e2⟩) | z
  · exact .inl (.inl z)
  · rcases get_set e1 with ⟨rfl, _, hb⟩ | ⟨nj, e1⟩
    · rw [set_get (by rw [← l]; exact hb)] at e2
      cases e2
      exact .inr (.inr rfl)
    · rw [List.getElem?_set_ne (Ne.symm nj)] at e2
      exact .inl (.inr ⟨j, o', e1, e2⟩)
  · exact .inr (.inl z))⟩
theorem puts_lk {K : PySem.W.Frag} {st0 : Stt} {σ0 : L2.St} {H0 H : Hp} (l0 : Lk K F st0 σ0 H0) {rs : List R} : ∀ {is : List Nat} {vs : List V} {as : List Addr} {st : Stt} {σ : L2.St}, is.length = rs.length → Lk K (FAs F as) st σ H → Step st0 σ0 H0 st σ H →
    RelRs K (Live (FAs F as) st σ) H rs vs as → (∀ a ∈ as, NewAt st0 σ0 H0 a) → Lk K F (putsR st is rs) (putsV σ is vs) H ∧ Step st0 σ0 H0 (putsR st is rs) (putsV σ is vs) H := by
  induction rs with
  | nil =>
    intro is vs as st σ hl l s r n
    cases r
    cases is with
    | nil => exact ⟨l, s⟩
    | cons i is => cases hl
  | cons x rs ih =>
    intro is vs as st σ hl l s r n
    match is, hl with
    | i :: is, hl =>
    cases r with
    | val rw' rr => exact ih (by simpa using hl) (l.put rw') (s.trans Step.put) (rr.mono Step.put.mv fun _ _ _ z => z) n
    | @new o a rs' vs' as' ro na rr =>
      have nF : ¬ FAs F as' a := fun z => by
        rcases FAs_iff.mp z with z | z
        · exact NewAt.nf l0 (n a (List.mem_cons_self ..)) z
        · exact na z
      exact ih (by simpa using hl) (l.keepNew ro nF) (Step.keepNew l.len s (n a (List.mem_cons_self ..))) (rr.mono (mv_keepNew l.len) fun _ _ _ z => z) fun b hb => n b (List.mem_cons_of_mem _ hb)
theorem parM_of {K : PySem.W.Frag} {is : List Nat} {its : List It} {D : Ends} {σ : L2.St} {H : Hp} (hl : is.length = its.length) (h : LS K F Wx (sParM is its) D σ H) : LM K F Wx its σ H fun vs H1 => vs.length = is.length ∧ D.nx (putsV σ is vs) H1 := by
  obtain ⟨st, DI, EI, l, q, u⟩ := h
  refine ⟨st, _, EI, l, q, u.x, fun rs st1 vs as H1 hr q1 l1 s1 r1 n1 => ?_⟩
  obtain ⟨l2, s2⟩ := puts_lk (is := is) l (by rw [hl, hr]) l1 s1 r1 n1
  exact ⟨by rw [r1.len, hl, hr], u.nx _ _ H1 q1 l2 s2⟩
theorem s_parM3 (i j k : Nat) {its : List It} {x y z : Str} {px py pz pt : Pos} {kt k2 pt2} (hN : X.N.Nodup) (ha : PA X [a, b, c] (LM X.K F Wx its)) (hi : X.N[i]? = some x := by rfl) (hj : X.N[j]? = some y := by rfl) (hk : X.N[k]? = some z := by rfl)
    (hij : i ≠ j := by decide) (hik : i ≠ k := by decide) (hjk : j ≠ k := by decide)
    (hx : X.env.scope.names.lookup x = some .local := by rfl) (hy : X.env.scope.names.lookup y = some .local := by rfl) (hz : X.env.scope.names.lookup z = some .local := by rfl) (hc : X.calm = true := by rfl)
    (hw : swappedStores [.Tuple [.Name x px, .Name y py, .Name z pz] kt pt] (.Tuple [a, b, c] k2 pt2) X.env = pure (some [x, y, z]) := by rfl)
    (hs : swapsWithSole [.Tuple [.Name x px, .Name y py, .Name z pz] kt pt] (.Tuple [a, b, c] k2 pt2) pos.line X.env = pure false := by rfl) (hl : [i, j, k].length = its.length := by rfl) :
    PS X (.Assign [.Tuple [.Name x px, .Name y py, .Name z pz] kt pt] (.Tuple [a, b, c] k2 pt2) pos) (LS X.K F Wx (sParM [i, j, k] its)) := by
  have ha' : PA X [a, b, c] (fun σ H Q => LM X.K F Wx its σ H Q) := ha
  refine ps_imp (ps_par3 hc hN hi hj hk hij hik hjk hx hy hz ha' hw hs) fun D σ H h => ?_
  obtain ⟨st, QI, EI, l, q, ux, k⟩ := parM_of hl h
  refine ⟨st, QI, EI, l, q, ux, fun rs st1 vs as H1 hr q1 l1 s1 r1 n1 => ?_⟩
  obtain ⟨e, q2⟩ := k rs st1 vs as H1 hr q1 l1 s1 r1 n1
  match vs, e with
  | [v, w, y], _ => exact ⟨v, w, y, rfl, q2⟩
end
end Sh
namespace Sh
open PySem L2
open PyProof.Rows hiding St
section
variable {X : Cx} {F : Addr → Prop} {Wx : WX} {a b c e f o : Expr} {es : List Expr} {pos apos cpos p : Pos} {ia ib ic : IE} {i : IA} {n : Nat} {x : Str}
def iPairs : List (IE × IE) → XI → Stt → (List (W × W) → Stt → Prop) → Prop
  | [], _, st, Q => Q [] st
  | (ik, iv) :: r, EI, st, Q => ik EI st fun k st1 => iv EI st1 fun v st2 => iPairs r EI st2 fun ps st3 => Q ((k, v) :: ps) st3
def keyW : W → Option Key
  | .int i => some (.inl i)
  | .str s => some (.inr s)
  | _ => none
def keysW : List (W × W) → Option (List (Key × W))
  | [] => some []
  | (k, v) :: r => match keyW k, keysW r with
    | some k, some r => some ((k, v) :: r)
    | _, _ => none
def nDisp (its : List (IE × IE)) : IN := fun EI st Q => iPairs its EI st fun ps st1 => match keysW ps with
  | some kvs => Q (.dct (mergeW [] kvs)) st1
  | none => False
def nDNew : IN := fun _ st Q => Q (.dct []) st
theorem n_dnew : PE X (.Dict [] [] pos) (LN X.K F Wx nDNew) := by
  refine pe_imp pe_dnewK fun σ H Q h => ?_
  obtain ⟨st, QI, EI, l, q, ux, k⟩ := h
  intro p hp
  exact k (.dct []) st p _ q (l.foreign hp) (Step.laid l hp) ⟨[], upd_same, .nil⟩ (.inr hp)
/-- pairs of values, related -/
inductive RelPs (K : PySem.W.Frag) (Lv : Addr → Prop) (H : Hp) : List (W × W) → List (V × V) → Prop
  | nil : RelPs K Lv H [] []
  | cons {k v : W} {kv vv : V} {ws : List (W × W)} {vs : List (V × V)} : RelW K Lv H k kv → RelW K Lv H v vv → RelPs K Lv H ws vs → RelPs K Lv H ((k, v) :: ws) ((kv, vv) :: vs)
theorem RelPs.len {K : PySem.W.Frag} {Lv : Addr → Prop} {H : Hp} {ws : List (W × W)} {vs : List (V × V)} (r : RelPs K Lv H ws vs) : vs.length = ws.length := by
  induction r with
  | nil => rfl
  | cons _ _ _ ih => simp [ih]
theorem lay_new {K : PySem.W.Frag} {st : Stt} {σ : L2.St} {H : Hp} {ws : List W} {vs : List V} {p : Addr} (l : Lk K F st σ H) (r : RelWs K (Live F st σ) H ws vs) (hp : H p = none) :
    Lk K (FA F p) st σ (upd H p (.lst vs)) ∧ Step st σ H st σ (upd H p (.lst vs)) ∧ RelO K (Live (FA F p) st σ) (upd H p (.lst vs)) p (.lst ws) ∧ NewAt st σ H p :=
  ⟨l.foreign hp, Step.laid l hp, ⟨vs, upd_same, r.mono (mv_foreign l hp)⟩, .inr hp⟩
def BtN (K : PySem.W.Frag) (r : List V → Hp → VK → Prop) (g : List W → (SO → Prop) → Prop) : Prop :=
  ∀ {F : Addr → Prop} {st : Stt} {σ : L2.St} {H : Hp} {ws : List W} {vs : List V} {P : SO → Prop} {Q : VK}, g ws P → Lk K F st σ H → RelWs K (Live F st σ) H ws vs →
    (∀ o a H', P o → Lk K (FA F a) st σ H' → Step st σ H st σ H' → RelO K (Live (FA F a) st σ) H' a o → NewAt st σ H a → Q (.ref a) H') → r vs H Q
def nFn (g : List W → (SO → Prop) → Prop) (i : IA) : IN := fun EI st Q => i EI st fun ws st1 => g ws fun o => Q o st1
theorem fn_new {K : PySem.W.Frag} {r : List V → Hp → VK → Prop} {g : List W → (SO → Prop) → Prop} (hg : BtN K r g) {σ : L2.St} {H : Hp} {Q : VK} (h : LN K F Wx (nFn g i) σ H Q) : tCB r (LA K F Wx n i) σ H Q := by
  obtain ⟨st, QI, EI, l, q, ux, k⟩ := h
  refine ⟨st, _, EI, l, q, ux, fun ws st1 vs H1 hn q1 l1 s1 r1 => ?_⟩
  exact hg q1 l1 r1 fun o a H2 p l2 s2 r2 n2 => k o st1 a H2 p l2 (s1.trans s2) r2 (n2.step s1)
theorem n_ty {T : String} {r : List V → Hp → VK → Prop} {g : List W → (SO → Prop) → Prop} (hc : CallR X (.type T) r) (hgf : BtN X.K r g) (hm : X.mg x = none) (hv : bootBuiltins x = some (.type T)) (ha : PA X (e :: es) (LA X.K F Wx n i)) (hg : Gl X x := by rfl) (hn : x ≠ "__name__" := by decide)
    (hdb : (x == ("__debug__" : Str)) = false := by decide) (he : starEach (e :: es) X.env = (false, eval e X.env) :: starEach es X.env := by rfl) (hpl : (backTo pos (starEach es X.env)).any (·.1) = false := by rfl) : PE X (.Call (.Name x p) (e :: es) [] pos) (LN X.K F Wx (nFn g i)) :=
  pe_imp (pe_callTy hc hg hm hv ha hn hdb he hpl) fun _ _ _ h => fn_new hgf h
def gListN : List W → (SO → Prop) → Prop := fun ws P => match ws with
  | [.lst ys] => P (.lst ys)
  | [.tup ys] => P (.lst ys)
  | _ => False
theorem bn_list {K : PySem.W.Frag} : BtN K (fun xs H Q => ∃ p ys, xs = [.ref p] ∧ (SqL K H p ys ∨ SqT K H p ys) ∧ ∀ l, H l = none → Q (.ref l) (upd H l (.lst ys))) gListN := by
  intro F st σ H ws vs P Q h l r k
  have key : ∀ (ys : List W) (us : List V), RelWs K (Live F st σ) H ys us → P (.lst ys) → ∀ q, H q = none → Q (.ref q) (upd H q (.lst us)) := fun ys us rs p q hq => by
    obtain ⟨l2, s2, r2, n2⟩ := lay_new l rs hq
    exact k _ _ _ p l2 s2 r2 n2
  unfold gListN at h
  split at h
  · cases r with
    | cons r1 r2 =>
      cases r2
      cases r1 with
      | lst f rs => exact ⟨_, _, rfl, .inl f.sq, key _ _ rs h⟩
  · cases r with
    | cons r1 r2 =>
      cases r2
      cases r1 with
      | tup f rs => exact ⟨_, _, rfl, .inr f.sq, key _ _ rs h⟩
  · exact h.elim
theorem n_list (hm : X.mg "list" = none) (ha : PA X (e :: es) (LA X.K F Wx n i)) (hg : Gl X "list" := by rfl) (he : starEach (e :: es) X.env = (false, eval e X.env) :: starEach es X.env := by rfl) (hpl : (backTo pos (starEach es X.env)).any (·.1) = false := by rfl) :
    PE X (.Call (.Name "list" p) (e :: es) [] pos) (LN X.K F Wx (nFn gListN i)) := n_ty call_list_of bn_list hm boot_list' ha hg (by decide) (by decide) he hpl
/-- list(range(a)), a new one -/
def nListRg (ia : IE) : IN := fun EI st Q => ia EI st fun x st1 => match x with
  | .int j => 0 ≤ j ∧ j ≤ 16777216 ∧ Q (.lst (rng 0 j.toNat)) st1
  | _ => False
/-- tuple(range(a)) -/
def iTupRg (ia : IE) : IE := fun EI st Q => ia EI st fun x st1 => match x with
  | .int j => 0 ≤ j ∧ j ≤ 16777216 ∧ Q (.tup (rng 0 j.toNat)) st1
  | _ => False
/-- a new object, by a condition -/
def nIf (t : IT) (na nb : IN) : IN := fun EI st Q => t EI st fun c st1 => if c = true then na EI st1 Q else nb EI st1 Q
theorem n_if {ta : IT} {na nb : IN} (hc : PT X c (LT X.K F Wx ta)) (ha : PE X a (LN X.K F Wx na)) (hb : PE X b (LN X.K F Wx nb)) : PE X (.IfExp c a b pos) (LN X.K F Wx (nIf ta na nb)) := by
  refine pe_imp (pe_ifExp hc ha hb) fun σ H Q h => ?_
  obtain ⟨st, QI, EI, l, q, ux, k⟩ := h
  refine ⟨st, _, EI, l, q, ux, fun c st1 H1 q1 l1 s1 => ?_⟩
  cases c with
  | true =>
    rw [if_pos rfl] at q1 ⊢
    exact ⟨st1, _, EI, l1, q1, ux.step s1, fun o st2 a H2 q2 l2 s2 r2 n2 => k o st2 a H2 q2 l2 (s1.trans s2) r2 (n2.step s1)⟩
  | false =>
    rw [if_neg Bool.false_ne_true] at q1 ⊢
    exact ⟨st1, _, EI, l1, q1, ux.step s1, fun o st2 a H2 q2 l2 s2 r2 n2 => k o st2 a H2 q2 l2 (s1.trans s2) r2 (n2.step s1)⟩
end
end Sh
namespace Sh
open PySem L2
open PyProof.Rows hiding St
section
open PySem.W PySem.Calls
variable {prog : Program} {w : World} {A : Around} {R : Result → Shared → Prop} {hp : Heap} {g : Array GenState} {d : Drawn} {t : Nat} {os : OsState} {K : Frag} {mg mb : Str → Option Value} {C e t0 fI : Addr} {u : Value} {x : Str}
end
section
variable {X : Cx} {F : Addr → Prop} {Wx : WX} {a b c e : Expr} {es : List Expr} {pos p : Pos} {ta : TA} {x : Str} {C fI : Addr} {f : Str}
end
end Sh
namespace Sh
open PySem L2 PySem.Spec
open PyProof.Rows hiding St
section
variable {X : Cx} {x n : Str} {c : Value} {i : Nat} {body suite : List Stmt} {b₀ : Stmt} {np pos pos' : Pos} {tb : WX → TS} {ts : Addr → Value → Option Addr → TS} {Wo : WX}
/-- what the clause does with an exception in the air -/
theorem as_caught {pins : List (Addr × Obj)} {D : Ends} {xe : Value → Shared → Prop} {u : Value} {s2 : Shared} (ok : X.Ok) (st : X.stack = X.env :: X.outer) (fr : X.env.frame = some X.env.locals) (nd : X.N.Nodup) (ni : X.N[i]? = some n) (kl : X.env.kindOf n = some .local) (cn : Names X x c) (tk : Takes X Wo)
    (su : ∀ (a : Addr) (oe : Obj) (cls : Value) (d : Option Addr) (pn : List (Addr × Obj)), Zc cls d oe → (∃ vs, oe.data = .fields vs) → PSs (X.suite a ((a, oe) :: pn)) (b₀ :: suite) (ts a cls d))
    (air : XE (X.tr (X.pn ++ pins) xe) (wAs X.K c i ts Wo D) u s2) :
    wpAny (model X.prog X.w) X.A (noteFrame u X.env) (fun _ s3 => wpAny (model X.prog X.w) X.A (setFlight u none) (fun _ s4 => wpAny (model X.prog X.w) X.A (handleBy u X.env [.ExceptHandler (some (.Name x np)) (some n) (b₀ :: suite) pos']) (SP X pins D) X.xe s4) X.xe s3) X.xe s2 := by
  have frames : X.A.frames = some (X.env :: X.outer) := ok.frames.trans (congrArg some st)
  obtain ⟨a, B, s1, ps1, σ1, H1, cls, d, rfl, I1, nb, up1, sky1, na, os1, ag1, hit, e1, yes, no⟩ := air
  have I2 : Inv X pins σ1 H1 s1 := I1.ofTry ok
  have sky2 : Sky B (X.env :: X.outer) a (Zc cls d) X.env.locals s2.heap := st ▸ sky1
  refine Sky.land Zc.steady frames fr sky2 fun h3 fl3 up3 => ?_
  have I3 : Inv X pins σ1 H1 { s2 with heap := h3 } := I2.landed nb fl3.1 (up1.trans up3) os1 ag1
  obtain ⟨o3, v3, g3, z3, d3⟩ := fl3.there
  have out : a ∉ frs (X.env :: X.outer) := fun hm => by
    obtain ⟨_, o', e', nf⟩ := fl3.2.2.1.mem hm
    have := g3.symm.trans e'
    cases this
    exact nf _ d3
  have n1 : a ≠ X.env.locals := fun z => out (List.mem_filterMap.mpr ⟨X.env, List.mem_cons_self, fr.trans (congrArg some z.symm)⟩)
  have n2 : a ∉ X.fs := fun hm => by
    obtain ⟨ev, hv, q⟩ := List.mem_filterMap.mp hm
    exact out (List.mem_filterMap.mpr ⟨ev, List.mem_cons_of_mem _ hv, q⟩)
  have J3 := I3.suite g3 d3 na n1 n2
  refine wpAny_handleBy_cons (codeAny_handlers_test ?_) fun q => nomatch q
  have lk1 : PySem.W.Looks (model X.prog X.w) h3 (typeOf (.ref a)) cls := fun _ _ _ _ k q => wpAny_typeOf_ref (k _ _ g3) (z3.1 ▸ q)
  have lk2 := PySem.W.exm_one (M := model X.prog X.w) I3.kIn lk1 e1
  have name : ∀ {Q : Value → Shared → Prop} {E : Value → Shared → Prop}, Q c { s2 with heap := h3 } → wpAny (model X.prog X.w) (X.A.mark (some (.ref a))) (eval (.Name x np) X.env) Q E { s2 with heap := h3 } := fun {Q E} q => by
    rcases cn with ⟨gl, db, m | ⟨m, v, nn⟩⟩
    · exact ld_glob (X := X.suite a ((a, o3) :: (X.pn ++ pins))) J3 gl m q db
    · exact ld_blt (X := X.suite a ((a, o3) :: (X.pn ++ pins))) J3 gl m v q nn db
  refine name (lk2.here ?_)
  cases hit with
  | true =>
    refine codeAny_handlers_suite_as (HandSPX.lands_againZ fl3 fun h4 fl4 up4 => ?_)
    have I4 : Inv X pins σ1 H1 { s2 with heap := h4 } := I2.landed nb fl4.1 ((up1.trans up3).trans up4) os1 ag1
    obtain ⟨o4, v4, g4, z4, d4⟩ := fl4.there
    refine store_ok (X := X.suite a ((a, o4) :: (X.pn ++ pins))) (v := .ref a) (I4.suite g4 d4 na n1 n2) nd ni (.inl kl) rfl (fun s5 J5 => ?_) (.inr kl)
    refine wpAny_mono ((su a o4 cls d (X.pn ++ pins) z4 ⟨_, d4⟩).run [] s5 _ H1 _ J5 (yes rfl a na)) (fun f s6 h6 => ?_) fun _ _ z => z.elim
    have goes : ∀ {σ6 : L2.St} {H6 : Hp} {Q : Shared → Prop}, Inv (X.suite a ((a, o4) :: (X.pn ++ pins))) [] σ6 H6 s6 → (∀ s7, Inv X pins (σ6.set i none) H6 s7 → Q s7) →
        wpAny (model X.prog X.w) X.A (do bindName X.env n .none; unbindBehindTheSuite X.env n pos') (fun _ s7 => Q s7) X.xe s6 := fun J6 k => gone_ok (J6.unsuite ok) nd ni kl k
    cases f with
    | ret w => obtain ⟨v6, σ6, H6, J6, r6, q6⟩ := h6; exact goes J6 fun s7 I7 => ⟨v6, _, H6, I7, r6, q6⟩
    | next => obtain ⟨σ6, H6, J6, q6⟩ := h6; exact goes J6 fun s7 I7 => ⟨_, H6, I7, q6⟩
    | brk => obtain ⟨σ6, H6, J6, q6⟩ := h6; exact goes J6 fun s7 I7 => ⟨_, H6, I7, q6⟩
    | cont => obtain ⟨σ6, H6, J6, q6⟩ := h6; exact goes J6 fun s7 I7 => ⟨_, H6, I7, q6⟩
  | false =>
    show wpAny _ X.A (handleBy (.ref a) X.env []) _ _ _
    refine wpAny_handleBy_nil ?_
    obtain ⟨_, _, _, oe, vs, T, oT, ts', g5, _, d5, f5, _⟩ := id fl3
    unfold PySem.passOn
    refine wpAny_bind (wpAny_field g5 d5 f5 ?_)
    rw [if_neg (show ¬ ((Value.ref T == Value.none) = true) by simp)]
    have on : wpAny (model X.prog X.w) X.A (setFlight (.ref a) X.env.frame) (fun _ s4 => wpAny (model X.prog X.w) X.A (throw (.ref a) : Sem Flow) (SP X pins D) X.xe s4) X.xe { s2 with heap := h3 } := by
      rw [fr]
      refine HandSPX.setFlight_upZ fl3 fun h4 hh4 up4 => wpAny_throw (tk _ _ ⟨a, B, s1, pins, σ1, H1, cls, d, rfl, I2, nb, (up1.trans up3).trans up4, .inr (.inr (st ▸ hh4)), na, os1, ag1, no rfl⟩)
    first
      | exact wpAny_bind (wpAny_pure (wpAny_bind on))
      | exact wpAny_bind on
theorem ps_try_asE {more : List Stmt} {tm : TS} (hm : PSs X more tm) (st : X.stack = X.env :: X.outer) (fr : X.env.frame = some X.env.locals) (nd : X.N.Nodup) (ni : X.N[i]? = some n) (kl : X.env.kindOf n = some .local) (cn : Names X x c) (tk : Takes X Wo)
    (hb : ∀ (W : WX) (pn : List (Addr × Obj)) (xe : Value → Shared → Prop), Takes (X.tr pn xe) W → PassesOwn (model X.prog X.w) X.A X.env xe → PSs (X.tr pn xe) body (tb W))
    (su : ∀ (a : Addr) (oe : Obj) (cls : Value) (d : Option Addr) (pn : List (Addr × Obj)), Zc cls d oe → (∃ vs, oe.data = .fields vs) → PSs (X.suite a ((a, oe) :: pn)) (b₀ :: suite) (ts a cls d)) :
    PS X (.Try body [.ExceptHandler (some (.Name x np)) (some n) (b₀ :: suite) pos'] more [] pos) (fun D σ H => tb (wAs X.K c i ts Wo D) { D with nx := tm D } σ H) := by
  refine ⟨fun pins s σ H D I h => wpAny_Try_except ?_⟩
  have ok := I.ok
  refine wpAny_mono ((hb (wAs X.K c i ts Wo D) (X.pn ++ pins) _ (fun u s' air => as_caught ok st fr nd ni kl cn tk su air) PassesOwn.looking).run [] s σ H _ (I.toTry _) h) (fun f s1 q => ?_) fun _ _ z => z
  cases f with
  | next => obtain ⟨σ', H', I', q⟩ := q; exact hm.run pins s1 σ' H' D (I'.ofTry ok) q
  | brk => obtain ⟨σ', H', I', q⟩ := q; exact ⟨σ', H', I'.ofTry ok, q⟩
  | cont => obtain ⟨σ', H', I', q⟩ := q; exact ⟨σ', H', I'.ofTry ok, q⟩
  | ret w => obtain ⟨v, σ', H', I', r, q⟩ := q; exact ⟨v, σ', H', I'.ofTry ok, r, q⟩
end
end Sh
namespace Sh
open PySem L2
open PyProof.Rows hiding St
open He (ga ma)
def oexB (K : PySem.W.Frag) (C : Addr) : Bool := (match K.lookup C with
  | some ⟨.type "type", _, .cls cd, sl⟩ => (match cd.mro, sl.toList with
    | .ref C' :: bm, [_, _, _, _, some (.builtin n), _] => C' == C && (n == "ValueError.__new__" && (!cd.hasDel && (cd.hasDict && PySem.HandSPX.refsVE bm)))
    | _, _ => false)
  | _ => false) && (He.eqO (PySem.W.findIn K (.ref C) "__setattr__") (some (some (.builtin "object.__setattr__"))) && (decide (PySem.W.subIn K (.ref C) (.type "BaseException") = some true) && (decide (PySem.W.typeIn K (.ref C) = some (.type "type")) && PySem.W.keepIn K (.ref C))))
/-- an own error's __init__, as it stands in the text -/
structure SupD where
  cls : Str
  fld : Str
  qual : Str
  params : Arguments
  body : List Stmt
  scope : Scope
  file : Str
def fnE (K : PySem.W.Frag) (a : Addr) : He.FnW := match K.lookup a with
  | some ⟨_, _, .func d, _⟩ => some (d.name, d.qualname, d.params, d.body, d.scope, d.globals, [], d.builtins)
  | _ => none
def SupD.val (d : SupD) : He.FnW := some ("__init__", d.qual, d.params, .stmts d.body, d.scope, mainGlobals, [], builtinsNs)
def fileV (file : Str) : Option Value → Bool
  | some (Value.str y _) => decide (y = file)
  | _ => false
def fileB (K : PySem.W.Frag) (cda : Addr) (file : Str) : Bool := match K.lookup cda with
  | some ⟨_, _, .fields vs, _⟩ => fileV file vs[2]?
  | _ => false
def supFn (K : PySem.W.Frag) (C : Addr) (qual file : Str) (fd : FuncData) : Bool := (match fd.closure with
    | [(n, cc)] => decide (n = ("__class__" : Str)) && (match K.lookup cc with
      | some ⟨_, _, .cell (some (.ref C')), _⟩ => C' == C
      | _ => false)
    | _ => false) && ((match fd.code with
    | .ref cda => PySem.W.codeIn K (.ref cda) qual && fileB K cda file
    | _ => false) && (match fd.defaults with
    | .none => true
    | _ => false))
def SupD.ok (K : PySem.W.Frag) (d : SupD) : Bool := (match K.lookup (ma K (ga K d.cls) "__init__") with
    | some ⟨_, _, .func fd, _⟩ => supFn K (ga K d.cls) d.qual d.file fd
    | _ => false) && (oexB K (ga K d.cls) && (He.eqO (PySem.W.findIn K (.ref (ga K d.cls)) "__init__") (some (some (.ref (ma K (ga K d.cls) "__init__")))) && (decide (PySem.W.typeIn K (.ref (ma K (ga K d.cls) "__init__")) = some (.type "function")) &&
  (decide (PySem.W.mroIn K (ga K d.cls) (.ref (ga K d.cls)) = some true) && (He.eqO (PySem.W.ks_superIn K (ga K d.cls) (ga K d.cls) "__init__") (some (some (.builtin "ValueError.__init__"))) && (decide (PySem.W.subIn K (.ref (ga K d.cls)) (.type "ValueError") = some true) &&
  (He.eqO (PySem.W.nsIn K cStatics "thirdparty.any") (some none) && (He.eqO (PySem.W.findIn K (.ref (ga K d.cls)) d.fld) (some none) && PySem.W.excInitIn K (ga K d.cls) [.type "ValueError", .type "Exception", .type "BaseException", .type "object"] "ValueError.__new__"))))))))
section
variable {X : Cx} {F : Addr → Prop} {Wx : WX} {a b c e : Expr} {es : List Expr} {pos p p' : Pos} {ia ib ic : IE} {C f x : Str} {fI : Addr}
def sRaise1 (C f : Str) (ia : IE) : IS := fun EI _ st => ia EI st fun w st1 => EI ⟨C, [(f, w)]⟩ st1
def sRaise0 (C : Str) : IS := fun EI _ st => EI ⟨C, []⟩ st
theorem pmk_own0 {D : Addr} {bmB : List Value} {B newId initId : String} (FB : ExcBaseFacts B newId initId bmB) (q : PySem.W.excIn X.K D bmB newId = true) (gC : X.mg x = some (.ref D)) (kC : PySem.W.keepIn X.K (.ref D) = true) (r : Raises X (.ref D)) (hg : Gl X x)
    (hdb : (x == ("__debug__" : Str)) = false := by decide) : PMk X (.Call (.Name x p) [] [] pos) (fun _ H Q => Q (.ref D) none H) := by
  intro pins s σ H Q I h
  refine wpAny_Call_Name_kw (ld_glob I hg gC ?_ hdb)
  refine PySem.W.callWith_K0 I.kIn kC ?_
  show wpAny _ _ (call (.ref D) []) _ _ _
  obtain ⟨bm, N, nm, qn, bs, hdct, sn, sub, ab, col, dd, k0, k1, k2, k3, k5, mN, hC, hN, hni, T⟩ := exc_obj I.kIn q
  refine wpAny_call_exc_subT FB T hC hN hni (fun h' e hm => ?_) (by show 0 ≤ sizeLine; omega)
  exact mk_of I hm r h (I.hok.gone hm.new)
/-- an error class without an __init__ -/
structure Err0 (K : PySem.W.Frag) (mg : Str → Option Value) (C : Str) : Prop where
  x : PySem.W.excIn K (ga K C) He.veBase "ValueError.__new__" = true
  k : PySem.W.keepIn K (.ref (ga K C)) = true
  b : PySem.W.subIn K (.ref (ga K C)) (.type "BaseException") = some true
  t : PySem.W.typeIn K (.ref (ga K C)) = some (.type "type")
  m : mg C = some (.ref (ga K C))
theorem err0 {K : PySem.W.Frag} {mg : Str → Option Value} {C : Str} (c : (He.Fa.exc C).ok K = true) (m : mg C = some (.ref (ga K C))) : Err0 K mg C := by
  have c : (PySem.W.excIn K (ga K C) He.veBase "ValueError.__new__" && (PySem.W.keepIn K (.ref (ga K C)) && (decide (PySem.W.subIn K (.ref (ga K C)) (.type "BaseException") = some true) && decide (PySem.W.typeIn K (.ref (ga K C)) = some (.type "type"))))) = true := c
  obtain ⟨c1, c⟩ := He.ba c
  obtain ⟨c2, c⟩ := He.ba c
  obtain ⟨c3, c4⟩ := He.ba c
  exact ⟨c1, c2, of_decide_eq_true c3, of_decide_eq_true c4, m⟩
theorem s_raise0 (T : Err0 X.K X.mg C) (tk : Takes X Wx) (hc : X.calm = true := by rfl) (hg : Gl X C := by rfl) (hdb : (C == ("__debug__" : Str)) = false := by decide) :
    PS X (.Raise (some (.Call (.Name C p) [] [] pos)) none p') (LS X.K F Wx (sRaise0 C)) := by
  refine ps_imp (ps_raise hc tk (pmk_own0 PySem.F.excBase_ValueError T.x T.m T.k (raises_own T.b T.t) hg hdb)) fun D σ H h => ?_
  obtain ⟨st, DI, EI, l, q, u⟩ := h
  exact u.x _ st _ _ _ q l .refl ⟨rfl, .inl ⟨rfl, rfl⟩⟩
end
/-- the error that a suite holds -/
structure Hnd where
  x : Exn
  a : Addr
  d : Option Addr
def Hnd.w (h : Hnd) : W := .exn h.x.C h.x.fs h.a h.d
/-- try: body / except P as n: suite / else: more -/
def sTryE (i : Nat) (cs : List Str) (body : IS) (suite : Hnd → IS) (more : IS) : IS := fun EI D st =>
  body (fun x st1 => x.C ∈ cs ∧ ∀ a d, suite ⟨x, a, d⟩ (fun _ _ => False) { nx := fun st2 => D.nx (st2.put i .none), rt := D.rt, bk := fun st2 => D.bk (st2.put i .none), ct := fun st2 => D.ct (st2.put i .none) } (st1.put i (.val (Hnd.w ⟨x, a, d⟩)))) { D with nx := more EI D } st
theorem RelX.hnd {K : PySem.W.Frag} {Lv : Addr → Prop} {H : Hp} {x : Exn} {cls : Value} {d : Option Addr} {a : Addr} (h : RelX K Lv H x cls d) : RelW K Lv H (Hnd.w ⟨x, a, d⟩) (.ref a) := by
  obtain ⟨_, h⟩ := h
  rcases h with ⟨e1, e2⟩ | ⟨dd, vs, e1, e2, e3, e4⟩
  · obtain ⟨C, fs⟩ := x
    dsimp only at e1
    subst e1 e2
    exact .exn0
  · subst e1
    exact .exn1 e2 e3 e4
/-- what the clause's class catches -/
structure CatF (K : PySem.W.Frag) (cs : List Str) (P : Str) : Prop where
  hit : ∀ C ∈ cs, PySem.W.exmOne K (.ref (ga K C)) (.ref (ga K P)) = some true
def catFB (K : PySem.W.Frag) (cs : List Str) (P : Str) : Bool := cs.all fun C => decide (PySem.W.exmOne K (.ref (ga K C)) (.ref (ga K P)) = some true)
theorem catFB_ok {K : PySem.W.Frag} {cs : List Str} {P : Str} (h : catFB K cs P = true) : CatF K cs P := ⟨fun C hC => of_decide_eq_true (List.all_eq_true.mp h C hC)⟩
section
variable {X : Cx} {F : Addr → Prop} {Wx : WX} {x n : Str} {i : Nat} {body suite more : List Stmt} {b₀ : Stmt} {np pos pos' : Pos} {ib im : IS} {is : Hnd → IS} {cs : List Str}
theorem s_tryE (i : Nat) (T : CatF X.K cs x) (hm : X.mg x = some (.ref (ga X.K x))) (nd : X.N.Nodup) (tk : Takes X Wx)
    (hb : ∀ (W : WX) (pn : List (Addr × Obj)) (xe : Value → Shared → Prop), Takes (X.tr pn xe) W → PassesOwn (model X.prog X.w) X.A X.env xe → PSs (X.tr pn xe) body (LS X.K F W ib))
    (su : ∀ (h : Hnd) (oe : Obj) (pn : List (Addr × Obj)), Zc (.ref (ga X.K h.x.C)) h.d oe → (∃ vs, oe.data = .fields vs) → PSs (X.suite h.a ((h.a, oe) :: pn)) (b₀ :: suite) (LS X.K F (fun _ _ _ _ => False) (is h)))
    (mo : PSs X more (LS X.K F Wx im)) (st : X.stack = X.env :: X.outer := by rfl) (fr : X.env.frame = some X.env.locals := by rfl) (ni : X.N[i]? = some n := by rfl) (kl : X.env.kindOf n = some .local := by rfl) (gx : Gl X x := by rfl) (dx : (x == ("__debug__" : Str)) = false := by decide) :
    PS X (.Try body [.ExceptHandler (some (.Name x np)) (some n) (b₀ :: suite) pos'] more [] pos) (LS X.K F Wx (sTryE i cs ib is im)) := by
  refine ps_imp (ps_try_asE (c := .ref (ga X.K x)) (i := i) (tb := fun W => LS X.K F W ib) (ts := fun a cls d D σ H => ∃ y : Exn, cls = .ref (ga X.K y.C) ∧ LS X.K F (fun _ _ _ _ => False) (is ⟨y, a, d⟩) D σ H) mo st fr nd ni kl ⟨gx, dx, .inl hm⟩ tk hb fun a oe cls d pn hz hf => ?_) fun D σ H h => ?_
  · refine ⟨fun pins s σ H D I h => ?_⟩
    obtain ⟨y, ec, h⟩ := h
    subst ec
    exact (su ⟨y, a, d⟩ oe pn hz hf).run pins s σ H D I h
  · obtain ⟨st0, DI, EI, l, q, u⟩ := h
    refine ⟨st0, _, _, l, q, ⟨fun y st1 σ1 cls d H1 q1 l1 s1 r1 => ?_, fun st1 σ1 H1 q1 l1 s1 => ⟨st1, DI, EI, l1, q1, u.step s1⟩, u.bk, u.ct, u.rt⟩⟩
    obtain ⟨hC, q1⟩ := q1
    have ec := r1.1
    subst ec
    refine ⟨true, T.hit _ hC, fun _ a na => ?_, fun z => nomatch z⟩
    have s2 : Step st1 σ1 H1 (st1.put i (.val (Hnd.w ⟨y, a, d⟩))) (σ1.set i (some (.ref a))) H1 := Step.put
    refine ⟨y, rfl, _, _, _, l1.put r1.hnd, q1 a d, ⟨fun _ _ _ _ _ _ z => z.elim, fun st2 σ2 H2 q2 l2 s3 => ?_, fun st2 σ2 H2 q2 l2 s3 => ?_, fun st2 σ2 H2 q2 l2 s3 => ?_, fun r S' v H2 q2 ok => u.rt r S' v H2 q2 (ok.step (s1.trans s2))⟩⟩
    · exact u.nx _ _ _ q2 l2.wipe.1 (((s1.trans s2).trans s3).trans l2.wipe.2)
    · exact u.bk _ _ _ q2 l2.wipe.1 (((s1.trans s2).trans s3).trans l2.wipe.2)
    · exact u.ct _ _ _ q2 l2.wipe.1 (((s1.trans s2).trans s3).trans l2.wipe.2)
end
theorem RelW.exnI {K : PySem.W.Frag} {Lv : Addr → Prop} {H : Hp} {C : Str} {fs : List (Str × W)} {a : Addr} {d : Option Addr} {v : V} (h : RelW K Lv H (.exn C fs a d) v) : v = .ref a ∧ ((fs = [] ∧ d = none) ∨ ∃ dd vs, d = some dd ∧ H dd = some (.xd vs) ∧ ¬ Lv dd ∧ RelFs K Lv H fs vs) := by
  cases h with
  | exn0 => exact ⟨rfl, .inl ⟨rfl, rfl⟩⟩
  | exn1 e1 e2 e3 => exact ⟨rfl, .inr ⟨_, _, rfl, e1, e2, e3⟩⟩
structure IsEF (K : PySem.W.Frag) (cs ds : List Str) : Prop where
  at_ : ∀ C ∈ cs, ExcC K (ga K C) ∧ (PySem.W.clsIn K (ga K C)).isSome = true
  is : ∀ C ∈ cs, ∀ D ∈ ds, PySem.W.kitOne K (.ref (ga K C)) (.ref (ga K D)) = some (C == D)
def isEFB (K : PySem.W.Frag) (cs ds : List Str) : Bool := He.eqO (PySem.W.specialIn K (.builtin "object.__class__") "__get__") (some (some (.builtin "getset_descriptor.__get__"))) && (decide (PySem.W.takesIn K (.builtin "object.__class__") = some true) && (cs.all fun C => He.eqO (PySem.W.findIn K (.ref (ga K C)) "__getattribute__") (some (some (.builtin "BaseException.__getattribute__"))) && (He.eqO (PySem.W.findIn K (.ref (ga K C)) "__getattr__") (some none) &&
  (decide (PySem.W.subIn K (.ref (ga K C)) (.type "BaseException") = some true) && (PySem.W.hasDictIn K (ga K C) && (He.eqO (PySem.W.findIn K (.ref (ga K C)) "__class__") (some (some (.builtin "object.__class__"))) && (decide (PySem.W.mroIn K (ga K C) (.type "object") = some true) && ((PySem.W.clsIn K (ga K C)).isSome &&
  ds.all fun D => decide (PySem.W.kitOne K (.ref (ga K C)) (.ref (ga K D)) = some (C == D))))))))))
theorem isEFB_ok {K : PySem.W.Frag} {cs ds : List Str} (h : isEFB K cs ds = true) : IsEF K cs ds := by
  obtain ⟨b1, h⟩ := He.ba h
  obtain ⟨b2, h⟩ := He.ba h
  have key : ∀ C ∈ cs, (ExcC K (ga K C) ∧ (PySem.W.clsIn K (ga K C)).isSome = true) ∧ ∀ D ∈ ds, PySem.W.kitOne K (.ref (ga K C)) (.ref (ga K D)) = some (C == D) := fun C hC => by
    obtain ⟨c1, c⟩ := He.ba (List.all_eq_true.mp h C hC)
    obtain ⟨c2, c⟩ := He.ba c
    obtain ⟨c3, c⟩ := He.ba c
    obtain ⟨c4, c⟩ := He.ba c
    obtain ⟨c5, c⟩ := He.ba c
    obtain ⟨c6, c⟩ := He.ba c
    obtain ⟨c7, c8⟩ := He.ba c
    exact ⟨⟨⟨He.eqO_ok c1, He.eqO_ok c2, of_decide_eq_true c3, c4, He.eqO_ok c5, He.eqO_ok b1, of_decide_eq_true b2, of_decide_eq_true c6⟩, c7⟩, fun D hD => of_decide_eq_true (List.all_eq_true.mp c8 D hD)⟩
  exact ⟨fun C hC => (key C hC).1, fun C hC => (key C hC).2⟩
section
variable {X : Cx} {F : Addr → Prop} {Wx : WX} {e : Expr} {es : List Expr} {pos p : Pos} {ia : IE} {i : IA} {n : Nat} {f x : Str} {cs ds : List Str} {h : Hnd} {oe : Obj} {pn : List (Addr × Obj)}
def iXf (cs : List Str) (f : Str) (h : Hnd) (ia : IE) : IE := fun EI st Q => ia EI st fun w st1 => match w with
  | .exn C fs a d => C = h.x.C ∧ a = h.a ∧ d = h.d ∧ C ∈ cs ∧ (match fs.lookup f with
    | some w => Q w st1
    | none => False)
  | _ => False
def iIsE (cs ds : List Str) (h : Hnd) (i : IA) : IE := fun EI st Q => i EI st fun ws st1 => match ws with
  | [.exn C _ a d, .glo D] => C = h.x.C ∧ a = h.a ∧ d = h.d ∧ C ∈ cs ∧ D ∈ ds ∧ Q (.bl (C == D)) st1
  | _ => False
def rIsE2 (K : PySem.W.Frag) (D a : Addr) (od : Option Addr) : List V → Hp → VK → Prop := fun xs H Q => (∀ d, od = some d → ∃ fs, H d = some (.xd fs)) ∧ rIsE K D a xs H Q
theorem call_isE2 {a D : Addr} {od : Option Addr} (C : ExcC X.K D) (hcl : (PySem.W.clsIn X.K D).isSome = true) (hz : Zc (.ref D) od oe) (hf : ∃ vs, oe.data = .fields vs) : CallR (X.suite a ((a, oe) :: pn)) (.builtin "isinstance") (rIsE2 X.K D a od) := by
  intro pins s σ H xs us Q I r z
  obtain ⟨zd, c, cv, b, rfl, hcv, e, q⟩ := z
  cases r with
  | cons rx rr =>
    cases rr with
    | cons rt rr =>
      cases rr
      cases rx
      have ec := hcv _ rt
      subst ec
      obtain ⟨hget, _⟩ := I.pin (a, oe) (List.mem_append.mpr (.inl List.mem_cons_self))
      obtain ⟨vs, hv⟩ := hf
      have J : ∃ dd, PySem.W.InstAt s.heap a oe D dd := by
        cases od with
        | none =>
          obtain ⟨oc, od, oda, osl⟩ := oe
          obtain ⟨h1, h2⟩ := hz
          dsimp only at h1 h2 hv
          subst h1 h2 hv
          exact ⟨none, hget, rfl, rfl, trivial⟩
        | some d =>
          obtain ⟨fs, ed⟩ := zd d rfl
          have hx : ObjOk X.prog X.w H s.heap d (.xd fs) := I.hok d _ ed
          obtain ⟨mA, hns, hr⟩ := hx
          obtain ⟨o, ho, hl⟩ := lookIn_ns hns
          exact ⟨some o, hget, hz.1, by unfold PySem.W.notCls; rw [hv] <;> rfl, by rw [hz.2]; exact ho⟩
      obtain ⟨dd, J⟩ := J
      exact PySem.W.kia_one (PySem.W.kitx_exc hcl C.hg C.hk C.hs C.ha C.hn C.ht C.hm) I.kIn J e (fun z => nomatch z) fun tk => ⟨.bl b, H, I.kept (t' := tk) fun _ _ z => z, rfl, q⟩
theorem i_isE (T : IsEF X.K cs ds) (hz : Zc (.ref (ga X.K h.x.C)) h.d oe) (hf : ∃ vs, oe.data = .fields vs) (hm : X.mg "isinstance" = none) (ha : PA (X.suite h.a ((h.a, oe) :: pn)) (e :: es) (LA X.K F Wx n i)) (hg : Gl X "isinstance" := by rfl) (he : starEach (e :: es) X.env = (false, eval e X.env) :: starEach es X.env := by rfl) (hpl : (backTo pos (starEach es X.env)).any (·.1) = false := by rfl) :
    PE (X.suite h.a ((h.a, oe) :: pn)) (.Call (.Name "isinstance" p) (e :: es) [] pos) (LE X.K F Wx (iIsE cs ds h i)) := by
  refine ⟨fun pins s σ H Q I z => ?_⟩
  by_cases hC : h.x.C ∈ cs
  · obtain ⟨C1, C2⟩ := T.at_ _ hC
    refine (pe_callB (X := X.suite h.a ((h.a, oe) :: pn)) (call_isE2 C1 C2 hz hf) hg hm boot_isi' ha (by decide) (by decide) he hpl).run pins s σ H Q I ?_
    obtain ⟨st, QI, EI, l, q, ux, k⟩ := z
    refine ⟨st, _, EI, l, q, ux, fun ws st1 vs H1 hn q1 l1 s1 r1 => ?_⟩
    split at q1
    · rename_i C fs a d D
      obtain ⟨rfl, rfl, rfl, _, hD, q1⟩ := q1
      cases r1 with
      | cons ra r1 =>
      cases r1 with
      | cons rc r1 =>
      obtain ⟨ev, rx⟩ := ra.exnI
      subst ev
      cases r1
      cases rc
      refine ⟨fun dd e => ?_, V.ref (ga X.K D), .ref (ga X.K D), _, rfl, fun u e => e, T.is _ hC _ hD, k _ _ _ H1 q1 l1 s1 (.bl _)⟩
      rcases rx with ⟨_, e0⟩ | ⟨d', vs', e0, e1, _, _⟩
      · exact absurd (e0.symm.trans e) (by simp)
      · have e5 := Option.some.inj (e0.symm.trans e)
        exact ⟨_, e5 ▸ e1⟩
    · exact q1.elim
  · obtain ⟨st, QI, EI, l, q, ux, k⟩ := z
    refine thn ((pe_callB (X := X.suite h.a ((h.a, oe) :: pn)) (r := fun _ _ _ => False) (fun _ _ _ _ _ _ _ _ _ z => z.elim) hg hm boot_isi' ha (by decide) (by decide) he hpl).run pins s σ H Q I ⟨st, _, EI, l, q, ux, fun ws st1 vs H1 hn q1 l1 s1 r1 => ?_⟩) fun u s1 hh => hh
    split at q1
    · rename_i C fs a d D
      exact (hC (q1.1 ▸ q1.2.2.2.1)).elim
    · exact q1.elim
end
end Sh
namespace Sh
open PySem L2
open PyProof.Rows hiding St
open He (ga ma)
def closO (o : Obj) : List Addr := match o.data with
  | .func fd => fd.closure.map (·.2)
  | _ => []
/-- the addresses that are new, forced; seen ones stand in a number's bits -/
def addF {α : Type} : List Addr → Nat → List Addr → (Nat → List Addr → α) → α
  | [], seen, new, k => k seen new
  | a :: as, seen, new, k => HandSHeadRun.frNat a fun a => match Nat.land (Nat.shiftRight seen a) 1 with
    | 0 => HandSHeadRun.frNat (Nat.lor seen (Nat.shiftLeft 1 a)) fun seen => addF as seen (a :: new) k
    | _ + 1 => addF as seen new k
def expF {α : Type} (g : Addr → Option Obj) : List Addr → Nat → List Addr → (Nat → List Addr → α) → α
  | [], seen, new, k => k seen new
  | a :: as, seen, new, k => match g a with
    | some o => addF (He.refsD o) seen new fun seen new => expF g as seen new k
    | none => expF g as seen new k
/-- what is reached in n steps; only what is new goes on -/
def asF (g : Addr → Option Obj) : Nat → Nat → List Addr → List Addr → List Addr
  | 0, _, all, _ => all
  | n + 1, seen, all, fr => expF g fr seen [] fun seen new => asF g n seen (new ++ all) new
def asN (g : Addr → Option Obj) (n : Nat) : List Addr := HandSHeadRun.frNat mainGlobals fun a => asF g n (Nat.shiftLeft 1 a) [a] [a]
def asS (g : Addr → Option Obj) (n : Nat) : List Addr := sysModules :: cStatics :: asN g n ++ (asN g n).flatMap fun a => match g a with
  | some o => closO o
  | none => []
abbrev AlS : Type := He.AlX × (Bool × List He.FnW) × (Bool × List He.FnW)
def obsSup (sp : List SupD) (K : PySem.W.Frag) : Bool × List He.FnW := (sp.all fun d => d.ok K, sp.map fun d => fnE K (ma K (ga K d.cls) "__init__"))
def valSup (sp : List SupD) : Bool × List He.FnW := (true, sp.map SupD.val)
def obsS (n : Nat) (fa : List He.Fa) (fn : List He.DefD) (ts : List He.Tab) (tf : List He.Defn) (ex : PySem.W.Frag → Bool) (pr : List PrD) (sp : List SupD) (g : Addr → Option Obj) : AlS :=
  ((He.obsT fa fn ts (He.frT g (asS g n)), ex (He.frT g (asS g n)) && He.tabsB g tf (He.frT g (asS g n))), obsPr pr (He.frT g (asS g n)), obsSup sp (He.frT g (asS g n)))
structure SaysS (fa : List He.Fa) (fn : List He.DefD) (ts : List He.Tab) (tf : List He.Defn) (ex : PySem.W.Frag → Bool) (pr : List PrD) (sp : List SupD) (w : World) (h : Heap) (K : PySem.W.Frag) : Prop where
  x : He.SaysX fa fn ts tf ex w h K
  p : obsPr pr K = valPr pr
  s : obsSup sp K = valSup sp
theorem saysX_at {as : List Addr} {fa : List He.Fa} {fn : List He.DefD} {ts : List He.Tab} {tf : List He.Defn} {ex : PySem.W.Frag → Bool} {w : World} {h : Heap} (e1 : He.obsT fa fn ts (He.frT h.get? as) = He.valT fn ts w) (e2 : (ex (He.frT h.get? as) && He.tabsB h.get? tf (He.frT h.get? as)) = true) :
    He.SaysX fa fn ts tf ex w h (He.frT h.get? as) := by
  obtain ⟨h1, h2⟩ := He.ba e2
  have all : ∀ p ∈ tf, PySem.W.codeHdIn (He.frT h.get? as) (He.cT (He.frT h.get? as) p).1 (He.cT (He.frT h.get? as) p).2 = true ∧ ∃ o, h.get? (He.cT (He.frT h.get? as) p).2 = some o ∧ He.emptyTab o = true := fun p hp => by
    obtain ⟨h3, h4⟩ := He.ba (List.all_eq_true.mp h2 p hp)
    refine ⟨h3, ?_⟩
    split at h4
    · exact ⟨_, by assumption, h4⟩
    · cases h4
  refine ⟨e1, h1, fun p hp => (all p hp).1, fun p hp => ?_, fun p hp => ?_⟩
  · obtain ⟨_, o, q1, q2⟩ := all p hp
    exact He.frT_none q1 q2
  · obtain ⟨_, o, q1, q2⟩ := all p hp
    rw [q1, He.emptyTab_eq q2]
def hookS (n : Nat) (fa : List He.Fa) (fn : List He.DefD) (ts : List He.Tab) (tf : List He.Defn) (ex : PySem.W.Frag → Bool) (pr : List PrD) (sp : List SupD) : PySem.W.Hook where
  α := AlS
  obs := fun s => obsS n fa fn ts tf ex pr sp s.heap.get?
  val := fun w => (He.valX fn ts w, valPr pr, valSup sp)
  says := fun w h => ∃ K : PySem.W.Frag, K.In h ∧ SaysS fa fn ts tf ex pr sp w h K
  of := fun w s e => ⟨He.frT s.heap.get? (asS s.heap.get? n), He.frT_in, saysX_at (congrArg (fun z : AlS => z.1.1) e) (congrArg (fun z : AlS => z.1.2) e), congrArg (fun z : AlS => z.2.1) e, congrArg (fun z : AlS => z.2.2) e⟩
  keeps := fun _ _ _ ⟨K, hK, c⟩ k => ⟨K, PySem.W.Frag.In.keeps hK k, ⟨c.x.t, c.x.more, c.x.hd, c.x.out, fun p hp => k _ _ (c.x.empty p hp)⟩, c.p, c.s⟩
theorem obsS_eq {n : Nat} {fa : List He.Fa} {fn : List He.DefD} {ts : List He.Tab} {tf : List He.Defn} {ex : PySem.W.Frag → Bool} {pr : List PrD} {sp : List SupD} {g : Addr → Option Obj} {s : Shared} (h : ∀ a, g a = s.heap.get? a) : obsS n fa fn ts tf ex pr sp g = (hookS n fa fn ts tf ex pr sp).obs s := by
  have e : g = s.heap.get? := funext h
  rw [e] <;> rfl
theorem SaysS.pr {fa : List He.Fa} {fn : List He.DefD} {ts : List He.Tab} {tf : List He.Defn} {ex : PySem.W.Frag → Bool} {pr : List PrD} {sp : List SupD} {w : World} {h : Heap} {K : PySem.W.Frag} (c : SaysS fa fn ts tf ex pr sp w h K) (i : Nat) {d : PrD} (hd : pr[i]? = some d := by rfl) :
    PropOf K (ga K d.cls) d.nm (prA K d.cls d.nm) (gtA K d.cls d.nm) ∧ ∃ fd, FunD K d.nm d.qual d.params d.body d.scope [] [] (gtA K d.cls d.nm) fd := by
  have c2 : (pr.all fun d => d.ok K) = true := congrArg (fun z : Bool × List He.FnW => z.1) c.p
  have e : pr.map (fun d => fnA K (gtA K d.cls d.nm)) = pr.map PrD.val := congrArg (fun z : Bool × List He.FnW => z.2) c.p
  have e2 : (pr.map fun d => fnA K (gtA K d.cls d.nm))[i]? = (pr.map PrD.val)[i]? := by rw [e]
  rw [List.getElem?_map, List.getElem?_map, hd] at e2
  exact PrD.funD (Option.some.inj e2) (List.all_eq_true.mp c2 d (List.mem_of_getElem? hd))
end Sh
namespace Sh
open PySem L2
open PyProof.Rows hiding St
open He (ga ma)
structure FnHG (P : Program) (w : World) (K : PySem.W.Frag) (mg : Str → Option Value) (base : Heap) (k : Nat) (f : Addr) (fd : FuncData) (ps : List Str) (sp : Sp) : Prop where
  len : ∀ {vs H Q E}, sp vs H Q E → vs.length = ps.length
  go : ∀ {A : Around} {outer : List Env} {s : Shared} {H : Hp} {args : Args} {us : List Value} {vs : List V} {Q : VK} {E : XK} (p : Addr × Obj), L2H.RoomH k A → A.guards = some [] → L2H.PinOk outer H s p → Env0 P w K mg base A outer s H →
    BindsTo s fd args (ps.zip us) → Vals vs us → sp vs H Q E → codeAny (model P w) A (.call (.ref f) args) (CR (L2.CX P w) outer P w H s Q E) s
section
variable {P : Program} {w : World} {K : PySem.W.Frag} {mg : Str → Option Value} {base : Heap} {x qual : Str} {params : Arguments} {body : List Stmt} {scope : Scope} {f : Addr} {fd : FuncData}
end
structure CalH (P : Program) (w : World) (K : PySem.W.Frag) (mg : Str → Option Value) (base : Heap) (x : Str) (k n : Nat) (spec : ISp) : Prop where
  ex : ∃ f fd ps, FnHG P w K mg base k f fd ps (spI K n spec) ∧ mg x = some (.ref f) ∧ PySem.W.keepIn K (.ref f) = true ∧ Binds K fd ps []
theorem CalH.spec {P : Program} {w : World} {K : PySem.W.Frag} {mg : Str → Option Value} {base : Heap} {x : Str} {k n : Nat} {sp sp' : ISp} (C : CalH P w K mg base x k n sp) (h : ∀ ws S Q E, sp' ws S Q E → sp ws S Q E) : CalH P w K mg base x k n sp' := by
  obtain ⟨f, fd, ps, G, r⟩ := C.ex
  exact ⟨f, fd, ps, ⟨fun q => G.len (spI.imp h q), fun p a b c d e v q => G.go p a b c d e v (spI.imp h q)⟩, r⟩
theorem RoomH.units {k : Nat} {A : Around} (r : L2H.RoomH k A) : A.units + 64 < cLine := by have := r.un; omega
section
variable {X : Cx} {F : Addr → Prop} {Wx : WX} {e : Expr} {es : List Expr} {pos p : Pos} {k' k n : Nat} {spec : ISp} {x : Str} {i : IA} {h : Hnd} {oe : Obj} {pn : List (Addr × Obj)}
end
end Sh
namespace Sh
open PySem L2 LamX
open PyProof.Rows hiding St
open He (ga ma)
/-- what the heap is behind it -/
def LamH (H : Hp) (P : Addr) (q : Str) (c' : Addr) (H1 : Hp) : Prop :=
  (H1 = H ∧ H c' = some (CodeO c' q)) ∨ ∃ (ps more : Array Value) (l : Int) (m : Int), H c' = none ∧ H P = some (.tbl ps) ∧ TriplesOk (ps ++ more).toList ∧ H1 = upd (upd H P (.tbl (ps ++ more))) c' (CodeO c' q) ∧
    ∀ (pos : Pos) (cv : Value), codeAmong pos (ps ++ more).toList = some cv → codeAmong pos ps.toList = some cv ∨ cv = .ref c'
section
variable {X : Cx} {pins : List (Addr × Obj)} {σ : L2.St} {H : Hp} {s : Shared}
end
/-- the state is as it was -/
theorem Lk.tab {K : PySem.W.Frag} {F : Addr → Prop} {st : Stt} {σ : L2.St} {H H1 : Hp} {P c' : Addr} {d : Str} (l : Lk K F st σ H) (eS : st.S P = some (.tbl P d)) (h : LamH H P (lamN d) c' H1) : Lk K F st σ H1 ∧ Step st σ H st σ H1 := by
  rcases h with ⟨e, _⟩ | ⟨ps, more, _, _, nc, hP, t3, e, am⟩
  · rw [e]; exact ⟨l, .refl⟩
  · have nPc : P ≠ c' := fun z => by rw [z, nc] at hP; cases hP
    have at_ : ∀ b u, H b = some u → b ≠ P → H1 b = some u := fun b u q n => by
      rw [e, upd_ne (fun z => by rw [z, nc] at q; cases q), upd_ne n]
      exact q
    have wP : Wr st σ P := .inl (by rw [eS]; exact fun z => nomatch z)
    have s : Step st σ H st σ H1 := ⟨fun a u q n => at_ a u q fun z => n (z ▸ wP), fun a w => .inl w⟩
    refine ⟨⟨l.len, fun i w q => ?_, fun i o q => ?_, l.inj, fun a o q => ?_, fun a q => ?_, l.fdis⟩, s⟩
    · obtain ⟨v, e1, r⟩ := l.val i w q
      exact ⟨v, e1, r.mono s.mv⟩
    · obtain ⟨a, e1, r, n1, n2⟩ := l.own i o q
      refine ⟨a, e1, r.move (fun u z => at_ a u z fun y => ?_) s.mv, n1, n2⟩
      rw [y, eS] at n1
      cases n1
    · by_cases y : a = P
      · subst y
        rw [eS] at q
        cases q
        obtain ⟨_, e1, ps', q1, _, q3⟩ := l.sto _ _ eS
        rw [hP] at q1
        cases q1
        refine ⟨rfl, e1, ps ++ more, by rw [e, upd_ne nPc, upd_same], t3, fun pos cv hc => ?_⟩
        rcases am pos cv hc with z | z
        · obtain ⟨c, e2, e3, e4⟩ := q3 pos cv z
          exact ⟨c, e2, (s.mv _ _ e3 e4).1, e4⟩
        · exact ⟨c', z, by rw [e, upd_same], l.fresh nc⟩
      · exact (l.sto a o q).move (fun u z => at_ a u z y) s.mv
    · obtain ⟨u, z⟩ := l.ftr a q
      refine ⟨u, at_ a u z fun y => ?_⟩
      have := l.fdis a q
      rw [y, eS] at this
      cases this
section
variable {X : Cx} {pins : List (Addr × Obj)} {σ : L2.St} {H : Hp} {s : Shared} {F : Addr → Prop} {il : IE}
end
def emp (m : Nat) : List Slot := List.replicate m .none
theorem emp_len {m : Nat} : (emp m).length = m := List.length_replicate ..
theorem emp_get {m i j : Nat} {w : W} {x : Slot} (h : ((emp m).set i (.val w))[j]? = some x) : (j = i ∧ x = .val w ∧ i < m) ∨ x = .none := by
  rcases get_set h with ⟨e, z, l⟩ | ⟨_, z⟩
  · exact .inl ⟨e, z, by rw [emp_len] at l; exact l⟩
  · exact .inr (List.eq_of_mem_replicate (List.mem_of_getElem? z))
/-- one name has a value, the others' values are not looked at -/
theorem Lk.one {K : PySem.W.Frag} {F : Addr → Prop} {S : Sto} {H : Hp} {m i : Nat} {w : W} {v : V} {σ : L2.St} (l : Lk K F ⟨[], S⟩ [] H) (r : RelW K (Live F ⟨[], S⟩ []) H w v) (hl : σ.length = m) : Lk K F ⟨(emp m).set i (.val w), S⟩ (σ.set i (some v)) H ∧ Step ⟨[], S⟩ [] H ⟨(emp m).set i (.val w), S⟩ (σ.set i (some v)) H := by
  have no : ∀ {j : Nat} {o : SO}, ((emp m).set i (.val w))[j]? = some (.own o) → False := fun h => by
    rcases emp_get h with ⟨_, z, _⟩ | z <;> cases z
  have nOw : ∀ a, ¬ Ow ((emp m).set i (.val w)) (σ.set i (some v)) a := fun a ⟨j, o, e, _⟩ => no e
  have lv : ∀ a, Live F ⟨(emp m).set i (.val w), S⟩ (σ.set i (some v)) a → Live F ⟨[], S⟩ [] a := fun a z => z.imp (fun z => z.elim .inl fun z => (nOw a z).elim) id
  refine ⟨⟨by simp [emp, hl], fun j y q => ?_, fun j o q => (no q).elim, fun j _ o _ a q => (no q).elim, fun a o q => (l.sto a o q).move (fun _ z => z) (mv_same lv), l.ftr, l.fdis⟩, ⟨fun _ _ e _ => e, fun a z => .inl (z.elim .inl fun z => (nOw a z).elim)⟩⟩
  rcases emp_get q with ⟨rfl, z, lt⟩ | z
  · cases z
    exact ⟨v, set_get (by rw [hl]; exact lt), r.mono (mv_same lv)⟩
  · cases z
theorem RelW.enter {K : PySem.W.Frag} {F : Addr → Prop} {st : Stt} {σ : L2.St} {H : Hp} {w : W} {v : V} (r : RelW K (Live F st σ) H w v) : RelW K (Live (Fo F st σ) ⟨[], st.S⟩ []) H w v := r.mono (mv_same fun _ z => live_enter.mp z)
theorem LS.ends {K : PySem.W.Frag} {F : Addr → Prop} {Wx : WX} {i : IS} {n : L2.St → Hp → Prop} {r : VK} {σ : L2.St} {H : Hp} (h : LS K F Wx i { nx := fun _ _ => False, rt := r } σ H) : LS K F Wx i { nx := n, rt := r } σ H := by
  obtain ⟨st, DI, EI, l, q, u⟩ := h
  exact ⟨st, DI, EI, l, q, ⟨u.xs, fun _ _ _ a b c => (u.nx _ _ _ a b c).elim, fun _ _ _ a b c => (u.bk _ _ _ a b c).elim, fun _ _ _ a b c => (u.ct _ _ _ a b c).elim, u.rt⟩⟩
section
variable {P : Program} {w : World} {K : PySem.W.Frag} {mg : Str → Option Value} {base : Heap} {x qual : Str} {params : Arguments} {body : List Stmt} {scope : Scope} {f : Addr} {fd : FuncData}
end
section
variable {X : Cx} {F : Addr → Prop} {Wx : WX}
end
end Sh
namespace Sh
open PySem L2 LamX
open PyProof.Rows hiding St
open He (ga ma)
section
variable {P : Program} {w : World} {K : PySem.W.Frag} {mg mb : Str → Option Value} {k : Nat} {fa a : Addr} {fd : FuncData} {x : Str} {sA : Shared} {us : List Value} {ns : List Int} {ds : List Str} {spec : ISp}
end
end Sh
namespace Sh
open PySem L2
open PyProof.Rows hiding St
def keyD : Key → PyData
  | .inl i => .int i
  | .inr x => .str x
section
variable {X : Cx} {F : Addr → Prop} {Wx : WX} {a b c e : Expr} {es : List Expr} {pos p : Pos} {ia ib : IE} {n : Nat} {i : IA}
theorem keyD_depth (k : Key) : (keyD k).depth = 0 := by cases k <;> rfl
end
end Sh
namespace Sh
open PySem L2
open PyProof.Rows hiding St
section
variable {X : Cx} {F : Addr → Prop} {Wx : WX} {a b c e o : Expr} {es : List Expr} {pos p apos cpos : Pos} {ia ib ic : IE} {it : IT} {i : IA} {x : Str}
def tPeek (it : IT) : IT := fun _ st Q => it (fun _ _ => False) st.pk fun b _ => Q b st
def gInD (neg : Bool) : W → W → (W → Prop) → Prop := fun x y P => match y with
  | .lst ws => okD 60 x = true ∧ ws.all (okD 60) = true ∧ P (.bl (if neg then !inW x ws else inW x ws))
  | _ => False
end
section
variable {X : Cx}
end
section
variable {X : Cx} {F : Addr → Prop} {Wx : WX} {o e : Expr} {apos cpos px : Pos} {ia ib : IE} {x name : Str} {id : String}
end
section
variable {X : Cx} {F : Addr → Prop} {Wx : WX} {apos cpos px : Pos} {x name : Str} {id : String}
end
section
variable {X : Cx} {F : Addr → Prop} {Wx : WX} {e : Expr} {es : List Expr} {pos p : Pos} {i : IA} {n : Nat}
end
theorem pt_w {X : Cx} {e : Expr} {t : TT} (h : PW X e t) : PT X e t := h.pt
end Sh
namespace Sh
open PySem L2
open PyProof.Rows hiding St
section
variable {X : Cx} {F : Addr → Prop} {Wx : WX} {tg a b c : Expr} {pos p : Pos} {ia ib ic : IE}
end
section
variable {X : Cx} {F : Addr → Prop} {Wx : WX} {e : Expr} {es : List Expr} {pos p : Pos} {i : IA} {n : Nat}
def max3 (i j k : Int) : Int := if j > i then (if k > j then k else j) else (if k > i then k else i)
def gMax3 : List W → (W → Prop) → Prop := fun ws P => match ws with
  | [.int a, .int b, .int c] => P (.int (max3 a b c))
  | _ => False
end
end Sh
namespace Sh
open PySem L2
open PyProof.Rows hiding St
def okN : Nat → W → Bool
  | _, .non => true
  | _, .bl _ => true
  | _, .int _ => true
  | _, .str _ => true
  | n + 1, .tup ws => ws.all (okN n)
  | n + 1, .lst ws => ws.all (okN n)
  | n + 1, .dct kvs => kvs.all fun p => okN n p.2
  | _, _ => false
mutual
def toN : W → PyData
  | .bl b => .bool b
  | .int i => .int i
  | .str x => .str x
  | .tup ws => .tuple (toNs ws)
  | .lst ws => .list (toNs ws)
  | .dct kvs => .dict (toNk kvs)
  | _ => .none
def toNs : List W → List PyData
  | [] => []
  | w :: ws => toN w :: toNs ws
def toNk : List (Key × W) → List (PyData × PyData)
  | [] => []
  | (k, w) :: r => (keyD k, toN w) :: toNk r
end
mutual
inductive Dn (K : PySem.W.Frag) (H : Hp) : V → PyData → Prop
  | non : Dn K H .non .none
  | bl (b : Bool) : Dn K H (.bl b) (.bool b)
  | int (i : Int) : Dn K H (.int i) (.int i)
  | str (x : Str) : Dn K H (.str x) (.str x)
  | lst {a : Addr} {xs : List V} {ds : List PyData} : SqL K H a xs → DnAll K H xs ds → Dn K H (.ref a) (.list ds)
  | tup {a : Addr} {xs : List V} {ds : List PyData} : SqT K H a xs → DnAll K H xs ds → Dn K H (.ref a) (.tuple ds)
  | dct {a : Addr} {ks : List (Key × V)} {ds : List (PyData × PyData)} : H a = some (.dK ks) → DnKs K H ks ds → Dn K H (.ref a) (.dict ds)
inductive DnAll (K : PySem.W.Frag) (H : Hp) : List V → List PyData → Prop
  | nil : DnAll K H [] []
  | cons {v : V} {vs : List V} {d : PyData} {ds : List PyData} : Dn K H v d → DnAll K H vs ds → DnAll K H (v :: vs) (d :: ds)
inductive DnKs (K : PySem.W.Frag) (H : Hp) : List (Key × V) → List (PyData × PyData) → Prop
  | nil : DnKs K H [] []
  | cons {k : Key} {v : V} {vs : List (Key × V)} {d : PyData} {ds : List (PyData × PyData)} : Dn K H v d → DnKs K H vs ds → DnKs K H ((k, v) :: vs) ((keyD k, d) :: ds)
end
section
variable {K : PySem.W.Frag} {Lv : Addr → Prop} {H : Hp}
mutual
theorem dn_of : ∀ {n : Nat} (w : W) {v : V}, okN n w = true → RelW K Lv H w v → Dn K H v (toN w)
  | _, .non, _, _, .non => .non
  | _, .bl b, _, _, .bl _ => .bl b
  | _, .int i, _, _, .int _ => .int i
  | _, .str x, _, _, .str _ => .str x
  | n + 1, .tup ws, _, h, .tup f r => .tup f.sq (dns_of ws (show ws.all (okN n) = true from h) r)
  | n + 1, .lst ws, _, h, .lst f r => .lst f.sq (dns_of ws (show ws.all (okN n) = true from h) r)
  | n + 1, .dct kvs, _, h, .dct e _ r => .dct e (dnk_of kvs (show (kvs.all fun p => okN n p.2) = true from h) r)
  | 0, .tup ws, _, h, _ => by simp [okN] at h
  | 0, .lst ws, _, h, _ => by simp [okN] at h
  | 0, .dct ws, _, h, _ => by simp [okN] at h
  | n, .obj _ _, _, h, _ => by cases n <;> simp [okN] at h
  | n, .dcT _, _, h, _ => by cases n <;> simp [okN] at h
  | n, .exn _ _ _ _, _, h, _ => by cases n <;> simp [okN] at h
  | n, .ref _, _, h, _ => by cases n <;> simp [okN] at h
  | n, .ty _, _, h, _ => by cases n <;> simp [okN] at h
  | n, .scr _, _, h, _ => by cases n <;> simp [okN] at h
  | n, .glo _, _, h, _ => by cases n <;> simp [okN] at h
theorem dns_of : ∀ {n : Nat} (ws : List W) {vs : List V}, ws.all (okN n) = true → RelWs K Lv H ws vs → DnAll K H vs (toNs ws)
  | _, [], _, _, .nil => .nil
  | n, w :: ws, _, h, .cons r rs => by
    rw [List.all_cons, Bool.and_eq_true] at h
    exact .cons (dn_of w h.1 r) (dns_of ws h.2 rs)
theorem dnk_of : ∀ {n : Nat} (ws : List (Key × W)) {vs : List (Key × V)}, (ws.all fun p => okN n p.2) = true → RelKs K Lv H ws vs → DnKs K H vs (toNk ws)
  | _, [], _, _, .nil => .nil
  | n, (k, w) :: ws, _, h, .cons r rs => by
    rw [List.all_cons, Bool.and_eq_true] at h
    exact .cons (dn_of w h.1 r) (dnk_of ws h.2 rs)
end
end
/-- the interpreter's own dict is among what is looked at -/
def sysB (K : PySem.W.Frag) : Bool := match K.lookup sysModules with
  | some ⟨_, _, .dict _ _, _⟩ => true
  | _ => false
section
variable {X : Cx} {pins : List (Addr × Obj)} {σ : St} {H : Hp} {s : Shared}
theorem sys_at (I : Inv X pins σ H s) (h : sysB X.K = true) : ∃ o es n, s.heap.get? sysModules = some o ∧ o.data = .dict es n := by
  unfold sysB at h
  split at h
  · rename_i e
    exact ⟨_, _, _, I.kIn _ _ e, rfl⟩
  · cases h
mutual
theorem Dn.reads (I : Inv X pins σ H s) (hs : sysB X.K = true) : ∀ {d : PyData} {v : V} (u : Value), Dn X.K H v d → RelV v u → ∃ as, Reads s.heap u d as ∧ sysModules ∉ as
  | _, _, _, .non, r => by
    cases r
    exact ⟨_, Reads.none, by simp⟩
  | _, _, _, .bl b, r => by
    cases r
    exact ⟨_, Reads.bool b, by simp⟩
  | _, _, _, .int i, r => by
    obtain ⟨t, rfl⟩ := r
    exact ⟨_, Reads.int i t, by simp⟩
  | _, _, _, .str x, r => by
    obtain ⟨t, rfl⟩ := r
    exact ⟨_, Reads.str x t, by simp⟩
  | _, _, _, .lst (a := a) h1 h2, r => by
    cases r
    obtain ⟨its, rv, ⟨o, n, ho, hc, _, hd⟩, _⟩ := I.list h1
    obtain ⟨as, hr, hn⟩ := Dn.readsAll I hs its h2 rv
    refine ⟨_, Reads.list ho hc hd hr, fun z => ?_⟩
    rcases List.mem_cons.mp z with z | z
    · obtain ⟨o', _, _, e1, e2⟩ := sys_at I hs
      rw [z, ho] at e1
      cases e1
      rw [hd] at e2
      cases e2
    · exact hn z
  | _, _, _, .tup h1 h2, r => by
    cases r
    obtain ⟨its, rv, ⟨o, ho, hc, n, hd⟩, _⟩ := I.tuple h1
    obtain ⟨as, hr, hn⟩ := Dn.readsAll I hs its h2 rv
    exact ⟨_, Reads.tuple ho hc hd hr, hn⟩
  | _, _, _, .dct (a := a) (ks := ks) h1 h2, r => by
    cases r
    obtain ⟨_, ysm, va, kv, o, es, ep, ho, hex, hdat, _, pr, _⟩ := (show ObjOk X.prog X.w H s.heap a (.dK ks) from I.hok a _ h1)
    obtain ⟨bs, hk, hv, hn⟩ := Dn.readsKs I hs pr kv h2
    refine ⟨_, Reads.dict ho hex.1 hdat hk hv, fun z => ?_⟩
    simp only [List.append_nil, List.cons_append, List.nil_append, List.mem_cons] at z
    rcases z with z | z
    · rw [z] at ysm
      simp at ysm
    · exact hn z
theorem Dn.readsAll (I : Inv X pins σ H s) (hs : sysB X.K = true) : ∀ {ds : List PyData} {vs : List V} (us : List Value), DnAll X.K H vs ds → Vals vs us → ∃ as, ReadsAll s.heap us ds as ∧ sysModules ∉ as
  | _, _, _, .nil, r => by
    cases r
    exact ⟨_, ReadsAll.nil, by simp⟩
  | _, _, _, .cons h1 h2, r => by
    cases r with
    | cons r1 r2 =>
      obtain ⟨as, q1, n1⟩ := Dn.reads I hs _ h1 r1
      obtain ⟨bs, q2, n2⟩ := Dn.readsAll I hs _ h2 r2
      exact ⟨_, ReadsAll.cons q1 q2, fun z => (List.mem_append.mp z).elim n1 n2⟩
theorem Dn.readsKs (I : Inv X pins σ H s) (hs : sysB X.K = true) : ∀ {es : List DictEntry} {va : List (Key × Value)} {ks : List (Key × V)} {D : List (PyData × PyData)}, Pairs (mixKind X.prog X.w) es va → KV ks va → DnKs X.K H ks D →
    ∃ bs, ReadsAll s.heap (es.map (·.key)) (D.map (·.1)) [] ∧ ReadsAll s.heap (es.map (·.val)) (D.map (·.2)) bs ∧ sysModules ∉ bs
  | _, _, _, _, .nil, kv, .nil => ⟨_, .nil, .nil, by simp⟩
  | _, _, _, _, .cons h1 h2 r, kv, .cons d1 dr => by
    cases kv with
    | cons k1 kr =>
    obtain ⟨k1a, k1b⟩ := k1
    obtain ⟨as, q1, n1⟩ := Dn.reads I hs _ d1 k1b
    obtain ⟨bs, i1, i2, n2⟩ := Dn.readsKs I hs r kr dr
    refine ⟨as ++ bs, ?_, ?_, fun z => (List.mem_append.mp z).elim n1 n2⟩
    · rw [List.map_cons, List.map_cons]
      refine .cons (as := []) ?_ i1
      rw [← k1a] at h1
      rcases keyIs_shape h1 with ⟨i, t, e1, e2⟩ | ⟨x, t, e1, e2⟩
      · simp only at e1; subst e1; rw [e2]; exact Reads.int i t
      · simp only at e1; subst e1; rw [e2]; exact Reads.str x t
    · rw [List.map_cons, List.map_cons, h2]
      exact .cons q1 i2
end
end
mutual
theorem depth_of : ∀ {n : Nat} (w : W), okN n w = true → (toN w).depth ≤ n
  | _, .non, _ => Nat.zero_le _
  | _, .bl b, _ => Nat.zero_le _
  | _, .int i, _ => Nat.zero_le _
  | _, .str x, _ => Nat.zero_le _
  | n + 1, .tup ws, h => by
    have := depths_of ws (show ws.all (okN n) = true from h)
    show PyData.depthAll (toNs ws) + 1 ≤ n + 1
    omega
  | n + 1, .lst ws, h => by
    have := depths_of ws (show ws.all (okN n) = true from h)
    show PyData.depthAll (toNs ws) + 1 ≤ n + 1
    omega
  | n + 1, .dct ws, h => by
    have := depthk_of ws (show (ws.all fun p => okN n p.2) = true from h)
    show PyData.depthKv (toNk ws) + 1 ≤ n + 1
    omega
  | 0, .tup ws, h => by simp [okN] at h
  | 0, .lst ws, h => by simp [okN] at h
  | 0, .dct ws, h => by simp [okN] at h
  | n, .obj _ _, h => by cases n <;> simp [okN] at h
  | n, .dcT _, h => by cases n <;> simp [okN] at h
  | n, .exn _ _ _ _, h => by cases n <;> simp [okN] at h
  | n, .ref _, h => by cases n <;> simp [okN] at h
  | n, .ty _, h => by cases n <;> simp [okN] at h
  | n, .scr _, h => by cases n <;> simp [okN] at h
  | n, .glo _, h => by cases n <;> simp [okN] at h
theorem depths_of : ∀ {n : Nat} (ws : List W), ws.all (okN n) = true → PyData.depthAll (toNs ws) ≤ n
  | _, [], _ => Nat.zero_le _
  | n, w :: ws, h => by
    rw [List.all_cons, Bool.and_eq_true] at h
    have a := depth_of w h.1
    have b := depths_of ws h.2
    show max (toN w).depth (PyData.depthAll (toNs ws)) ≤ n
    omega
theorem depthk_of : ∀ {n : Nat} (ws : List (Key × W)), (ws.all fun p => okN n p.2) = true → PyData.depthKv (toNk ws) ≤ n
  | _, [], _ => Nat.zero_le _
  | n, (k, w) :: ws, h => by
    rw [List.all_cons, Bool.and_eq_true] at h
    have a := depth_of w h.1
    have b := depthk_of ws h.2
    show max (max (keyD k).depth (toN w).depth) (PyData.depthKv (toNk ws)) ≤ n
    rw [keyD_depth]
    omega
end
def RepN (w : W) : Prop := okN 60 w = true ∧ (toN w).showable = true ∧ (toN w).shown.length ≤ sizeLine
def refW : W → Bool
  | .tup _ => true
  | .lst _ => true
  | .dct _ => true
  | _ => false
theorem refW_tup (ws : List W) : refW (.tup ws) = true := rfl
theorem refW_lst (ws : List W) : refW (.lst ws) = true := rfl
theorem refW_dct (ws : List (Key × W)) : refW (.dct ws) = true := rfl
theorem refW_int (i : Int) : refW (.int i) = false := rfl
theorem refW_str (x : Str) : refW (.str x) = false := rfl
theorem refW_bl (b : Bool) : refW (.bl b) = false := rfl
theorem refW_non : refW .non = false := rfl
def gReprN : List W → (W → Prop) → Prop := fun ws P => match ws with
  | [w] => if refW w = true then RepN w ∧ P (.str (toN w).shown) else RepOk w ∧ P (.str (toD w).shown)
  | _ => False
def rReprN (K : PySem.W.Frag) : List V → Hp → VK → Prop := fun vs H Q => ∃ (a : Addr) (d : PyData), vs = [.ref a] ∧ Dn K H (.ref a) d ∧ d.showable = true ∧ d.shown.length ≤ sizeLine ∧ d.depth ≤ 60 ∧ Q (.str d.shown) H
def rReprNX (K : PySem.W.Frag) : List V → Hp → VK → Prop := fun vs H Q => rRepr K vs H Q ∨ rReprN K vs H Q
section
variable {X : Cx} {F : Addr → Prop} {Wx : WX} {a b c e : Expr} {es : List Expr} {pos p : Pos} {ia ib : IE} {n : Nat} {i : IA}
theorem cr_reprN (sys : sysB X.K = true) (hgd : X.A.guards = some []) (hu : X.A.units + 64 < cLine) : CallR X (.builtin "repr") (rReprN X.K) := by
  intro pins s σ H xs us Q I r h
  obtain ⟨a, d, rfl, hd, hs, hz, hdp, q⟩ := h
  obtain ⟨u, rfl, ru⟩ := vals1 r
  cases (show u = Value.ref a from ru)
  obtain ⟨as, rr, hn⟩ := Dn.reads I sys _ hd ru
  exact PySem.repr_of_reads' rr hs (fun _ => hn) hgd (by omega) (fun _ _ e => e) (fun h' u tk hk => ⟨.str _, H, I.kept hk, ⟨_, rfl⟩, q⟩) hz
theorem ref_of {K : PySem.W.Frag} {Lv : Addr → Prop} {H : Hp} {w : W} {v : V} (h : refW w = true) (r : RelW K Lv H w v) : ∃ a, v = .ref a := by
  cases r <;> first | exact ⟨_, rfl⟩ | cases h
theorem bt_reprN {K : PySem.W.Frag} : BtG K (rReprNX K) gReprN := by
  intro F st σ H ws vs P Q h l r k
  unfold gReprN at h
  split at h
  · rename_i _ w
    split at h
    · rename_i hr
      obtain ⟨⟨h1, h2, h3⟩, p⟩ := h
      cases r with
      | cons ra r1 =>
      cases r1
      obtain ⟨a, rfl⟩ := ref_of hr ra
      exact .inr ⟨a, _, rfl, dn_of w h1 ra, h2, h3, depth_of w h1, k _ _ H p l .refl (.str _)⟩
    · have h2 : gRepr [w] P := h
      exact .inl (bt_repr h2 l r k)
  · exact h.elim
theorem i_reprN (sys : sysB X.K = true) (hgd : X.A.guards = some []) (hu : X.A.units + 64 < cLine) (hm : X.mg "repr" = none) (ha : PA X (e :: es) (LA X.K F Wx n i)) (hg : Gl X "repr" := by rfl) (he : starEach (e :: es) X.env = (false, eval e X.env) :: starEach es X.env := by rfl) (hpl : (backTo pos (starEach es X.env)).any (·.1) = false := by rfl) :
    PE X (.Call (.Name "repr" p) (e :: es) [] pos) (LE X.K F Wx (iFn gReprN i)) := i_fn ((cr_repr hgd hu).or (cr_reprN sys hgd hu)) bt_reprN hm boot_repr' ha hg (by decide) (by decide) he hpl
end
section
variable {K : PySem.W.Frag} {Lv Lv' : Addr → Prop} {H : Hp}
end
section
variable {X : Cx} {pins : List (Addr × Obj)} {σ : St} {H : Hp} {s : Shared}
end
def gEqN : W → W → (W → Prop) → Prop := fun x y P => (x = y ∧ refW x = true ∧ okN 60 x = true ∧ P (.bl true)) ∨ (∃ us vs, x = .lst us ∧ y = .lst vs ∧ us.length ≠ vs.length ∧ P (.bl false)) ∨ gEq x y P
section
variable {X : Cx} {F : Addr → Prop} {Wx : WX} {a b : Expr} {pos : Pos} {ia ib : IE}
end
end Sh
namespace Sh
open PySem L2
open PyProof.Rows hiding St
def TupB (xs : List V) (p : Addr) : HO := .ext fun h => ∃ its : List Value, Vals xs its ∧ h.get? p = some { cls := .type "tuple", data := .seq its.toArray }
section
variable {X : Cx}
def rSlB (K : PySem.W.Frag) : V → Option Int → Option Int → Hp → VK → Prop := fun x lo hi H Q => ∃ a xs, x = .ref a ∧ SqT K H a xs ∧ ¬ (HT.sIx xs.length 0 lo = 0 ∧ HT.sIx xs.length xs.length hi = xs.length) ∧
  ∀ p, H p = none → Q (.ref p) (upd H p (TupB (cutV xs lo hi) p))
theorem sl_tupB : SlR X (rSlB X.K) := by
  intro pins s σ H x v vl vu lo hi sl Q I rx hs pl pu h
  obtain ⟨a, xs, rfl, hx, hw, q⟩ := h
  cases rx
  obtain ⟨its, r, ht, hz⟩ := I.tuple hx
  have hlen : its.toArray.size = xs.length := by rw [List.size_toArray]; exact r.length.symm
  refine ⟨"tuple", _, PyProof.Rows.slot_tuple_getitem.lookup, ht.typeIs, ?_⟩
  refine HT.getItem_tuple_cut ht hs pl pu (by rw [hlen]; exact hw) ?_ (by rw [hlen]; exact hz)
  rw [hlen]
  have r2 : Vals (cutV xs lo hi) ((its.toArray.toList.drop (HT.sIx xs.length 0 lo)).take (HT.sIx xs.length xs.length hi - HT.sIx xs.length 0 lo)) := (r.drop (HT.sIx xs.length 0 lo)).take (HT.sIx xs.length xs.length hi - HT.sIx xs.length 0 lo)
  refine ⟨.ref s.heap.objs.size, _, I.laid (t' := s.toks) (o := TupB (cutV xs lo hi) s.heap.objs.size) (fun b ob q => Heap.get?_push_of_some _ q) (Nat.le_refl _) ?_, rfl, q _ (I.hok.fresh (Nat.le_refl _))⟩
  exact ⟨⟨_, r2, Heap.get?_push_size _ rfl⟩, ⟨_, Heap.get?_push_size _ rfl⟩, fun h1 h2 ⟨z, r3, e⟩ k => ⟨z, r3, k _ e⟩⟩
variable {o e : Expr} {es : List Expr} {to : TE} {t : TA} {apos cpos : Pos}
def tIdxB (to : TE) (t : TA) : TE := fun σ H Q => to σ H fun x H1 => ∃ p ys, x = .ref p ∧ H1 p = some (TupB ys p) ∧ t σ H1 fun xs H2 => ∃ (ns : List Int) (k : Int), ys = ns.map V.int ∧ H2 p = some (TupB ys p) ∧ xs = [.int k] ∧ k ∈ ns ∧ Q (.int (ns.idxOf k : Nat)) H2
theorem pe_idxB (ho : PE X o to) (ha : PA X (e :: es) t)
    (hbase : attributeBase o "index" X.env (eval o X.env) = eval o X.env := by rfl)
    (hfew : ((backTo cpos (starEach (e :: es) X.env)).all (fun x => !x.1) && (backToKw cpos (keywordEach [] X.env)).all (fun x => x.1.isSome)
      && decide ((e :: es).length + ([] : List Keyword).length + (if ([] : List Keyword).isEmpty then 0 else 1) < 30)) = true := by rfl)
    (hline : (apos.endLine == cpos.line) = true := by rfl) (hs : starEach (e :: es) X.env = (false, eval e X.env) :: starEach es X.env := by rfl) (hplain : (backTo cpos (starEach es X.env)).any (·.1) = false := by rfl) :
    PE X (.Call (.Attribute o "index" apos) (e :: es) [] cpos) (tIdxB to t) := by
  refine ⟨fun pins s σ H Q I h => ?_⟩
  refine wpAny_Call_method_late hbase hfew hline rfl (thn (ho.run pins s σ H _ I h) fun v s1 ⟨x, H1, I1, r1, p, ys, e1, hp, q1⟩ => ?_)
  subst e1
  cases r1
  have z := I1.hok p _ hp
  obtain ⟨⟨its, rv, eg⟩, _⟩ := z
  have h1 : s1.TypeIs (.ref p) "tuple" := ⟨_, eg, rfl⟩
  have h2 : ∀ a, Value.ref p = .ref a → ∃ ob, s1.heap.get? a = some ob ∧ ob.dict = none := fun a ea => by cases ea; exact ⟨_, eg, rfl⟩
  refine ⟨"tuple", "tuple.index", PySem.F.plainAttrs_tuple, PySem.F.slot_tuple_index, PySem.F.type_tuple_index, h1, h2, ?_⟩
  have hA := ha.run cpos pins s1 σ H1 _ I1 q1
  rw [hs] at hA ⊢
  refine Calls.callWith_builtin (by show (false || (backTo cpos (starEach es X.env)).any (·.1)) = false; rw [hplain] <;> rfl) (Calls.evalArgs_plain ?_)
  refine thn hA fun us s2 ⟨vs, H2, I2, r2, ns, k, e2, hp2, e3, hk, q2⟩ => ?_
  subst e2 e3
  cases r2 with
  | cons ry rt =>
    cases rt
    obtain ⟨tk, rfl⟩ := ry
    obtain ⟨⟨its2, rv2, eg2⟩, _⟩ := I2.hok p _ hp2
    refine SeqAt.tuple_index_ints (vs := its2) (ns := ns) ⟨_, eg2, rfl, _, rfl⟩ (intsAre_of rv2) hk ?_
    exact ⟨.int (ns.idxOf k : Nat), H2, I2.tok _, ⟨_, rfl⟩, q2⟩
end
section
variable {X : Cx} {F : Addr → Prop} {Wx : WX} {a o e : Expr} {apos cpos pos p2 : Pos} {ia : IE}
def iIdxT (ia : IE) (lo hi : IO') (i : IA) : IE := fun EI st Q => ia EI st fun x st1 => lo EI st1 fun l st2 => hi EI st2 fun u st3 => match x with
  | .tup ws => ¬ (HT.sIx ws.length 0 l = 0 ∧ HT.sIx ws.length ws.length u = ws.length) ∧ i EI st3 fun as st4 => match as with
    | [.int k] => ∃ ns : List Int, cutW ws l u = ns.map W.int ∧ k ∈ ns ∧ Q (.int (ns.idxOf k : Nat)) st4
    | _ => False
  | _ => False
theorem rel_ints {K : PySem.W.Frag} {Lv : Addr → Prop} {H : Hp} : ∀ {ns : List Int} {vs : List V}, RelWs K Lv H (ns.map W.int) vs → vs = ns.map V.int
  | [], _, .nil => rfl
  | n :: ns, _, .cons h r => by cases h; rw [rel_ints r]; rfl
theorem i_idxT {n : Nat} {lo hi : Option Expr} {il ih : IO'} {i : IA} (ho : PE X a (LE X.K F Wx ia)) (hl : PO X lo (LO X.K F Wx il)) (hh : PO X hi (LO X.K F Wx ih)) (ha : PA X [e] (LA X.K F Wx n i))
    (hbase : attributeBase (.Subscript a (.Slice lo hi none p2) pos) "index" X.env (eval (.Subscript a (.Slice lo hi none p2) pos) X.env) = eval (.Subscript a (.Slice lo hi none p2) pos) X.env := by rfl)
    (hfew : ((backTo cpos (starEach [e] X.env)).all (fun x => !x.1) && (backToKw cpos (keywordEach [] X.env)).all (fun x => x.1.isSome) && decide ([e].length + ([] : List Keyword).length + (if ([] : List Keyword).isEmpty then 0 else 1) < 30)) = true := by rfl)
    (hline : (apos.endLine == cpos.line) = true := by rfl) (hs : starEach [e] X.env = (false, eval e X.env) :: starEach [] X.env := by rfl) (hplain : (backTo cpos (starEach [] X.env)).any (·.1) = false := by rfl) :
    PE X (.Call (.Attribute (.Subscript a (.Slice lo hi none p2) pos) "index" apos) [e] [] cpos) (LE X.K F Wx (iIdxT ia il ih i)) := by
  refine pe_imp (pe_idxB (pe_slice sl_tupB ho hl hh) ha hbase hfew hline hs hplain) fun σ H Q h => ?_
  obtain ⟨st, QI, EI, l, q, ux, k⟩ := h
  refine ⟨st, _, EI, l, q, ux, fun x st1 v H1 q1 l1 s1 r1 => ⟨st1, _, EI, l1, q1, ux.step s1, fun lo st2 H2 q2 l2 s2 => ⟨st2, _, EI, l2, q2, ux.step (s1.trans s2), fun hi st3 H3 q3 l3 s3 => ?_⟩⟩⟩
  have r3 := (r1.mono s2.mv).mono s3.mv
  split at q3
  · cases r3 with
    | tup f r =>
      rename_i vs
      obtain ⟨hw, q3⟩ := q3
      refine ⟨_, vs, rfl, f.sq, by rw [← r.length]; exact hw, fun p hp => ?_⟩
      have s4 := Step.laid (o := TupB (cutV vs lo hi) p) l3 hp
      have l4 := l3.laid (o := TupB (cutV vs lo hi) p) hp
      have s14 := ((s1.trans s2).trans s3).trans s4
      have nW : ¬ Wr st3 σ p := fun z => l3.fresh hp (.inl z)
      refine ⟨p, _, rfl, upd_same, st3, _, EI, l4, q3, ux.step s14, fun as st5 us H5 hn q5 l5 s5 r5 => ?_⟩
      split at q5
      · obtain ⟨ns, e1, hk, q5⟩ := q5
        cases r5 with
        | cons ry rt =>
          cases rt
          cases ry
          have rc := cut_rel r lo hi
          rw [e1] at rc
          exact ⟨ns, _, rel_ints rc, s5.keep _ _ upd_same nW, rfl, hk, k _ st5 _ H5 q5 l5 (s14.trans s5) (.int _)⟩
      · exact q5.elim
  · exact q3.elim
def iIdxL (ia : IE) (i : IA) : IE := fun EI st Q => ia EI st fun x st1 => match x with
  | .lst ws => i EI st1 fun as st2 => match as with
    | [.int k] => ∃ ns : List Int, ws = ns.map W.int ∧ k ∈ ns ∧ Q (.int (ns.idxOf k : Nat)) st2
    | _ => False
  | _ => False
end
end Sh
namespace Sh
open PySem L2
open PyProof.Rows hiding St
section
variable {X : Cx}
end
section
variable {X : Cx} {F : Addr → Prop} {Wx : WX} {a b c e o : Expr} {es : List Expr} {apos cpos pos p2 pos2 px : Pos} {ia ib : IE} {x name : Str} {id : String} {k' n : Nat} {i : IA} {nn : IN} {m : Str} {tb : List (Str × ISp)}
def iInRg (neg : Bool) (ia : IE) (i : IA) : IE := fun EI st Q => ia EI st fun x st1 => i EI st1 fun ws st2 => match x, ws with
  | .int k, [.int hi] => Q (.bl (if neg = true then !decide (0 ≤ k ∧ k < hi) else decide (0 ≤ k ∧ k < hi))) st2
  | .int k, [.int lo, .int hi] => Q (.bl (if neg = true then !decide (lo ≤ k ∧ k < hi) else decide (lo ≤ k ∧ k < hi))) st2
  | _, _ => False
def nSl (ia : IE) (lo hi : IO') : IN := fun EI st Q => ia EI st fun x st1 => lo EI st1 fun i st2 => hi EI st2 fun j st3 => match x with
  | .lst ws => Q (.lst (cutW ws i j)) st3
  | .scr ns => Q (.lst ((cutW ns i j).map .int)) st3
  | _ => False
def nAdd (ia ib : IE) : IN := fun EI st Q => ia EI st fun x st1 => ib EI st1 fun y st2 => match x, y with
  | .lst ws, .lst us => ws.length + us.length ≤ sizeLine ∧ Q (.lst (ws ++ us)) st2
  | _, _ => False
def nAddO (j : Nat) (ib : IE) : IN := fun EI st Q => ownL st j fun _ => ib EI st fun y st1 => ownL st1 j fun ws => match y with
  | .lst us => ws.length + us.length ≤ sizeLine ∧ Q (.lst (ws ++ us)) st1
  | _ => False
theorem n_addO {j : Nat} (hb : PE X b (LE X.K F Wx ib)) (hN : X.N[j]? = some x := by rfl) (hv : Vis X.env.scope x := by first | exact Or.inl rfl | exact Or.inr (Or.inl rfl) | exact Or.inr (Or.inr rfl)) (hd : (x == ("__debug__" : Str)) = false := by decide)
    (hcd : (x == ("__classdict__" : Str)) = false := by decide) : PE X (.BinOp (.Name x px) .Add b pos) (LN X.K F Wx (nAddO j ib)) := by
  refine pe_imp (pe_op op_cat (pe_var hN hv hd hcd) hb) fun σ H Q h => ?_
  obtain ⟨st, QI, EI, l, q, ux, k⟩ := h
  obtain ⟨ws0, e0, q⟩ := ownL_inv q
  obtain ⟨a, ea, _⟩ := l.own j _ e0
  refine ⟨.ref a, ea, st, _, EI, l, q, ux, fun y st1 u H1 q1 l1 s1 r1 => ?_⟩
  obtain ⟨ws, es, q1⟩ := ownL_inv q1
  split at q1
  · obtain ⟨a', ea', ⟨vs, hv, r⟩, _, _⟩ := l1.own j _ es
    rw [ea] at ea'
    cases ea'
    cases r1 with
    | lst f rs =>
      rename_i b' us'
      refine ⟨_, _, _, _, rfl, rfl, hv, f.1, by rw [← r.length, ← rs.length]; exact q1.1, fun p hp => ?_⟩
      obtain ⟨l4, s4, r4, n4⟩ := lay_new l1 (r.append rs) hp
      exact k _ st1 p _ q1.2 l4 (s1.trans s4) r4 (n4.step s1)
  · exact q1.elim
/-- an owned object is given away -/
def nOwn (j : Nat) : IN := fun _ st Q => match st.ρ[j]? with
  | some (.own o) => Q o ⟨st.ρ.set j .none, st.S⟩
  | _ => False
/-- a method of a new list that nobody holds: e.append(x) -/
def iMtN (nn : IN) (g : List W → List W → (List W → W → Prop) → Prop) (i : IA) : IE := fun EI st Q => nn EI st fun o st1 => match o with
  | .lst ws => i noX st1 fun as st2 => g ws as fun _ w => w = .non ∧ Q .non st2
  | _ => False
end
end Sh
namespace Sh
open PySem L2
open PyProof.Rows hiding St
section
variable {prog : Program} {w : World} {A : Around} {E : Value → Shared → Prop} {s : Shared}
end
section
variable {X : Cx}
end
section
variable {X : Cx} {F : Addr → Prop} {Wx : WX} {e : Expr} {es : List Expr} {pos p : Pos} {i : IA} {n : Nat}
end
end Sh
namespace Sh
open PySem L2
open PyProof.Rows hiding St
open He (ga ma)
section
variable {X : Cx} {pins : List (Addr × Obj)} {σ : L2.St} {H : Hp} {s : Shared}
theorem rd_upd {H : Hp} {t q : Addr} {o u : HO} (h : Rd H t o) (hq : H q = none) : Rd (upd H q u) t o := by
  rcases h with h | ⟨z, h⟩
  · exact .inl ((upd_ne (ne_of_none h hq)).trans h)
  · exact .inr ⟨z, (upd_ne (ne_of_none h hq)).trans h⟩
theorem SqB.upd {K : PySem.W.Frag} {H : Hp} {t q : Addr} {xs : List V} {b : Bool} {u : HO} (h : SqB K H t xs b) (hq : H q = none) : SqB K (upd H q u) t xs b := by
  cases b
  · rcases h with h | h
    · exact .inl (rd_upd h hq)
    · exact .inr h
  · rcases h with h | h
    · exact .inl (rd_upd h hq)
    · exact .inr h
end
section
variable {F : Addr → Prop}
end
def sqW : Option W → Option (List W)
  | some (.tup ws) => some ws
  | some (.lst ws) => some ws
  | _ => none
def lenP (P : Sto → Prop) (r : R) (S' : Sto) : Prop := match r with
  | .val (.int n) => 0 ≤ n ∧ n ≤ sizeLine ∧ P S'
  | _ => False
section
variable {X : Cx} {F : Addr → Prop} {Wx : WX} {a : Expr} {pos p : Pos} {ia : IE} {kI kL : Nat} {tbI : List (Str × Str)} {tbL : List (Str × ISp)}
def nListM (tbI : List (Str × Str)) (tbL : List (Str × ISp)) (ia : IE) : IN := fun EI st Q => ia EI st fun x st1 => objOf st1 x fun C fs => ∃ fld spec ws, tbI.lookup C = some fld ∧ tbL.lookup C = some spec ∧ sqW (fs.lookup fld) = some ws ∧
  spec [x] st1.S (lenP fun S' => Q (.lst ws) { st1 with S := S' }) fun _ _ => False
end
end Sh
namespace Sh
open PySem L2
open PyProof.Rows hiding St
mutual
def drW (S : Sto) : W → W
  | .ref a => (match S a with
    | some (.lst ws) => .lst ws
    | _ => .ref a)
  | .tup ws => .tup (drWs S ws)
  | w => w
def drWs (S : Sto) : List W → List W
  | [] => []
  | w :: ws => drW S w :: drWs S ws
end
section
variable {K : PySem.W.Frag} {F : Addr → Prop} {st : Stt} {σ : L2.St} {H : Hp}
end
section
variable {X : Cx} {F : Addr → Prop} {Wx : WX} {a b c e o : Expr} {es : List Expr} {pos p apos cpos : Pos} {ia ib : IE} {i : IA} {nn : IN} {n : Nat} {x name : Str} {id : String}
def iBR (g : W → W → (W → Prop) → Prop) (ia ib : IE) : IE := fun EI st Q => ia EI st fun x st1 => ib EI st1 fun y st2 => g (drW st2.S x) (drW st2.S y) fun w => ∃ d, w = .bl d ∧ Q (.bl d) st2
def iFnR (g : List W → (W → Prop) → Prop) (i : IA) : IE := fun EI st Q => i EI st fun ws st1 => g (drWs st1.S ws) fun w => ∃ y, w = .str y ∧ Q (.str y) st1
/-- a new object that goes into the store -/
def iPub (nn : IN) : IE := fun EI st Q => nn EI st fun o st1 => ∀ a, st1.S a = none → Q (.ref a) (st1.puts a o)
/-- a method that changes a list of the store -/
def iMtR (ie : IE) (g : List W → List W → (List W → W → Prop) → Prop) (i : IA) : IE := fun EI st Q => ie EI st fun x st1 => ∃ b ws0, x = .ref b ∧ st1.S b = some (.lst ws0) ∧ i EI st1 fun as st2 => ∃ ws, st2.S b = some (.lst ws) ∧ g ws as fun ws' w => Q w (st2.puts b (.lst ws'))
end
end Sh
namespace Sh
open PySem L2
open PyProof.Rows hiding St
section
variable {K : PySem.W.Frag} {Lv : Addr → Prop} {H : Hp}
def valT (ws : List (List Key × W)) (k : List Key) : Option W := (ws.find? fun kv => decide (kv.1 = k)).map (·.2)
def putKT (kvs : List (List Key × W)) (k : List Key) (v : W) : List (List Key × W) := if (kvs.any fun kv => decide (kv.1 = k)) = true then kvs.map (fun kv => if kv.1 = k then (kv.1, v) else kv) else kvs ++ [(k, v)]
theorem RelTs.any {k : List Key} : ∀ {ws : List (List Key × W)} {vs : List (List Key × V)}, RelTs K Lv H ws vs → (ws.any fun kv => decide (kv.1 = k)) = (vs.any fun kv => decide (kv.1 = k))
  | [], _, .nil => rfl
  | _ :: _, _, .cons _ rs => by rw [List.any_cons, List.any_cons, RelTs.any rs]
theorem RelTs.length : ∀ {ws : List (List Key × W)} {vs : List (List Key × V)}, RelTs K Lv H ws vs → ws.length = vs.length
  | [], _, .nil => rfl
  | _ :: _, _, .cons _ rs => by rw [List.length_cons, List.length_cons, RelTs.length rs]
theorem RelTs.set {k : List Key} {w : W} {v : V} (r : RelW K Lv H w v) : ∀ {ws : List (List Key × W)} {vs : List (List Key × V)}, RelTs K Lv H ws vs → RelTs K Lv H (ws.map fun kv => if kv.1 = k then (kv.1, w) else kv) (vs.map fun kv => if kv.1 = k then (kv.1, v) else kv)
  | [], _, .nil => .nil
  | (j, _) :: _, _, .cons h rs => by
    rw [List.map_cons, List.map_cons]
    by_cases z : j = k
    · simp only [z, if_true]; exact .cons r (RelTs.set r rs)
    · simp only [z, if_false]; exact .cons h (RelTs.set r rs)
theorem RelTs.app {ws' : List (List Key × W)} {vs' : List (List Key × V)} (r : RelTs K Lv H ws' vs') : ∀ {ws : List (List Key × W)} {vs : List (List Key × V)}, RelTs K Lv H ws vs → RelTs K Lv H (ws ++ ws') (vs ++ vs')
  | [], _, .nil => r
  | _ :: _, _, .cons h rs => .cons h (RelTs.app r rs)
theorem RelTs.put {k : List Key} {w : W} {v : V} {ws : List (List Key × W)} {vs : List (List Key × V)} (r : RelW K Lv H w v) (rs : RelTs K Lv H ws vs) : RelTs K Lv H (putKT ws k w) (putK vs k v) := by
  unfold putKT putK
  rw [rs.any]
  split
  · exact rs.set r
  · exact RelTs.app (.cons r .nil) rs
end
section
variable {X : Cx} {F : Addr → Prop} {Wx : WX} {a b c e f o : Expr} {es : List Expr} {pos apos cpos p px : Pos} {ia ib ic : IE} {x : Str}
end
end Sh
namespace Sh
open PySem L2
open PyProof.Rows hiding St
open He (ga ma)
section
variable {X : Cx} {F : Addr → Prop} {Wx : WX} {a b c e o : Expr} {es : List Expr} {pos apos p : Pos} {ia ib ic : IE} {C : Str} {k' n : Nat} {spec : ISp} {i : IA}
end
section
variable {K : PySem.W.Frag} {F : Addr → Prop} {Lv Lv' : Addr → Prop} {H : Hp}
theorem RelFs.plain (m : ∀ a vs, H a = some (.tup vs) → ¬ Lv a → ¬ Lv' a) : ∀ {fs : List (Str × W)} {vs : List (Str × V)}, RelFs K Lv H fs vs → plainWs (fs.map (·.2)) = true → RelFs K Lv' H fs vs
  | _, _, .nil, _ => .nil
  | _, _, .cons h r, p => .cons (RelW.plain m h (Bool.and_eq_true_iff.mp p).1) (RelFs.plain m r (Bool.and_eq_true_iff.mp p).2)
end
section
variable {X : Cx} {F : Addr → Prop} {Wx : WX} {a c : Expr} {pos p p1 p2 p3 p4 p5 : Pos} {ia : IE} {it : IT} {C x : Str} {k' : Nat} {spec : ISp}
end
end Sh
namespace Sh
open PySem L2
open PyProof.Rows hiding St
theorem reads_ints {h : Heap} : ∀ {is : List Int} {us : List Value}, Vals (is.map V.int) us → ReadsAll h us (is.map PyData.int) []
  | [], _, .nil => .nil
  | i :: is, _, .cons r rs => by
    obtain ⟨t, rfl⟩ := r
    exact .cons (as := []) (Reads.int i t) (reads_ints rs)
def rSortedG (K : PySem.W.Frag) : List V → Hp → VK → Prop := fun vs H Q => ∃ (a : Addr) (bs : List (V × List Int)), vs = [V.ref a] ∧ SqL K H a (bs.map (·.1)) ∧ (∀ b ∈ bs, b.2 ≠ [] ∧ ∃ t, b.1 = .ref t ∧ SqT K H t (b.2.map V.int)) ∧
  ∀ (zs : List (V × List Int)) (p : Addr), zs.Perm bs → (zs.map (·.2)).Pairwise (· ≤ ·) → H p = none → Q (.ref p) (upd H p (.lst (zs.map (·.1))))
def encB (b : V × List Int) : PyData := .tuple (b.2.map .int)
theorem dataLe_tups : PySem.W.dataLe false encB = fun p q => decide (p.2 ≤ q.2) := by
  funext p q
  show (!PySem.W.dataLt (.tuple (q.2.map .int)) (.tuple (p.2.map .int))) = _
  rw [PySem.W.dataLt_tuple]
  show (!PySem.W.rowLt (q.2.map .int) (p.2.map .int)) = _
  rw [PySem.W.dataLt_ints]
  by_cases h : q.2 < p.2
  · have h' : ¬ p.2 ≤ q.2 := fun r => List.not_lt.mpr r h
    simp [h, h']
  · have h' : p.2 ≤ q.2 := List.not_lt.mp h
    simp [h, h']
section
variable {X : Cx}
theorem each_of {pins : List (Addr × Obj)} {σ : L2.St} {H : Hp} {s : Shared} (I : Inv X pins σ H s) : ∀ {bs : List (V × List Int)} {us : List Value}, Vals (bs.map (·.1)) us → (∀ b ∈ bs, b.2 ≠ [] ∧ ∃ t, b.1 = .ref t ∧ SqT X.K H t (b.2.map V.int)) →
    PySem.W.EachIs (fun v (b : V × List Int) => RelV b.1 v) us bs ∧ PySem.W.EachIs (fun v b => ∃ as, Reads s.heap v (encB b) as) us bs
  | [], _, .nil, _ => ⟨.nil, .nil⟩
  | b :: bs, _, .cons r rs, h => by
    obtain ⟨i1, i2⟩ := each_of I rs fun c hc => h c (List.mem_cons_of_mem _ hc)
    obtain ⟨_, t, e, ht⟩ := h b (List.mem_cons_self ..)
    refine ⟨.cons r i1, .cons ?_ i2⟩
    have r : RelV b.1 _ := r
    rw [e] at r
    cases r
    obtain ⟨its, rv, ⟨o, ho, hc, n, hd⟩, _⟩ := I.tuple ht
    exact ⟨_, Reads.tuple ho hc hd (reads_ints rv)⟩
theorem vals_of_each : ∀ {us : List Value} {bs : List (V × List Int)}, PySem.W.EachIs (fun v (b : V × List Int) => RelV b.1 v) us bs → Vals (bs.map (·.1)) us
  | _, _, .nil => .nil
  | _, _, .cons r rs => .cons r (vals_of_each rs)
theorem pw_of : ∀ (bs : List (V × List Int)), (bs.mergeSort fun p q => decide (p.2 ≤ q.2)).Pairwise fun a b => a.2 ≤ b.2 := fun bs => by
  have := List.pairwise_mergeSort (le := fun (p q : V × List Int) => decide (p.2 ≤ q.2)) (fun a b c h1 h2 => decide_eq_true (List.le_trans (of_decide_eq_true h1) (of_decide_eq_true h2))) (fun a b => by
    rcases List.le_total a.2 b.2 with h | h <;> simp [h]) bs
  exact this.imp fun h => of_decide_eq_true h
theorem cr_sortedG (hu : X.A.units + 64 < cLine) : CallR X (.builtin "sorted") (rSortedG X.K) := by
  intro pins s σ H vs us Q I r h
  obtain ⟨a, bs, rfl, hs, hb, q⟩ := h
  obtain ⟨its, rv, hl, hz⟩ := I.list hs
  rw [Vals.ref1 r]
  obtain ⟨e1, e2⟩ := each_of I rv hb
  have al : PySem.W.AllAlike (bs.map encB) := PySem.W.AllAlike.of fun b b' => by
    show PySem.W.alikeAll (b.2.map .int) (b'.2.map .int) = true
    exact PySem.W.alike_ints _ _
  refine PySem.W.sorted_data (bs := bs) (enc := encB) hl.isList e1 e2 al (.inl fun d hd => ?_) (by rw [List.length_map] at hz; exact hz) (fun b _ => ?_) fun out ho eo => ?_
  · obtain ⟨b, hb2, rfl⟩ := List.mem_map.mp hd
    have n := (hb b hb2).1
    unfold encB
    cases e : b.2 with
    | nil => exact (n e).elim
    | cons x r => exact ⟨_, _, rfl⟩
  · have : (encB b).depth = 1 := by
      show PyData.depthAll (b.2.map .int) + 1 = 1
      rw [PySem.W.depth_ints]
    rw [this]
    omega
  · rw [dataLe_tups] at eo
    have pm := List.mergeSort_perm bs fun (p q : V × List Int) => decide (p.2 ≤ q.2)
    have v := vals_of_each eo
    obtain ⟨ep, hp⟩ := PyProof.Rows.sortedAll_at s.heap its out.toArray
    refine ⟨.ref _, upd H (s.heap.objs.size + 1) (.lst ((bs.mergeSort fun p q => decide (p.2 ≤ q.2)).map (·.1))), I.laid (t' := s.toks) (fun _ _ => PyProof.Rows.sortedAll_old) (Nat.le_succ _) ⟨?_, out, ep, v, hp⟩, rfl, q _ _ pm ?_ (I.hok.fresh (Nat.le_succ _))⟩
    · rw [List.length_map, pm.length_eq]
      rw [List.length_map] at hz
      exact hz
    · exact List.pairwise_map.mpr (pw_of bs)
end
def tupW (is : List Int) : W := .tup (is.map .int)
def gSortedG : List W → (W → Prop) → Prop := fun ws P => ∃ ss : List (List Int), ws = [.lst (ss.map tupW)] ∧ (∀ is ∈ ss, is ≠ []) ∧ ∀ ss' : List (List Int), ss'.Perm ss → ss'.Pairwise (· ≤ ·) → P (.lst (ss'.map tupW))
theorem tups_of {K : PySem.W.Frag} {Lv : Addr → Prop} {H : Hp} : ∀ {ss : List (List Int)} {vs : List V}, RelWs K Lv H (ss.map tupW) vs → ∃ bs : List (V × List Int), bs.map (·.2) = ss ∧ bs.map (·.1) = vs ∧ ∀ b ∈ bs, RelW K Lv H (tupW b.2) b.1
  | [], _, .nil => ⟨[], rfl, rfl, fun z hz => by cases hz⟩
  | p :: ps, _, .cons (v := v) r rs => by
    obtain ⟨zs, e1, e2, h⟩ := tups_of rs
    refine ⟨(v, p) :: zs, by rw [List.map_cons, e1], by rw [List.map_cons, e2], fun z hz => ?_⟩
    rcases List.mem_cons.mp hz with rfl | hz
    · exact r
    · exact h z hz
theorem rel_bs {K : PySem.W.Frag} {Lv : Addr → Prop} {H : Hp} : ∀ {zs : List (V × List Int)}, (∀ z ∈ zs, RelW K Lv H (tupW z.2) z.1) → RelWs K Lv H ((zs.map (·.2)).map tupW) (zs.map (·.1))
  | [], _ => .nil
  | z :: zs, h => .cons (h z (List.mem_cons_self ..)) (rel_bs fun y hy => h y (List.mem_cons_of_mem _ hy))
theorem bt_sortedG {K : PySem.W.Frag} : BtG K (rSortedG K) gSortedG := by
  intro F st σ H ws vs P Q h l r k
  obtain ⟨ss, rfl, hn, h⟩ := h
  cases r with
  | cons r1 r2 =>
    cases r2
    cases r1 with
    | lst f rs =>
      obtain ⟨bs, e1, e2, hb⟩ := tups_of rs
      rw [← e2] at f
      refine ⟨_, bs, rfl, f.sq, fun b mb => ⟨hn _ (by rw [← e1]; exact List.mem_map.mpr ⟨b, mb, rfl⟩), ?_⟩, fun zs p pm pw hp => ?_⟩
      · have r0 := hb b mb
        generalize b.1 = v at r0
        unfold tupW at r0
        cases r0 with
        | tup ft rt =>
          rw [ints_of rt] at ft
          exact ⟨_, rfl, ft.sq⟩
      · have pm2 : (zs.map (·.2)).Perm ss := by rw [← e1]; exact pm.map _
        exact k _ _ _ (h _ pm2 pw) (l.laid hp) (Step.laid l hp) (.lst (FzL.new l hp) ((rel_bs fun y hy => hb y (pm.mem_iff.mp hy)).mono (Step.laid l hp).mv))
section
variable {X : Cx} {F : Addr → Prop} {Wx : WX} {e a : Expr} {es : List Expr} {pos p : Pos} {i : IA} {n : Nat} {ia : IE}
theorem i_sortedG (hu : X.A.units + 64 < cLine) (hm : X.mg "sorted" = none) (ha : PA X (e :: es) (LA X.K F Wx n i)) (hg : Gl X "sorted" := by rfl) (he : starEach (e :: es) X.env = (false, eval e X.env) :: starEach es X.env := by rfl) (hpl : (backTo pos (starEach es X.env)).any (·.1) = false := by rfl) :
    PE X (.Call (.Name "sorted" p) (e :: es) [] pos) (LE X.K F Wx (iFn gSortedG i)) := i_fn (cr_sortedG hu) bt_sortedG hm boot_sorted' ha hg (by decide) (by decide) he hpl
def sAugL (i : Nat) (ia : IE) : IS := fun EI D st => ownL st i fun _ => ia EI st fun y st1 => ownL st1 i fun ws => match y with
  | .lst us => ws.length + us.length ≤ sizeLine ∧ D.nx (st1.put i (.own (.lst (ws ++ us))))
  | _ => False
theorem ip_ext : PIp X .Add rExt2 := fun pins s σ H x y v u Q I rx ry h => iop_ext pins s σ H x y v u Q I rx ry h
theorem set_self {α : Type} {l : List α} {i : Nat} {x : α} (h : l[i]? = some x) : l.set i x = l := by
  refine List.ext_getElem? fun j => ?_
  rw [List.getElem?_set]
  split
  · rename_i z
    subst z
    rw [h]
    obtain ⟨h1, _⟩ := List.getElem?_eq_some_iff.mp h
    rw [if_pos h1]
  · rfl
theorem s_augL (i : Nat) {x : Str} {pos' : Pos} (hN : X.N.Nodup) (ha : PE X a (LE X.K F Wx ia)) (hi : X.N[i]? = some x := by rfl) (hx : Loc X.env.scope x := by first | exact Or.inl rfl | exact Or.inr rfl)
    (hf : X.fn x = true ∨ X.env.scope.names.lookup x = some .local := by first | exact .inl rfl | exact .inr rfl | assumption) : PS X (.AugAssign (.Name x pos') .Add a pos) (LS X.K F Wx (sAugL i ia)) := ps_imp (ps_aug hN hi hx ha ip_ext hf) fun D σ H h => by
  obtain ⟨st, DI, EI, l, q, u⟩ := h
  obtain ⟨ws0, e0, q⟩ := ownL_inv q
  obtain ⟨b, eb, _⟩ := l.own i _ e0
  refine ⟨.ref b, eb, st, _, EI, l, q, u.x, fun y st1 v H1 q1 l1 s1 r1 => ?_⟩
  obtain ⟨ws, e1, q1⟩ := ownL_inv q1
  obtain ⟨b', eb', ⟨vs, hv, rs⟩, _⟩ := l1.own i _ e1
  rw [eb] at eb'
  cases eb'
  split at q1
  · cases r1 with
    | lst f rv =>
      rename_i c us'
      refine ⟨_, _, _, _, rfl, rfl, hv, f.1, by rw [← rs.length, ← rv.length]; exact q1.1, ?_⟩
      have la : Live F st1 σ b := .inl (.inr ⟨i, _, e1, eb⟩)
      have m : Mv (Live F st1 σ) H1 (Live F st1 σ) (upd H1 b (.lst (vs ++ us'))) := Mv.write la fun _ z => z
      rename_i us _
      obtain ⟨l2, s2⟩ := l1.write (o' := .lst (ws ++ us)) (u := .lst (vs ++ us')) e1 eb ⟨_, upd_same, (rs.append rv).mono m⟩
      show D.nx (List.set σ i (some (V.ref b))) _
      rw [set_self eb]
      exact u.nx _ _ _ q1.2 l2 (s1.trans s2)
  · exact q1.elim
def tTruO (j : Nat) : IT := fun _ st Q => ownL st j fun ws => Q (!ws.isEmpty) st
theorem t_truO (j : Nat) {x : Str} {px : Pos} (hN : X.N[j]? = some x := by rfl) (hv : Vis X.env.scope x := by first | exact Or.inl rfl | exact Or.inr (Or.inl rfl) | exact Or.inr (Or.inr rfl)) (hd : (x == ("__debug__" : Str)) = false := by decide)
    (hcd : (x == ("__classdict__" : Str)) = false := by decide) (he : ∀ whole, isTrue (.Name x px) X.env whole = (do let v ← whole; standAt (Expr.Name x px).pos; holding [v] (truthy v)) := by intro _; rfl) : PT X (.Name x px) (LT X.K F Wx (tTruO j)) := by
  refine pt_imp (pt_truth (pe_var hN hv hd hcd) he) fun σ H Q h => ?_
  obtain ⟨st, QI, EI, l, q, ux, k⟩ := h
  obtain ⟨ws, e, q⟩ := ownL_inv q
  obtain ⟨b, eb, ⟨vs, hv2, rs⟩, _⟩ := l.own j _ e
  exact ⟨.ref b, eb, _, .inl ⟨vs, SqL.of hv2, rfl⟩, k _ _ _ (by rw [rs.empty]; exact q) l .refl⟩
end
end Sh
namespace Sh
open PySem L2
open PyProof.Rows hiding St
section
variable {X : Cx} {F : Addr → Prop} {Wx : WX} {vs : List Nat} {a b c e tg : Expr} {es : List Expr} {pos p : Pos} {ia ib ic : IE}
def zipW (xs ys : List W) : List W := List.zipWith (fun x y => W.tup [x, y]) xs ys
def lZip (i : IA) : IL := fun EI st Q => i EI st fun ws st1 => match ws with
  | [.lst xs, .lst ys] => Q (zipW xs ys) st1
  | _ => False
end
end Sh
namespace Sh
open PySem L2
open PyProof.Rows hiding St
def noOwn : Slot → Slot
  | .own _ => .none
  | x => x
def psI : W → Bool
  | .int _ => true
  | _ => false
mutual
def psW : W → Bool
  | .int _ => true
  | .str _ => true
  | .bl _ => true
  | .non => true
  | .ref _ => true
  | .scr _ => true
  | .tup ws => psWs ws
  | .lst ws => ws.all psI
  | _ => false
def psWs : List W → Bool
  | [] => true
  | w :: ws => psW w && psWs ws
end
def psO : SO → Prop
  | .lst ws => psWs ws = true
  | .tbl _ _ => True
  | _ => False
def Stt.ps (st : Stt) (j : Nat) (ws : List W) : Stt := ⟨(st.ρ.map noOwn).set j (.val (.lst ws)), st.S⟩
section
variable {K : PySem.W.Frag} {F : Addr → Prop} {st : Stt} {σ : L2.St} {H H' : Hp} {Lv Lv' : Addr → Prop}
end
section
variable {X : Cx} {F : Addr → Prop} {Wx : WX} {e : Expr} {ie : IE}
def iPeekS (j : Nat) (ie : IE) : IE := fun _ st Q => ∃ tp ws, st.ρ[j]? = some (.own (.lst (.tup tp :: ws))) ∧ ie (fun _ _ => False) (st.ps j (.tup tp :: ws)) fun w st1 =>
  plainW w = true ∧ st1.ρ = (st.ps j (.tup tp :: ws)).ρ ∧ (∀ a o, st1.S a = some o → psO o) ∧ Q w ⟨st.ρ, st1.S⟩
end
end Sh
namespace Sh
open PySem L2
open PyProof.Rows hiding St
section
variable {X : Cx} {F : Addr → Prop} {Wx : WX} {a b : Expr} {pos p : Pos} {ia ib : IE}
end
end Sh
namespace Sh
open PySem L2
open PyProof.Rows hiding St
section
variable {X : Cx} {F : Addr → Prop} {Wx : WX} {a b c e o : Expr} {es : List Expr} {pos p : Pos} {ia ib : IE} {i : IA} {nn : IN}
end
end Sh
namespace Sh
open PySem L2
open PyProof.Rows hiding St
section
variable {X : Cx} {F : Addr → Prop} {Wx : WX} {o e : Expr} {apos cpos : Pos} {ia : IE}
end
section
variable {X : Cx} {F : Addr → Prop} {Wx : WX} {vs : List Nat} {a b c e tg : Expr} {es : List Expr} {pos p : Pos} {ia ib ic : IE} {s : Stmt} {ss : List Stmt} {ip iq : IS} {nn : IN}
variable {elt iter : Expr} {ifs : List Expr} {scope : Scope} {il : IL} {g : IG} {t : IT} {ie : IE}
end
end Sh
namespace Sh
open PySem L2
open PyProof.Rows hiding St
open He (ga ma)
structure CalMH (P : Program) (w : World) (K : PySem.W.Frag) (mg : Str → Option Value) (base : Heap) (C m : Str) (k n : Nat) (spec : ISp) : Prop where
  ex : ∃ fd ps, Cls K (ga K C) ∧ Meth K (ga K C) m (ma K (ga K C) m) ∧ FnHG P w K mg base k (ma K (ga K C) m) fd ps (spI K (n + 1) spec) ∧ Binds K fd ps []
theorem CalMH.spec {P : Program} {w : World} {K : PySem.W.Frag} {mg : Str → Option Value} {base : Heap} {C m : Str} {k n : Nat} {sp sp' : ISp} (M : CalMH P w K mg base C m k n sp) (h : ∀ ws S Q E, sp' ws S Q E → sp ws S Q E) : CalMH P w K mg base C m k n sp' := by
  obtain ⟨fd, ps, c, hm, G, b⟩ := M.ex
  exact ⟨fd, ps, c, hm, ⟨fun q => G.len (spI.imp h q), fun p a b c d e v q => G.go p a b c d e v (spI.imp h q)⟩, b⟩
section
variable {X : Cx} {F : Addr → Prop} {Wx : WX} {a b : Expr} {pos : Pos} {ia ib : IE} {C : Str} {k' : Nat} {spec : ISp} {p : Addr × Obj}
end
end Sh
namespace Sh
open PySem L2
open PyProof.Rows hiding St
section
variable {K : PySem.W.Frag} {F : Addr → Prop} {st : Stt} {σ : L2.St} {H : Hp}
theorem Lk.frz {j : Nat} {ws : List W} (l : Lk K F st σ H) (e : st.ρ[j]? = some (.own (.lst ws))) :
    Lk K F ⟨st.ρ.set j (.val (.lst ws)), st.S⟩ σ H ∧ Step st σ H ⟨st.ρ.set j (.val (.lst ws)), st.S⟩ σ H := by
  have get : ∀ i x, (st.ρ.set j (Slot.val (.lst ws)))[i]? = some x → (i = j ∧ x = .val (.lst ws)) ∨ (i ≠ j ∧ st.ρ[i]? = some x) := fun i x h => by
    rw [List.getElem?_set] at h
    by_cases q : j = i
    · rw [if_pos q] at h
      split at h
      · cases h; exact .inl ⟨q.symm, rfl⟩
      · cases h
    · rw [if_neg q] at h
      exact .inr ⟨fun z => q z.symm, h⟩
  have wr : ∀ a, Wr ⟨st.ρ.set j (.val (.lst ws)), st.S⟩ σ a → Wr st σ a := fun a z => z.imp id fun ⟨i, o, e1, e2⟩ => by
    rcases get i _ e1 with ⟨_, z⟩ | ⟨_, z⟩
    · cases z
    · exact ⟨i, o, z, e2⟩
  have nx : ∀ a, Live F ⟨st.ρ.set j (.val (.lst ws)), st.S⟩ σ a → Live F st σ a := fun a z => z.imp (wr a) id
  refine ⟨⟨by simpa using l.len, fun i w h => ?_, fun i o h => ?_, fun i i' o o' a h h' => ?_, fun a o h => (l.sto a o h).move (fun _ q => q) (mv_same nx), l.ftr, l.fdis⟩, ⟨fun _ _ e _ => e, fun a z => .inl (wr a z)⟩⟩
  · rcases get i _ h with ⟨rfl, z⟩ | ⟨_, z⟩
    · cases z
      obtain ⟨a, e1, ⟨vs, e2, r⟩, n1, n2⟩ := l.own _ _ e
      refine ⟨.ref a, e1, .lst ⟨e2, fun z => ?_⟩ (r.mono (mv_same nx))⟩
      rcases z with (z | ⟨k, o, z1, z2⟩) | z
      · exact z n1
      · rcases get k _ z1 with ⟨_, z⟩ | ⟨n, z⟩
        · cases z
        · exact n (l.inj _ _ _ _ a z e z2 e1)
      · exact n2 z
    · obtain ⟨v, e1, r⟩ := l.val i w z
      exact ⟨v, e1, r.mono (mv_same nx)⟩
  · rcases get i _ h with ⟨_, z⟩ | ⟨_, z⟩
    · cases z
    · obtain ⟨a, e1, r, n1, n2⟩ := l.own i o z
      exact ⟨a, e1, r.move (fun _ q => q) (mv_same nx), n1, n2⟩
  · rcases get i _ h with ⟨_, z⟩ | ⟨_, z⟩
    · cases z
    · rcases get i' _ h' with ⟨_, z'⟩ | ⟨_, z'⟩
      · cases z'
      · exact l.inj i i' o o' a z z'
end
section
variable {X : Cx} {F : Addr → Prop} {Wx : WX} {s : Stmt} {ib : IS}
end
end Sh
namespace Sh
open PySem L2
open PyProof.Rows hiding St
section
variable {X : Cx} {F : Addr → Prop} {Wx : WX} {e : Expr} {es : List Expr} {pos p : Pos} {i : IA} {n : Nat}
end
end Sh
namespace Sh
open PySem L2
open PyProof.Rows hiding St
theorem RelKs.length {K : PySem.W.Frag} {Lv : Addr → Prop} {H : Hp} : ∀ {ws : List (Key × W)} {vs : List (Key × V)}, RelKs K Lv H ws vs → ws.length = vs.length
  | [], _, .nil => rfl
  | _ :: _, _, .cons _ rs => by rw [List.length_cons, List.length_cons, RelKs.length rs]
section
variable {X : Cx} {F : Addr → Prop} {Wx : WX} {a b c e f o : Expr} {es : List Expr} {pos apos cpos p px : Pos} {ia ib ic : IE} {x : Str}
end
end Sh
namespace Sh
open PySem L2
open PyProof.Rows hiding St
section
variable {X : Cx} {F : Addr → Prop} {Wx : WX} {e : Expr} {es : List Expr} {pos p : Pos} {i : IA} {n : Nat}
end
end Sh
namespace Sh
open PySem PySem.W PySem.Calls PyProof.Rows HandSHeadRun
/-- the state behind the head -/
noncomputable abbrev XRun (r : OpenRow) (M : Nat) (w : World) (os : OsState) : Option SharedT := endF (stepQ (denQ tabQ) r.prog w) M r.prog w os
/-- what stands without a look at the defs -/
def RunA (r : OpenRow) (q : Program) (M : Nat) (loose : List PySem.Str) (w : World) : Prop :=
  ∀ os : OsState, (XRun r M w os).map (fun s => (looksF r.prog (boot_heap w.params) s.abs, seenQ q loose (importedModules r.prog.main.body) (fun s => xlAt q [] s && recOk r.toRowW.records s) s.abs)) = some (true, openGood q loose)
/-- some of what is looked at -/
def RunB (r : OpenRow) (M : Nat) (n : Nat) (fa : List He.Fa) (fn : List He.DefD) (w : World) : Prop :=
  ∀ os : OsState, (XRun r M w os).map (fun s => He.obsD fa fn (He.frT (getT s) (asS (getT s) n))) = some (He.valD fn)
/-- the rest -/
def RunC (r : OpenRow) (M : Nat) (n : Nat) (fa : List He.Fa) (fn : List He.DefD) (ts : List He.Tab) (ex : PySem.W.Frag → Bool) (pr : List PrD) (sp : List SupD) (w : World) : Prop :=
  ∀ os : OsState, (XRun r M w os).map (fun s => obsS n fa fn ts [] ex pr sp (getT s)) = some (He.valX fn ts w, valPr pr, valSup sp)
theorem run_of {r : OpenRow} {q : Program} {M : Nat} {loose : List PySem.Str} {w : World} {n : Nat} {fa1 fa2 : List He.Fa} {fn1 fn2 : List He.DefD} {ts : List He.Tab} {ex : PySem.W.Frag → Bool} {pr : List PrD} {sp : List SupD}
    (hA : RunA r q M loose w) (hB : RunB r M n fa1 fn1 w) (hC : RunC r M n fa2 fn2 ts ex pr sp w) :
    RunEq r q (hookS n (fa1 ++ fa2) (fn1 ++ fn2) ts [] ex pr sp) (fun s => obsS n (fa1 ++ fa2) (fn1 ++ fn2) ts [] ex pr sp (getT s)) M loose w := fun os => by
  have a := hA os
  have b := hB os
  have c := hC os
  show (XRun r M w os).map _ = _
  generalize XRun r M w os = X at a b c ⊢
  cases X with
  | none => cases a
  | some s =>
    have a := Option.some.inj a
    have b := Option.some.inj b
    have c := Option.some.inj c
    have a1 := congrArg Prod.fst a
    have a2 := congrArg Prod.snd a
    have b1 := congrArg Prod.fst b
    have b2 := congrArg Prod.snd b
    have c0 := congrArg (fun z : AlS => z.1.1.1) c
    have c1 := congrArg Prod.fst c0
    have c2 := congrArg Prod.snd c0
    have c3 := congrArg (fun z : AlS => z.1.1.2) c
    have c4 := congrArg (fun z : AlS => z.1.2) c
    have c5 := congrArg (fun z : AlS => z.2) c
    have bd : He.obsD (fa1 ++ fa2) (fn1 ++ fn2) (He.frT (getT s) (asS (getT s) n)) = He.valD (fn1 ++ fn2) := by
      refine Prod.ext ?_ ?_
      · have b1 : ((fa1.all fun f => f.ok (He.frT (getT s) (asS (getT s) n))) && fn1.all fun d => d.ok (He.frT (getT s) (asS (getT s) n))) = true := b1
        have c1 : ((fa2.all fun f => f.ok (He.frT (getT s) (asS (getT s) n))) && fn2.all fun d => d.ok (He.frT (getT s) (asS (getT s) n))) = true := c1
        rw [Bool.and_eq_true] at b1 c1
        show (((fa1 ++ fa2).all fun f => f.ok (He.frT (getT s) (asS (getT s) n))) && (fn1 ++ fn2).all fun d => d.ok (He.frT (getT s) (asS (getT s) n))) = true
        rw [List.all_append, List.all_append, b1.1, b1.2, c1.1, c1.2]
        rfl
      · have b2 : fn1.map (fun d => He.fnW (He.frT (getT s) (asS (getT s) n)) d.at_) = fn1.map He.DefD.val := b2
        have c2 : fn2.map (fun d => He.fnW (He.frT (getT s) (asS (getT s) n)) d.at_) = fn2.map He.DefD.val := c2
        show (fn1 ++ fn2).map (fun d => He.fnW (He.frT (getT s) (asS (getT s) n)) d.at_) = (fn1 ++ fn2).map He.DefD.val
        rw [List.map_append, List.map_append, b2, c2]
    refine congrArg some (Prod.ext a1 (Prod.ext a2 ?_))
    exact Prod.ext (Prod.ext (Prod.ext bd c3) c4) c5
end Sh
namespace Sh
open PySem L2
open PyProof.Rows hiding St
section
variable {X : Cx}
end
section
variable {X : Cx} {F : Addr → Prop} {Wx : WX} {e : Expr} {es : List Expr} {pos p : Pos} {i : IA} {n : Nat}
end
end Sh
namespace Sh
open PySem L2
open PyProof.Rows hiding St
section
variable {X : Cx}
variable {kx vx tg iter : Expr} {ifs : List Expr} {scope : Scope} {own : List (Str × Nat)} {pos : Pos} {wi : TI} {g : TG} {tt : TT} {tk tv : TE}
end
section
variable {X : Cx} {F : Addr → Prop} {Wx : WX} {kx vx tg iter : Expr} {ifs : List Expr} {scope : Scope} {pos : Pos} {il : IL} {g : IG} {t : IT} {ik iv : IE}
end
end Sh
namespace Sh
open PySem L2
open PyProof.Rows hiding St
section
variable {X : Cx}
end
section
variable {X : Cx} {F : Addr → Prop} {Wx : WX} {a b e : Expr} {es : List Expr} {pos p : Pos} {i : IA} {n : Nat}
end
end Sh
namespace Sh
open PySem L2
open PyProof.Rows hiding St
section
variable {X : Cx} {F : Addr → Prop} {Wx : WX} {a b : Expr} {pos p : Pos} {ia ib : IE}
end
end Sh
namespace Sh
open PySem L2
open PyProof.Rows hiding St
open He (ga ma)
section
open PySem.SeqAt AutoSeq1
end
section
variable {X : Cx} {F : Addr → Prop} {Wx : WX} {a b : Expr} {pos : Pos} {ia ib : IE} {C : Str} {k' : Nat} {spec : ISp}
end
end Sh
namespace Sh
open PySem L2
open PyProof.Rows hiding St
inductive Cvs (P : Program) (w : World) (K : PySem.W.Frag) (mg : Str → Option Value) (base : Heap) (k n : Nat) : List (Str × ISp) → Prop
  | nil : Cvs P w K mg base k n []
  | cons {x : Str} {k' : Nat} {spec : ISp} {l : List (Str × ISp)} (C : Cal P w K mg base x k' n spec) (h : k' ≤ k) (g : mg x = some (.ref (He.ga K x))) (r : Cvs P w K mg base k n l) : Cvs P w K mg base k n ((x, spec) :: l)
theorem Cvs.get {P : Program} {w : World} {K : PySem.W.Frag} {mg : Str → Option Value} {base : Heap} {k n : Nat} {x : Str} {spec : ISp} : ∀ {l : List (Str × ISp)}, Cvs P w K mg base k n l → l.lookup x = some spec → Cal P w K mg base x k n spec ∧ mg x = some (.ref (He.ga K x))
  | _, .nil, e => by cases e
  | _, .cons (x := y) C h g r, e => by
    rw [List.lookup_cons] at e
    split at e
    · rename_i z
      cases e
      cases eq_of_beq z
      exact ⟨C.up h, g⟩
    · exact r.get e
section
variable {X : Cx} {F : Addr → Prop} {Wx : WX} {e : Expr} {es : List Expr} {pos p : Pos} {n k' i : Nat} {ia : IA} {x : Str} {cs : List (Str × ISp)}
end
end Sh
namespace Sh
open PySem L2
open PyProof.Rows hiding St
section
variable {X : Cx} {F : Addr → Prop} {Wx : WX} {e c0 c1 : Expr} {es : List Expr} {pos p : Pos} {n k' : Nat} {ic : IE} {ia : IA} {cs : List (Str × ISp)}
end
end Sh
namespace Sh
open PySem L2
open PyProof.Rows hiding St
section
open PySem.SeqAt
variable {X : Cx} {F : Addr → Prop} {Wx : WX} {a b : Expr} {pos : Pos} {ia ib : IE}
end
end Sh
namespace Sh
open PySem L2
open PyProof.Rows hiding St
open He (ga ma)
section
variable {X : Cx} {F : Addr → Prop} {Wx : WX} {e : Expr} {es : List Expr} {pos p : Pos} {cs : List Str} {i : IA} {n : Nat} {x : Str}
end
end Sh
namespace Sh
open PySem L2
open PyProof.Rows hiding St
end Sh
namespace Sh
open PySem L2
open PyProof.Rows hiding St
section
variable {X : Cx} {F : Addr → Prop} {Wx : WX} {a b c e o : Expr} {es : List Expr} {pos p apos cpos : Pos} {ia ib : IE} {i : IA} {nn : IN} {n : Nat} {x name : Str} {id : String}
variable {tg : Expr} {vs : List Nat} {ip : IS}
end
end Sh
namespace Sh
open PySem L2
open PyProof.Rows hiding St
open He (ga ma)
section
open PySem.W PySem.Calls
variable {prog : Program} {w : World} {A : Around} {R : Result → Shared → Prop} {hp : Heap} {g : Array GenState} {d : Drawn} {t : Nat} {os : OsState} {K : Frag} {mg mb : Str → Option Value} {C e t0 fI : Addr} {u v : Value} {x y : Str}
end
section
variable {X : Cx} {F : Addr → Prop} {Wx : WX} {a b c e e2 : Expr} {es : List Expr} {pos p p' : Pos} {ta : TA} {x : Str} {C fI : Addr} {f g : Str}
end
section
variable {X : Cx} {F : Addr → Prop} {Wx : WX} {e e2 : Expr} {pos p p' : Pos} {i : IA} {C f g : Str}
end
end Sh
namespace Sh
open PySem L2
open PyProof.Rows hiding St
section
open PySem.SeqAt PySem.AutoSeq1 PySem.MeetsSeq
end
section
variable {X : Cx} {F : Addr → Prop} {Wx : WX} {a b e : Expr} {es : List Expr} {pos p : Pos} {ia ib : IE} {n : Nat} {i : IA}
end
end Sh
namespace LawC
open PySem PySem.Spec L2 Sh
open PyProof.Rows hiding St
def kC_BY_NUMBER : W := .tup [.str "all", .str "up", .str "wheel"]
def kT_BY_FILES : List (Str × W) := [("all", .int (0)), ("up", .int (1)), ("swap", .int (2)), ("wheel", .int (2)), ("about", .int (0)), ("front", .int (2)), ("halve", .int (0)), ("pair", .int (0)), ("others", .int (0)), ("fill", .int (0))]
def kT_OPEN_CALLS : List (Str × W) := [("halve", .str "pair"), ("pair", .str "halve"), ("others", .str "fill"), ("fill", .str "others")]
end LawC
namespace Law0
open PySem PySem.Spec L2 Sh
open PyProof.Rows hiding St
open LawC
def top (i : Nat) : Stmt := PySem.Challenge.pw_pupilpairs_k34_stretches_judged.main.body.getD i (.Pass ⟨0, 0, 0, 0⟩)
abbrev s_l_bag : Stmt := top 37
abbrev s_l_take : Stmt := top 38
abbrev s_l_one : Stmt := top 39
abbrev s_l_number : Stmt := top 41
abbrev s_l_mixed : Stmt := top 40
abbrev s_l_two : Stmt := top 42
abbrev s_l_call : Stmt := top 43
abbrev s_l_calls : Stmt := top 45
abbrev s_l_straight_kinds : Stmt := top 44
abbrev s_p_is_integer : Stmt := top 7
abbrev s_p_is_files : Stmt := top 8
abbrev s_p_is_index : Stmt := top 9
abbrev s_p_is_call : Stmt := top 14
abbrev s_k_Script : Stmt := clsBody (top 35) 0
abbrev s_l_brought_open : Stmt := top 47
abbrev s_l_brought : Stmt := top 46
abbrev s_l_led : Stmt := top 48
abbrev s_l_stretches : Stmt := top 49
abbrev s_l_bent : Stmt := top 50
abbrev s_p_is_straight_calls : Stmt := top 15
abbrev s_m_Script_is_straight : Stmt := clsBody (top 35) 8
abbrev s_p_check_straight : Stmt := top 30
abbrev s_m_Script_files : Stmt := clsBody (top 35) 4
abbrev s_i_Script : Stmt := clsBody (top 35) 3
abbrev s_p_through : Stmt := top 25
abbrev s_p_image : Stmt := top 24
abbrev s_p_plain : Stmt := top 26
abbrev s_p_merged : Stmt := top 27
abbrev s_p_longest : Stmt := top 28
abbrev s_p_joined : Stmt := top 29
abbrev s_p_kept_in : Stmt := top 20
abbrev s_p_wheels : Stmt := top 21
abbrev s_p_ups : Stmt := top 19
abbrev s_p_one_file : Stmt := top 22
abbrev s_p_by_call : Stmt := top 23
abbrev s_p_stretches : Stmt := top 31
abbrev s_p_is_list_of : Stmt := top 32
abbrev s_p_are_stretches : Stmt := top 33
abbrev s_ls_open : Stmt := top 51
abbrev s_law : Stmt := top 52
abbrev R : PySem.W.OpenRow := PySem.W.OpenLaw.row PySem.Challenge.rw_pupilpairs_k34_stretches_judged
def dd_l_bag : He.DefD := ⟨("_law_bag", none), "_law_bag", "_law_bag", defArgs s_l_bag, defBody s_l_bag, defScope s_l_bag, [], []⟩
def dd_l_take : He.DefD := ⟨("_law_take", none), "_law_take", "_law_take", defArgs s_l_take, defBody s_l_take, defScope s_l_take, [], []⟩
def dd_l_one : He.DefD := ⟨("_law_one", none), "_law_one", "_law_one", defArgs s_l_one, defBody s_l_one, defScope s_l_one, [], []⟩
def dd_l_number : He.DefD := ⟨("_law_number", none), "_law_number", "_law_number", defArgs s_l_number, defBody s_l_number, defScope s_l_number, [], []⟩
def dd_l_mixed : He.DefD := ⟨("_law_mixed", none), "_law_mixed", "_law_mixed", defArgs s_l_mixed, defBody s_l_mixed, defScope s_l_mixed, [], []⟩
def dd_l_two : He.DefD := ⟨("_law_two", none), "_law_two", "_law_two", defArgs s_l_two, defBody s_l_two, defScope s_l_two, [], []⟩
def dd_l_call : He.DefD := ⟨("_law_call", none), "_law_call", "_law_call", defArgs s_l_call, defBody s_l_call, defScope s_l_call, [], []⟩
def dd_l_calls : He.DefD := ⟨("_law_calls", none), "_law_calls", "_law_calls", defArgs s_l_calls, defBody s_l_calls, defScope s_l_calls, [], []⟩
def dd_l_straight_kinds : He.DefD := ⟨("_law_straight_kinds", none), "_law_straight_kinds", "_law_straight_kinds", defArgs s_l_straight_kinds, defBody s_l_straight_kinds, defScope s_l_straight_kinds, [], []⟩
def dd_p_is_integer : He.DefD := ⟨("is_integer", none), "is_integer", "is_integer", defArgs s_p_is_integer, defBody s_p_is_integer, defScope s_p_is_integer, [], []⟩
def dd_p_is_files : He.DefD := ⟨("is_files", none), "is_files", "is_files", defArgs s_p_is_files, defBody s_p_is_files, defScope s_p_is_files, [], []⟩
def dd_p_is_index : He.DefD := ⟨("is_index", none), "is_index", "is_index", defArgs s_p_is_index, defBody s_p_is_index, defScope s_p_is_index, [], []⟩
def dd_p_is_call : He.DefD := ⟨("is_call", none), "is_call", "is_call", defArgs s_p_is_call, defBody s_p_is_call, defScope s_p_is_call, [], []⟩
def dd_l_brought_open : He.DefD := ⟨("_law_brought_open", none), "_law_brought_open", "_law_brought_open", defArgs s_l_brought_open, defBody s_l_brought_open, defScope s_l_brought_open, [], []⟩
def dd_l_brought : He.DefD := ⟨("_law_brought", none), "_law_brought", "_law_brought", defArgs s_l_brought, defBody s_l_brought, defScope s_l_brought, [], []⟩
def dd_l_led : He.DefD := ⟨("_law_led", none), "_law_led", "_law_led", defArgs s_l_led, defBody s_l_led, defScope s_l_led, [], []⟩
def dd_l_stretches : He.DefD := ⟨("_law_stretches", none), "_law_stretches", "_law_stretches", defArgs s_l_stretches, defBody s_l_stretches, defScope s_l_stretches, [], []⟩
def dd_l_bent : He.DefD := ⟨("_law_bent", none), "_law_bent", "_law_bent", defArgs s_l_bent, defBody s_l_bent, defScope s_l_bent, [], []⟩
def dd_p_is_straight_calls : He.DefD := ⟨("is_straight_calls", none), "is_straight", "is_straight", defArgs s_p_is_straight_calls, defBody s_p_is_straight_calls, defScope s_p_is_straight_calls, [], []⟩
def dd_p_check_straight : He.DefD := ⟨("check_straight", none), "check_straight", "check_straight", defArgs s_p_check_straight, defBody s_p_check_straight, defScope s_p_check_straight, [], []⟩
def dd_p_through : He.DefD := ⟨("through", none), "through", "through", defArgs s_p_through, defBody s_p_through, defScope s_p_through, [], []⟩
def dd_p_image : He.DefD := ⟨("image", none), "image", "image", defArgs s_p_image, defBody s_p_image, defScope s_p_image, [], []⟩
def dd_p_plain : He.DefD := ⟨("plain", none), "plain", "plain", defArgs s_p_plain, defBody s_p_plain, defScope s_p_plain, [], []⟩
def dd_p_merged : He.DefD := ⟨("merged", none), "merged", "merged", defArgs s_p_merged, defBody s_p_merged, defScope s_p_merged, [], []⟩
def dd_p_longest : He.DefD := ⟨("longest", none), "longest", "longest", defArgs s_p_longest, defBody s_p_longest, defScope s_p_longest, [], []⟩
def dd_p_joined : He.DefD := ⟨("joined", none), "joined", "joined", defArgs s_p_joined, defBody s_p_joined, defScope s_p_joined, [], []⟩
def dd_p_kept_in : He.DefD := ⟨("kept_in", none), "kept_in", "kept_in", defArgs s_p_kept_in, defBody s_p_kept_in, defScope s_p_kept_in, [], []⟩
def dd_p_wheels : He.DefD := ⟨("wheels", none), "wheels", "wheels", defArgs s_p_wheels, defBody s_p_wheels, defScope s_p_wheels, [], []⟩
def dd_p_ups : He.DefD := ⟨("ups", none), "ups", "ups", defArgs s_p_ups, defBody s_p_ups, defScope s_p_ups, [], []⟩
def dd_p_one_file : He.DefD := ⟨("one_file", none), "one_file", "one_file", defArgs s_p_one_file, defBody s_p_one_file, defScope s_p_one_file, [], []⟩
def dd_p_by_call : He.DefD := ⟨("by_call", none), "by_call", "by_call", defArgs s_p_by_call, defBody s_p_by_call, defScope s_p_by_call, [], []⟩
def dd_p_stretches : He.DefD := ⟨("stretches", none), "stretches", "stretches", defArgs s_p_stretches, defBody s_p_stretches, defScope s_p_stretches, [], []⟩
def dd_p_is_list_of : He.DefD := ⟨("is_list_of", none), "is_list_of", "is_list_of", defArgs s_p_is_list_of, defBody s_p_is_list_of, defScope s_p_is_list_of, [], []⟩
def dd_p_are_stretches : He.DefD := ⟨("are_stretches", none), "are_stretches", "are_stretches", defArgs s_p_are_stretches, defBody s_p_are_stretches, defScope s_p_are_stretches, [], []⟩
def dd_ls_open : He.DefD := ⟨("_law_open", none), "_law_open", "_law_open", defArgs s_ls_open, defBody s_ls_open, defScope s_ls_open, [], []⟩
def dd_law : He.DefD := ⟨("law", none), "law", "law", defArgs s_law, defBody s_law, defScope s_law, [], []⟩
def dd_k_Script : He.DefD := ⟨("Script", some "__init__"), "__init__", "Script.__init__", defArgs s_k_Script, defBody s_k_Script, defScope s_k_Script, [], []⟩
def dd_m_Script_is_straight : He.DefD := ⟨("Script", some "is_straight"), "is_straight", "Script.is_straight", defArgs s_m_Script_is_straight, defBody s_m_Script_is_straight, defScope s_m_Script_is_straight, [], []⟩
def dd_i_Script : He.DefD := ⟨("Script", some "__iter__"), "__iter__", "Script.__iter__", defArgs s_i_Script, defBody s_i_Script, defScope s_i_Script, [], []⟩
def fnA : List He.DefD := [dd_l_bag, dd_l_take, dd_l_one, dd_l_number, dd_l_mixed, dd_l_two, dd_l_call, dd_l_calls, dd_l_straight_kinds, dd_p_is_integer, dd_p_is_files, dd_p_is_index, dd_p_is_call, dd_l_brought_open, dd_l_brought, dd_l_led, dd_l_stretches, dd_l_bent, dd_p_is_straight_calls, dd_p_check_straight]
def fnB : List He.DefD := [dd_p_through, dd_p_image, dd_p_plain, dd_p_merged, dd_p_longest, dd_p_joined, dd_p_kept_in, dd_p_wheels, dd_p_ups, dd_p_one_file, dd_p_by_call, dd_p_stretches, dd_p_is_list_of, dd_p_are_stretches, dd_ls_open, dd_law, dd_k_Script, dd_m_Script_is_straight, dd_i_Script]
def fn : List He.DefD := fnA ++ fnB
def pd_m_Script_files : PrD := ⟨"Script", "files", "Script.files", defArgs s_m_Script_files, defBody s_m_Script_files, defScope s_m_Script_files⟩
def prL : List PrD := [pd_m_Script_files]
def spL : List SupD := []
def fa0 : List He.Fa := [.glo "_law_bag", .glo "_law_take", .glo "_law_one", .glo "_law_number", .glo "_law_mixed", .glo "_law_two", .glo "_law_call", .glo "_law_calls", .glo "_law_straight_kinds", .glo "is_integer", .glo "is_files", .glo "is_index", .glo "is_call", .glo "_law_brought_open", .glo "_law_brought", .glo "_law_led", .glo "_law_stretches", .glo "_law_bent", .glo "is_straight_calls", .glo "check_straight", .glo "through", .glo "image", .glo "plain", .glo "merged", .glo "longest", .glo "joined", .glo "kept_in", .glo "wheels", .glo "ups", .glo "one_file", .glo "by_call", .glo "stretches", .glo "is_list_of", .glo "are_stretches", .glo "_law_open", .glo "law", .free "abs", .free "len", .free "int", .free "list"]
def fa1 : List He.Fa := [.free "range", .free "isinstance", .free "bool", .free "tuple", .free "str", .free "all", .free "sorted", .free "max", .free "min", .free "repr", .free "iter", .exc "Open", .glo "Open", .glo "Script", .cls "Script", .glo "PupilError", .mkr "Script", .meth "Script" "is_straight", .meth "Script" "__iter__", .noat "Script" "steps", .noat "Script" "width"]
def faA : List He.Fa := fa0
def faB : List He.Fa := fa1
def fa : List He.Fa := faA ++ faB
def lo0 : List Str := ["_wall", "__name__", "PupilError", "Wrong", "Unlike", "Open", "is_integer", "is_files", "is_index", "BY_NUMBER", "BY_FILES", "OPEN_CALLS", "is_call", "is_straight", "is_straight_calls", "turned", "ups", "kept_in", "wheels", "one_file", "by_call", "image", "through", "plain", "merged", "longest", "joined", "check_straight", "stretches", "is_list_of"]
def lo1 : List Str := ["are_stretches", "Script", "_law_bag", "_law_take", "_law_one", "_law_mixed", "_law_number", "_law_two", "_law_call", "_law_straight_kinds", "_law_calls", "_law_brought", "_law_brought_open", "_law_led", "_law_stretches", "_law_bent", "_law_open"]
def loose : List Str := lo0 ++ lo1
def tsL : List He.Tab := [(fun K => He.ga K "BY_FILES", ["all", "up", "swap", "wheel", "about", "front", "halve", "pair", "others", "fill"]), (fun K => He.ga K "OPEN_CALLS", ["halve", "pair", "others", "fill"])]
def exL (K : PySem.W.Frag) : Bool := kdB K "BY_FILES" kT_BY_FILES && kcB K "BY_NUMBER" kC_BY_NUMBER && kdB K "OPEN_CALLS" kT_OPEN_CALLS && kitFB K [] && kitFB K ["Script"] && catFB K ["Wrong", "Open", "Unlike"] "PupilError" && isEFB K ["Wrong", "Open", "Unlike"] ["Open"] && sysB K && true
abbrev hkL : PySem.W.Hook := hookS 5 fa fn tsL [] exL prL spL
def obL (s : PySem.W.SharedT) : AlS := obsS 5 fa fn tsL [] exL prL spL (HandSHeadRun.getT s)
theorem obL_eq (s : PySem.W.SharedT) : obL s = hkL.obs s.abs := obsS_eq (HandSHeadRun.getT_eq s)
theorem runA_F (w : World) : RunA R (PySem.W.view R.prog [52]) 8000 loose (w.withFollow "special-get-raises" false) := by
  intro os
  kernel_rfl
theorem runB_F (w : World) : RunB R 8000 5 faA fnA (w.withFollow "special-get-raises" false) := by
  intro os
  kernel_rfl
theorem runC_F (w : World) : RunC R 8000 5 faB fnB tsL exL prL spL (w.withFollow "special-get-raises" false) := by
  intro os
  kernel_rfl
theorem runF (w : World) : HandSHeadRun.RunEq R (PySem.W.view R.prog [52]) hkL obL 8000 loose (w.withFollow "special-get-raises" false) := run_of (runA_F w) (runB_F w) (runC_F w)
theorem runA_T (w : World) : RunA R (PySem.W.view R.prog [52]) 8000 loose (w.withFollow "special-get-raises" true) := by
  intro os
  kernel_rfl
theorem runB_T (w : World) : RunB R 8000 5 faA fnA (w.withFollow "special-get-raises" true) := by
  intro os
  kernel_rfl
theorem runC_T (w : World) : RunC R 8000 5 faB fnB tsL exL prL spL (w.withFollow "special-get-raises" true) := by
  intro os
  kernel_rfl
theorem runT (w : World) : HandSHeadRun.RunEq R (PySem.W.view R.prog [52]) hkL obL 8000 loose (w.withFollow "special-get-raises" true) := run_of (runA_T w) (runB_T w) (runC_T w)
theorem run (w : World) : HandSHeadRun.RunEq R (PySem.W.view R.prog [52]) hkL obL 8000 loose w :=
  PySem.W.byRow2 "special-get-raises" (P := fun w => HandSHeadRun.RunEq R (PySem.W.view R.prog [52]) hkL obL 8000 loose w) runF runT w
end Law0
namespace Sh
open PySem L2
open PyProof.Rows hiding St
theorem Sto.put_put {S : Sto} {a : Addr} {o o' : SO} : (S.put a o).put a o' = S.put a o' := by
  funext b
  unfold Sto.put
  split <;> rfl
theorem atI_0 {α : Type} {x : α} {xs : List α} : atI (x :: xs) 0 = some x := by
  unfold atI ixN
  rw [if_pos (by omega), if_pos (by rw [List.length_cons]; omega)]
  rfl
theorem atI_nat {α : Type} {xs : List α} {i : Nat} (h : i < xs.length) : atI xs (i : Int) = some xs[i] := by
  unfold atI ixN
  rw [if_pos (by omega), if_pos (by omega)]
  simp [h]
theorem atI_pos {α : Type} {xs : List α} {i : Int} (h0 : 0 ≤ i) (h : i < xs.length) : atI xs i = some (xs[i.toNat]'(by omega)) := by
  have e := atI_nat (xs := xs) (i := i.toNat) (by omega)
  rw [Int.toNat_of_nonneg h0] at e
  exact e
theorem atI_1 {α : Type} {x y : α} {xs : List α} : atI (x :: y :: xs) 1 = some y := by
  unfold atI ixN
  rw [if_pos (by omega), if_pos (by simp only [List.length_cons]; omega)]
  rfl
theorem atI_2 {α : Type} {x y z : α} {xs : List α} : atI (x :: y :: z :: xs) 2 = some z := by
  unfold atI ixN
  rw [if_pos (by omega), if_pos (by simp only [List.length_cons]; omega)]
  rfl
theorem atI_3 {α : Type} {x y z u : α} {xs : List α} : atI (x :: y :: z :: u :: xs) 3 = some u := by
  unfold atI ixN
  rw [if_pos (by omega), if_pos (by simp only [List.length_cons]; omega)]
  rfl
theorem ixN_4_0 : ixN (0 + 1 + 1 + 1 + 1) 0 = some 0 := rfl
theorem ixN_4_1 : ixN (0 + 1 + 1 + 1 + 1) 1 = some 1 := rfl
theorem ixN_4_2 : ixN (0 + 1 + 1 + 1 + 1) 2 = some 2 := rfl
theorem ixN_4_3 : ixN (0 + 1 + 1 + 1 + 1) 3 = some 3 := rfl
theorem toNat_2 : Int.toNat 2 = 2 := rfl
section
variable {α : Type} {a b c d : α}
theorem cut_13 : cutW [a, b, c, d] (some 1) (some 3) = [b, c] := rfl
theorem cut_1_2 : cutW [a, b] (some 1) none = [b] := rfl
theorem cut_1_3 : cutW [a, b, c] (some 1) none = [b, c] := rfl
theorem cut_m2 : cutW [a, b] none (some (-1)) = [a] := rfl
theorem cut_m3 : cutW [a, b, c] none (some (-1)) = [a, b] := rfl
theorem cut_m4 : cutW [a, b, c, d] none (some (-1)) = [a, b, c] := rfl
theorem atI_m2 : atI [a, b] (-1) = some b := rfl
theorem atI_m3 : atI [a, b, c] (-1) = some c := rfl
theorem atI_m4 : atI [a, b, c, d] (-1) = some d := rfl
end
theorem fz_val (w : W) : (R.val w).fz = w := rfl
theorem fz_new (o : SO) : (R.new o).fz = o.fz := rfl
theorem so_lst (ws : List W) : (SO.lst ws).fz = .lst ws := rfl
theorem so_dct (ws : List (Key × W)) : (SO.dct ws).fz = .dct ws := rfl
theorem so_ins (C) (ws : List (Str × W)) : (SO.ins C ws).fz = .obj C ws := rfl
section
variable {i j : Int} {x y : Str} {ws vs : List W} {v w : W} {a b : Bool} {n : Nat}
theorem eqW_ii : eqW (.int i) (.int j) = (i == j) := rfl
theorem eqW_ss : eqW (.str x) (.str y) = (x == y) := rfl
theorem eqW_tt : eqW (.tup ws) (.tup vs) = eqWs ws vs := rfl
theorem eqW_ll : eqW (.lst ws) (.lst vs) = eqWs ws vs := rfl
theorem eqW_nn : eqW .non .non = true := rfl
theorem eqW_bb : eqW (.bl a) (.bl b) = (a == b) := rfl
theorem eqW_ni : eqW .non (.int j) = false := rfl
theorem eqW_in : eqW (.int j) .non = false := rfl
theorem eqW_nt : eqW .non (.tup ws) = false := rfl
theorem eqW_tn : eqW (.tup ws) .non = false := rfl
theorem eqW_nl : eqW .non (.lst ws) = false := rfl
theorem eqW_ln : eqW (.lst ws) .non = false := rfl
theorem eqW_is : eqW (.int i) (.str x) = false := rfl
theorem eqW_si : eqW (.str x) (.int i) = false := rfl
theorem eqWs_nil : eqWs [] [] = true := rfl
theorem eqWs_cons : eqWs (v :: vs) (w :: ws) = (eqW v w && eqWs vs ws) := rfl
theorem eqWs_nc : eqWs [] (w :: ws) = false := rfl
theorem eqWs_cn : eqWs (w :: ws) [] = false := rfl
theorem okD_int : okD n (.int i) = true := by cases n <;> rfl
theorem okD_str : okD n (.str x) = PyData.strOk x := by cases n <;> rfl
theorem okD_bl : okD n (.bl a) = true := by cases n <;> rfl
theorem okD_non : okD n .non = true := by cases n <;> rfl
theorem okD_tup : okD (n + 1) (.tup ws) = ws.all (okD n) := rfl
theorem okD_lst : okD (n + 1) (.lst ws) = ws.all (okD n) := rfl
theorem eqOk_ii : eqOk (.int i) (.int j) = true := rfl
theorem eqOk_ss : eqOk (.str x) (.str y) = true := rfl
theorem eqOk_nn : eqOk .non .non = true := rfl
theorem eqOk_bb : eqOk (.bl a) (.bl b) = true := rfl
theorem eqOk_in : eqOk (.int i) .non = true := rfl
theorem eqOk_ni : eqOk .non (.int i) = true := rfl
theorem eqOk_tt : eqOk (.tup ws) (.tup vs) = (okD 64 (.tup ws) && okD 64 (.tup vs)) := rfl
theorem eqOk_ll : eqOk (.lst ws) (.lst vs) = (okD 64 (.lst ws) && okD 64 (.lst vs)) := rfl
theorem flatW_int : flatW (.int i) = true := rfl
theorem flatW_str : flatW (.str x) = true := rfl
theorem flatW_bl : flatW (.bl a) = true := rfl
theorem flatW_non : flatW .non = true := rfl
end
/-- a statement, then the rest, by name -/
theorem seq_go {p q : IS} {EI : XI} {D : IEnds} {st : Stt} (h : ∀ nx : Stt → Prop, nx = q EI D → p EI { D with nx := nx } st) : sSeq p q EI D st := h _ rfl
theorem lk_self {α : Type} (x : Str) (v : α) (r : List (Str × α)) : List.lookup x ((x, v) :: r) = some v := by rw [List.lookup_cons, beq_self_eq_true]
theorem lk_ne {α : Type} {x y : Str} (v : α) (r : List (Str × α)) (h : (x == y) = false) : List.lookup x ((y, v) :: r) = List.lookup x r := by rw [List.lookup_cons, h]
def IsBag (o : SO) : Prop := ∃ (n0 n1 n2 : Int) (cs : List Int), o = .lst [.int n0, .int n1, .int n2, .lst (cs.map .int)] ∧ 0 ≤ n0 ∧ 0 ≤ n1 ∧ n1 < 2147483647 ∧ 0 ≤ n2 ∧ ∀ c ∈ cs, 0 ≤ c
theorem Sto.put_eta {S : Sto} {a : Addr} {o : SO} (h : S a = some o) : S.put a o = S := by
  funext b
  unfold Sto.put
  split
  · rename_i e; rw [e, h]
  · rfl
theorem ifb {c : Bool} {P Q : Prop} (h1 : c = true → P) (h2 : c = false → Q) : if c = true then P else Q := by
  cases c
  · rw [if_neg Bool.false_ne_true]; exact h2 rfl
  · rw [if_pos rfl]; exact h1 rfl
theorem ifT {c : Bool} {P Q : Prop} (h : c = true) (p : P) : if c = true then P else Q := ifb (fun _ => p) fun z => by rw [h] at z; cases z
theorem ifF {c : Bool} {P Q : Prop} (h : c = false) (p : Q) : if c = true then P else Q := ifb (fun z => by rw [h] at z; cases z) fun _ => p
theorem seq_cut {p q : IS} {EI : XI} {D : IEnds} {st : Stt} (M : Stt → Prop) (h1 : ∀ nx : Stt → Prop, (∀ st, M st → nx st) → p EI { D with nx := nx } st) (h2 : ∀ st, M st → q EI D st) : sSeq p q EI D st := h1 _ h2
theorem seq_step {p q : IS} {EI : XI} {D : IEnds} {st : Stt} (st' : Stt) (h1 : ∀ nx : Stt → Prop, nx st' → p EI { D with nx := nx } st) (h2 : q EI D st') : sSeq p q EI D st := h1 _ h2
theorem for_inv {g : IG} {body : IS} {EI : XI} {D : IEnds} (I : List W → Stt → Prop) : ∀ (ws : List W) (st : Stt), I ws st → (∀ st, I [] st → D.nx st) →
    (∀ w ws st (nx : Stt → Prop), I (w :: ws) st → (∀ st', I ws st' → nx st') → g w st fun st1 => body EI { nx := nx, ct := nx, bk := D.nx, rt := D.rt } st1) → forGo g body EI D ws st
  | [], st, h0, hd, _ => hd st h0
  | w :: ws, st, h0, hd, hs => hs w ws st (forGo g body EI D ws) h0 fun st' h' => for_inv I ws st' h' hd hs
theorem for_same {g : IG} {body : IS} {EI : XI} {D : IEnds} (I : Stt → Prop) : ∀ (ws : List W) (st : Stt), I st → (∀ st, I st → D.nx st) →
    (∀ w ∈ ws, ∀ st (nx : Stt → Prop), I st → (∀ st', I st' → nx st') → g w st fun st1 => body EI { nx := nx, ct := nx, bk := D.nx, rt := D.rt } st1) → forGo g body EI D ws st
  | [], st, h0, hd, _ => hd st h0
  | w :: ws, st, h0, hd, hs => hs w (List.mem_cons_self ..) st (forGo g body EI D ws) h0 fun st' h' => for_same I ws st' h' hd fun w' hw => hs w' (List.mem_cons_of_mem _ hw)
def sp_l_take : ISp := fun ws S Q E => ∃ a n o, ws = [.ref a, .int n] ∧ 0 < n ∧ Bd n ∧ S a = some o ∧ IsBag o ∧ ∀ r o', 0 ≤ r → r < n → IsBag o' → Q (.val (.int r)) (S.put a o')
def ib_l_take : IS := (sSeq (sIf (tBl (iB gEq (iIx (iVar 0) (iC (.int 0))) (iC (.int 0)))) (sSeq (sSet 2 (iC (.int 0)))
    (sSeq (sIf (tBl (iB gLt (iIx (iVar 0) (iC (.int 2))) (iFn gLen (iCons (iIx (iVar 0) (iC (.int 3))) iNil)))) (sSet 2 (iIx (iIx (iVar 0) (iC (.int 3))) (iIx (iVar 0) (iC (.int 2))))) sNext)
    (sSeq (sAugS 0 (· + ·) (iC (.int 2)) (iC (.int 1)))
    (sSeq (sIf (tBl (iB gGe (iVar 2) (iC (.int 1000000000000000000)))) (sIxS 0 (iC (.int 0)) (iVar 2)) sNext)
    (sSeq (sSet 3 (iB gAdd (iB gAdd (iB gMul (iIx (iVar 0) (iC (.int 1))) (iC (.int 48271))) (iB gMod (iFn gInt (iCons (iVar 2) iNil)) (iC (.int 2147483647)))) (iB gMul (iC (.int 7919)) (iIx (iVar 0) (iC (.int 2))))))
    (sIxS 0 (iC (.int 1)) (iB gMod (iFn gInt (iCons (iVar 3) iNil)) (iC (.int 2147483647))))))))) sNext)
  (sSeq (sIf (tBl (iB gGt (iIx (iVar 0) (iC (.int 0))) (iC (.int 0)))) (sSeq (sSet 4 (iB gMod (iFn gInt (iCons (iIx (iVar 0) (iC (.int 0))) iNil)) (iVar 1)))
    (sSeq (sIxS 0 (iC (.int 0)) (iB gDiv (iFn gInt (iCons (iIx (iVar 0) (iC (.int 0))) iNil)) (iVar 1)))
    (sRet (iVar 4)))) sNext)
  (sSeq (sSet 5 (iB gMod (iFn gInt (iCons (iB gMul (iB gAdd (iIx (iVar 0) (iC (.int 1))) (iC (.int 1))) (iC (.int 39373))) iNil)) (iC (.int 1000000007))))
  (sSeq (sSet 6 (iB gMod (iFn gInt (iCons (iB gMul (iB gMod (iFn gInt (iCons (iB gMul (iVar 5) (iVar 5)) iNil)) (iC (.int 998244353))) (iC (.int 30011))) iNil)) (iC (.int 998244353))))
  (sRet (iB gMod (iFn gInt (iCons (iB gDiv (iVar 6) (iC (.int 7))) iNil)) (iVar 1)))))))
abbrev bagO (n0 n1 n2 : Int) (cs : List Int) : SO := .lst [.int n0, .int n1, .int n2, .lst (cs.map .int)]
theorem ok_l_take (ws : List W) (S : Sto) (Q : R → Sto → Prop) (E : Exn → Sto → Prop) (h : sp_l_take ws S Q E) : bodyI 7 ib_l_take ws S Q E := by
  obtain ⟨a, n, o, rfl, hn, bn, ha, ⟨n0, n1, n2, cs, rfl, h0, h1, h2, h3, h4⟩, q⟩ := h
  unfold ib_l_take
  show sSeq _ _ _ _ ⟨[.val (.ref a), .val (.int n), .none, .none, .none, .none, .none], S⟩
  refine seq_cut (fun st => ∃ n0 n1 n2 x2 x3, st = ⟨[.val (.ref a), .val (.int n), x2, x3, .none, .none, .none], S.put a (bagO n0 n1 n2 cs)⟩ ∧ 0 ≤ n0 ∧ 0 ≤ n1 ∧ n1 < 2147483647 ∧ 0 ≤ n2) (fun nx k => ?_) (fun st ⟨n0, n1, n2, x2, x3, e, h0, h1, h2, h3⟩ => ?_)
  · simp only [sIf, tBl, iB, iIx, iVar, iC, gIx, ha, atI_0, gEq, okD, eqOk, Bool.and_true, eqW, atW, List.getElem?_cons_zero, true_and]
    refine ifb (fun c => ?_) (fun c => ?_)
    · refine seq_step _ (fun nx h => h) ?_
      refine seq_cut (fun st => ∃ c : Int, 0 ≤ c ∧ st = ⟨[.val (.ref a), .val (.int n), .val (.int c), .none, .none, .none, .none], S⟩) (fun nx k => ?_) (fun st ⟨c, hc, e⟩ => ?_)
      · simp only [bodyI, start0, sSeq, sNext, sNever, sCont, sBreak, sDrop, sRet, sRetN, sRet0, sRetO, sIf, sSet, sSetN, sSetP, sPar, sParEN, sParNE, sPar3, sAsg, gNm, gsNil, gsCons, gTp, sAugI, sIxO, sIxS, sAugS, stoL, setW, iVar, iC, iNil, iCons, iTup, iLst, nLst, iFz, iB, gAdd, gI, gIC, gSub, gMul, gDiv, gMod, gPow, gLt, gLe, gGt, gGe, gEq, gNe, gIn, gIsN, isN, iNeg, tTru', gTru, tBl, iChain, tAnd', tOr', tNot', tYes', iIf, iAnd, iOr, iNot, iIx, gIx, atW, iIxO, ownL, oNone, oSome, iSl, gSl, iRevL, iCall, nCall, iFn, Sh.R.fz, SO.fz, Stt.put, Stt.puts, iMtO, gAppend, gInsert, gExtend, gLen, iLenO, gAbs, gInt, gMinMax, gList, gTuple, iListRg, gIsi, tyN, gRepr, flatW, eqW, okD, eqOk, cut_13, cut_1_2, cut_1_3, cut_m2, cut_m3, cut_m4, atI_m2, atI_m3, atI_m4, iOfT, tKdIn, iKdIx, atI_0, atI_1, atI_2, atI_3, ixN_4_0, ixN_4_1, ixN_4_2, ixN_4_3, Sto.put_same, Sto.put_put, toNat_2, List.map, List.replicate, List.length_cons, List.length_nil, List.getElem?_cons_zero, List.getElem?_cons_succ, List.getElem?_nil, List.set_cons_zero, List.set_cons_succ, List.set_nil, List.cons_append, List.nil_append, List.append_nil, if_true, if_false, ha]
        refine ifb (fun z => ?_) (fun z => ?_)
        · have z2 : n2 < (cs.length : Int) := by simpa using z
          have e : atI (cs.map W.int) n2 = some (.int (cs[n2.toNat]'(by omega))) := by
            rw [atI_pos h3 (by simpa using z2)]
            simp
          simp only [atW, e]
          exact k _ ⟨_, h4 _ (List.getElem_mem _), rfl⟩
        · exact k _ ⟨0, by omega, rfl⟩
      · subst e
        refine seq_step ⟨[.val (.ref a), .val (.int n), .val (.int c), .none, .none, .none, .none], S.put a (bagO n0 n1 (n2 + 1) cs)⟩ (fun nx h => ?_) ?_
        · simp only [bodyI, start0, sSeq, sNext, sNever, sCont, sBreak, sDrop, sRet, sRetN, sRet0, sRetO, sIf, sSet, sSetN, sSetP, sPar, sParEN, sParNE, sPar3, sAsg, gNm, gsNil, gsCons, gTp, sAugI, sIxO, sIxS, sAugS, stoL, setW, iVar, iC, iNil, iCons, iTup, iLst, nLst, iFz, iB, gAdd, gI, gIC, gSub, gMul, gDiv, gMod, gPow, gLt, gLe, gGt, gGe, gEq, gNe, gIn, gIsN, isN, iNeg, tTru', gTru, tBl, iChain, tAnd', tOr', tNot', tYes', iIf, iAnd, iOr, iNot, iIx, gIx, atW, iIxO, ownL, oNone, oSome, iSl, gSl, iRevL, iCall, nCall, iFn, Sh.R.fz, SO.fz, Stt.put, Stt.puts, iMtO, gAppend, gInsert, gExtend, gLen, iLenO, gAbs, gInt, gMinMax, gList, gTuple, iListRg, gIsi, tyN, gRepr, flatW, eqW, okD, eqOk, cut_13, cut_1_2, cut_1_3, cut_m2, cut_m3, cut_m4, atI_m2, atI_m3, atI_m4, iOfT, tKdIn, iKdIx, atI_0, atI_1, atI_2, atI_3, ixN_4_0, ixN_4_1, ixN_4_2, ixN_4_3, Sto.put_same, Sto.put_put, toNat_2, List.map, List.replicate, List.length_cons, List.length_nil, List.getElem?_cons_zero, List.getElem?_cons_succ, List.getElem?_nil, List.set_cons_zero, List.set_cons_succ, List.set_nil, List.cons_append, List.nil_append, List.append_nil, if_true, if_false, ha]
          exact ⟨by decide, by decide, h⟩
        · refine seq_cut (fun st => ∃ n0, 0 ≤ n0 ∧ st = ⟨[.val (.ref a), .val (.int n), .val (.int c), .none, .none, .none, .none], S.put a (bagO n0 n1 (n2 + 1) cs)⟩) (fun nx k => ?_) (fun st ⟨n0, hc, e⟩ => ?_)
          · simp only [bodyI, start0, sSeq, sNext, sNever, sCont, sBreak, sDrop, sRet, sRetN, sRet0, sRetO, sIf, sSet, sSetN, sSetP, sPar, sParEN, sParNE, sPar3, sAsg, gNm, gsNil, gsCons, gTp, sAugI, sIxO, sIxS, sAugS, stoL, setW, iVar, iC, iNil, iCons, iTup, iLst, nLst, iFz, iB, gAdd, gI, gIC, gSub, gMul, gDiv, gMod, gPow, gLt, gLe, gGt, gGe, gEq, gNe, gIn, gIsN, isN, iNeg, tTru', gTru, tBl, iChain, tAnd', tOr', tNot', tYes', iIf, iAnd, iOr, iNot, iIx, gIx, atW, iIxO, ownL, oNone, oSome, iSl, gSl, iRevL, iCall, nCall, iFn, Sh.R.fz, SO.fz, Stt.put, Stt.puts, iMtO, gAppend, gInsert, gExtend, gLen, iLenO, gAbs, gInt, gMinMax, gList, gTuple, iListRg, gIsi, tyN, gRepr, flatW, eqW, okD, eqOk, cut_13, cut_1_2, cut_1_3, cut_m2, cut_m3, cut_m4, atI_m2, atI_m3, atI_m4, iOfT, tKdIn, iKdIx, atI_0, atI_1, atI_2, atI_3, ixN_4_0, ixN_4_1, ixN_4_2, ixN_4_3, Sto.put_same, Sto.put_put, toNat_2, List.map, List.replicate, List.length_cons, List.length_nil, List.getElem?_cons_zero, List.getElem?_cons_succ, List.getElem?_nil, List.set_cons_zero, List.set_cons_succ, List.set_nil, List.cons_append, List.nil_append, List.append_nil, if_true, if_false]
            refine ifb (fun z => ?_) (fun z => ?_)
            · exact k _ ⟨c, hc, rfl⟩
            · exact k _ ⟨n0, h0, rfl⟩
          · subst e
            refine seq_step ?s (fun nx h => ?a) ?b
            case a =>
              simp only [bodyI, start0, sSeq, sNext, sNever, sCont, sBreak, sDrop, sRet, sRetN, sRet0, sRetO, sIf, sSet, sSetN, sSetP, sPar, sParEN, sParNE, sPar3, sAsg, gNm, gsNil, gsCons, gTp, sAugI, sIxO, sIxS, sAugS, stoL, setW, iVar, iC, iNil, iCons, iTup, iLst, nLst, iFz, iB, gAdd, gI, gIC, gSub, gMul, gDiv, gMod, gPow, gLt, gLe, gGt, gGe, gEq, gNe, gIn, gIsN, isN, iNeg, tTru', gTru, tBl, iChain, tAnd', tOr', tNot', tYes', iIf, iAnd, iOr, iNot, iIx, gIx, atW, iIxO, ownL, oNone, oSome, iSl, gSl, iRevL, iCall, nCall, iFn, Sh.R.fz, SO.fz, Stt.put, Stt.puts, iMtO, gAppend, gInsert, gExtend, gLen, iLenO, gAbs, gInt, gMinMax, gList, gTuple, iListRg, gIsi, tyN, gRepr, flatW, eqW, okD, eqOk, cut_13, cut_1_2, cut_1_3, cut_m2, cut_m3, cut_m4, atI_m2, atI_m3, atI_m4, iOfT, tKdIn, iKdIx, atI_0, atI_1, atI_2, atI_3, ixN_4_0, ixN_4_1, ixN_4_2, ixN_4_3, Sto.put_same, Sto.put_put, toNat_2, List.map, List.replicate, List.length_cons, List.length_nil, List.getElem?_cons_zero, List.getElem?_cons_succ, List.getElem?_nil, List.set_cons_zero, List.set_cons_succ, List.set_nil, List.cons_append, List.nil_append, List.append_nil, if_true, if_false]
              refine ⟨.inr (.inr (by omega)), by omega, .inr (.inl (by omega)), ?_⟩
              exact h
            case b =>
              simp only [bodyI, start0, sSeq, sNext, sNever, sCont, sBreak, sDrop, sRet, sRetN, sRet0, sRetO, sIf, sSet, sSetN, sSetP, sPar, sParEN, sParNE, sPar3, sAsg, gNm, gsNil, gsCons, gTp, sAugI, sIxO, sIxS, sAugS, stoL, setW, iVar, iC, iNil, iCons, iTup, iLst, nLst, iFz, iB, gAdd, gI, gIC, gSub, gMul, gDiv, gMod, gPow, gLt, gLe, gGt, gGe, gEq, gNe, gIn, gIsN, isN, iNeg, tTru', gTru, tBl, iChain, tAnd', tOr', tNot', tYes', iIf, iAnd, iOr, iNot, iIx, gIx, atW, iIxO, ownL, oNone, oSome, iSl, gSl, iRevL, iCall, nCall, iFn, Sh.R.fz, SO.fz, Stt.put, Stt.puts, iMtO, gAppend, gInsert, gExtend, gLen, iLenO, gAbs, gInt, gMinMax, gList, gTuple, iListRg, gIsi, tyN, gRepr, flatW, eqW, okD, eqOk, cut_13, cut_1_2, cut_1_3, cut_m2, cut_m3, cut_m4, atI_m2, atI_m3, atI_m4, iOfT, tKdIn, iKdIx, atI_0, atI_1, atI_2, atI_3, ixN_4_0, ixN_4_1, ixN_4_2, ixN_4_3, Sto.put_same, Sto.put_put, toNat_2, List.map, List.replicate, List.length_cons, List.length_nil, List.getElem?_cons_zero, List.getElem?_cons_succ, List.getElem?_nil, List.set_cons_zero, List.set_cons_succ, List.set_nil, List.cons_append, List.nil_append, List.append_nil, if_true, if_false]
              refine ⟨by omega, k _ ⟨_, _, _, _, _, rfl, hc, Int.emod_nonneg _ (by omega), Int.emod_lt_of_pos _ (by omega), by omega⟩⟩
    · exact k _ ⟨n0, n1, n2, .none, .none, by rw [Sto.put_eta ha], h0, h1, h2, h3⟩
  · subst e
    refine seq_cut (fun st => st = ⟨[.val (.ref a), .val (.int n), x2, x3, .none, .none, .none], S.put a (bagO n0 n1 n2 cs)⟩) (fun nx k => ?_) (fun st e => ?_)
    · simp only [bodyI, start0, sSeq, sNext, sNever, sCont, sBreak, sDrop, sRet, sRetN, sRet0, sRetO, sIf, sSet, sSetN, sSetP, sPar, sParEN, sParNE, sPar3, sAsg, gNm, gsNil, gsCons, gTp, sAugI, sIxO, sIxS, sAugS, stoL, setW, iVar, iC, iNil, iCons, iTup, iLst, nLst, iFz, iB, gAdd, gI, gIC, gSub, gMul, gDiv, gMod, gPow, gLt, gLe, gGt, gGe, gEq, gNe, gIn, gIsN, isN, iNeg, tTru', gTru, tBl, iChain, tAnd', tOr', tNot', tYes', iIf, iAnd, iOr, iNot, iIx, gIx, atW, iIxO, ownL, oNone, oSome, iSl, gSl, iRevL, iCall, nCall, iFn, Sh.R.fz, SO.fz, Stt.put, Stt.puts, iMtO, gAppend, gInsert, gExtend, gLen, iLenO, gAbs, gInt, gMinMax, gList, gTuple, iListRg, gIsi, tyN, gRepr, flatW, eqW, okD, eqOk, cut_13, cut_1_2, cut_1_3, cut_m2, cut_m3, cut_m4, atI_m2, atI_m3, atI_m4, iOfT, tKdIn, iKdIx, atI_0, atI_1, atI_2, atI_3, ixN_4_0, ixN_4_1, ixN_4_2, ixN_4_3, Sto.put_same, Sto.put_put, toNat_2, List.map, List.replicate, List.length_cons, List.length_nil, List.getElem?_cons_zero, List.getElem?_cons_succ, List.getElem?_nil, List.set_cons_zero, List.set_cons_succ, List.set_nil, List.cons_append, List.nil_append, List.append_nil, if_true, if_false]
      refine ifb (fun z => ?_) (fun z => k _ rfl)
      refine ⟨hn, ⟨hn, bn⟩, q _ _ (Int.emod_nonneg _ (by omega)) (Int.emod_lt_of_pos _ hn) ⟨_, _, _, _, rfl, Int.ediv_nonneg h0 (by omega), h1, h2, h3, h4⟩⟩
    · subst e
      simp only [bodyI, start0, sSeq, sNext, sNever, sCont, sBreak, sDrop, sRet, sRetN, sRet0, sRetO, sIf, sSet, sSetN, sSetP, sPar, sParEN, sParNE, sPar3, sAsg, gNm, gsNil, gsCons, gTp, sAugI, sIxO, sIxS, sAugS, stoL, setW, iVar, iC, iNil, iCons, iTup, iLst, nLst, iFz, iB, gAdd, gI, gIC, gSub, gMul, gDiv, gMod, gPow, gLt, gLe, gGt, gGe, gEq, gNe, gIn, gIsN, isN, iNeg, tTru', gTru, tBl, iChain, tAnd', tOr', tNot', tYes', iIf, iAnd, iOr, iNot, iIx, gIx, atW, iIxO, ownL, oNone, oSome, iSl, gSl, iRevL, iCall, nCall, iFn, Sh.R.fz, SO.fz, Stt.put, Stt.puts, iMtO, gAppend, gInsert, gExtend, gLen, iLenO, gAbs, gInt, gMinMax, gList, gTuple, iListRg, gIsi, tyN, gRepr, flatW, eqW, okD, eqOk, cut_13, cut_1_2, cut_1_3, cut_m2, cut_m3, cut_m4, atI_m2, atI_m3, atI_m4, iOfT, tKdIn, iKdIx, atI_0, atI_1, atI_2, atI_3, ixN_4_0, ixN_4_1, ixN_4_2, ixN_4_3, Sto.put_same, Sto.put_put, toNat_2, List.map, List.replicate, List.length_cons, List.length_nil, List.getElem?_cons_zero, List.getElem?_cons_succ, List.getElem?_nil, List.set_cons_zero, List.set_cons_succ, List.set_nil, List.cons_append, List.nil_append, List.append_nil, if_true, if_false]
      refine ⟨.inr (.inr (by omega)), by omega, .inr (.inl ⟨?_, ?_⟩), by omega, .inr (.inr (by omega)), by omega, ⟨by omega, by unfold Bd lim; omega⟩, hn, ?_⟩
      · have := Int.emod_nonneg ((n1 + 1) * 39373) (show (1000000007 : Int) ≠ 0 by omega); omega
      · have := Int.emod_lt_of_pos ((n1 + 1) * 39373) (show (0 : Int) < 1000000007 by omega); omega
      · exact q _ _ (Int.emod_nonneg _ (by omega)) (Int.emod_lt_of_pos _ hn) ⟨_, _, _, _, rfl, h0, h1, h2, h3, h4⟩
def stepQ (g : IG) (t : IT) (ie : IE) (st : Stt) (w : W) (Y : W → Stt → Prop) (Nn : Stt → Prop) : Prop := g w st fun st1 => t noX st1 fun b st2 => if b = true then ie noX st2 Y else Nn st2
theorem lc_map {g : IG} {t : IT} {ie : IE} {vs : List Nat} {Q : SO → Stt → Prop} (st0 : Stt) (f : W → Option W) : ∀ (ws acc : List W) (st : Stt),
    (∀ w ∈ ws, ∀ Y Nn, (∀ y st', f w = some y → st'.wipe vs = st0 → Y y st') → (∀ st', f w = none → st'.wipe vs = st0 → Nn st') → stepQ g t ie st0 w Y Nn) →
    st.wipe vs = st0 → acc.length + ws.length ≤ sizeLine → (∀ st', st'.wipe vs = st0 → Q (.lst (acc ++ ws.filterMap f)) st') → lcGo g t ie vs Q ws acc st
  | [], acc, st, _, e, _, q => by
    have := q st e
    rw [List.filterMap_nil, List.append_nil] at this
    exact this
  | w :: ws, acc, st, h, e, hl, q => by
    show stepQ g t ie (st.wipe vs) w (fun y st3 => acc.length < sizeLine ∧ lcGo g t ie vs Q ws (acc ++ [y]) st3) (fun st2 => lcGo g t ie vs Q ws acc st2)
    rw [List.length_cons] at hl
    rw [e]
    refine h w (List.mem_cons_self ..) _ _ (fun y st' ef es => ⟨by omega, lc_map st0 f ws _ _ (fun w' hw => h w' (List.mem_cons_of_mem _ hw)) es (by rw [List.length_append, List.length_singleton]; omega) fun st2 e2 => ?_⟩) (fun st' ef es => lc_map st0 f ws _ _ (fun w' hw => h w' (List.mem_cons_of_mem _ hw)) es (by omega) fun st2 e2 => ?_)
    · have := q st2 e2
      rw [List.filterMap_cons_some ef] at this
      rw [List.append_assoc]
      exact this
    · have := q st2 e2
      rw [List.filterMap_cons_none ef] at this
      exact this
theorem okD_mono : ∀ {d d' : Nat}, d ≤ d' → ∀ w : W, okD d w = true → okD d' w = true
  | 0, d', _, w, h => by
    cases w <;> first | (cases d' <;> first | rfl | exact h) | (exfalso; simp [okD] at h; done)
  | d + 1, 0, hd, _, _ => by omega
  | d + 1, d' + 1, hd, w, h => by
    cases w with
    | tup ws =>
      show ws.all (okD d') = true
      rw [List.all_eq_true]
      exact fun x hx => okD_mono (Nat.le_of_succ_le_succ hd) x (List.all_eq_true.mp (show ws.all (okD d) = true from h) x hx)
    | lst ws =>
      show ws.all (okD d') = true
      rw [List.all_eq_true]
      exact fun x hx => okD_mono (Nat.le_of_succ_le_succ hd) x (List.all_eq_true.mp (show ws.all (okD d) = true from h) x hx)
    | _ => exact h
def Rep (d n : Nat) (w : W) : Prop := okD d w = true ∧ (toD w).showable = true ∧ (toD w).shown.length ≤ n
theorem Rep.ok {d n : Nat} {w : W} (h : Rep d n w) (hd : d ≤ 60 := by decide) (hn : n ≤ sizeLine := by decide) : RepOk w := ⟨okD_mono hd w h.1, h.2.1, Nat.le_trans h.2.2 hn⟩
theorem Rep.up {d d' n n' : Nat} {w : W} (h : Rep d n w) (hd : d ≤ d') (hn : n ≤ n') : Rep d' n' w := ⟨okD_mono hd w h.1, h.2.1, Nat.le_trans h.2.2 hn⟩
theorem rep_int {d : Nat} {i : Int} (h : Bd i) : Rep d 201 (.int i) := by
  have hn : i.natAbs < 10 ^ 200 := by unfold Bd lim at h; omega
  refine ⟨by cases d <;> rfl, ?_, ?_⟩
  · have h7 := h.abs
    show decide (i.natAbs.log2 < 1920) = true
    refine decide_eq_true ?_
    by_cases z : i.natAbs = 0
    · rw [z]; decide
    · have := (Nat.log2_lt z).mpr h7
      omega
  · show (Str.ofString (toString i)).length ≤ 201
    rw [PySem.ofString_length]
    exact int_text_length_le10 (k := 200) (by decide) hn
theorem rep_bl {d : Nat} (b : Bool) : Rep d 5 (.bl b) := ⟨by cases d <;> rfl, rfl, by cases b <;> decide⟩
theorem rep_non {d : Nat} : Rep d 4 .non := ⟨by cases d <;> rfl, rfl, by decide⟩
theorem shown_sum {n : Nat} : ∀ (ws : List W), (∀ w ∈ ws, (toD w).shown.length ≤ n) → ((PyData.shownAll (toDs ws)).map (·.length)).sum ≤ n * ws.length ∧ (PyData.shownAll (toDs ws)).length = ws.length
  | [], _ => ⟨Nat.zero_le _, rfl⟩
  | w :: ws, h => by
    have a := shown_sum ws fun x hx => h x (List.mem_cons_of_mem _ hx)
    have b := h w (List.mem_cons_self ..)
    have e : PyData.shownAll (toDs (w :: ws)) = (toD w).shown :: PyData.shownAll (toDs ws) := rfl
    rw [e, List.map_cons, List.sum_cons, List.length_cons, List.length_cons, Nat.mul_succ]
    exact ⟨by omega, by omega⟩
theorem show_all : ∀ (ws : List W), (∀ w ∈ ws, (toD w).showable = true) → PyData.showableAll (toDs ws) = true
  | [], _ => rfl
  | w :: ws, h => by
    show ((toD w).showable && PyData.showableAll (toDs ws)) = true
    rw [h w (List.mem_cons_self ..), show_all ws fun x hx => h x (List.mem_cons_of_mem _ hx)]
    rfl
theorem rep_tup {d n : Nat} {ws : List W} (h : ∀ w ∈ ws, Rep d n w) : Rep (d + 1) (n * ws.length + 2 * ws.length + 3) (.tup ws) := by
  refine ⟨List.all_eq_true.mpr fun x hx => (h x hx).1, show_all ws fun x hx => (h x hx).2.1, ?_⟩
  obtain ⟨a, b⟩ := shown_sum ws fun x hx => (h x hx).2.2
  have := tupleText_len_le (PyData.shownAll (toDs ws))
  rw [b] at this
  exact Nat.le_trans this (by omega)
theorem rep_lst {d n : Nat} {ws : List W} (h : ∀ w ∈ ws, Rep d n w) : Rep (d + 1) (n * ws.length + 2 * ws.length + 3) (.lst ws) := by
  refine ⟨List.all_eq_true.mpr fun x hx => (h x hx).1, show_all ws fun x hx => (h x hx).2.1, ?_⟩
  obtain ⟨a, b⟩ := shown_sum ws fun x hx => (h x hx).2.2
  have := listText_len_le (PyData.shownAll (toDs ws))
  rw [b] at this
  exact Nat.le_trans this (by omega)
def ib_l_bag : IS := (sRetN (nLst (iCons (iC (.int 0)) (iCons (iC (.int 1234567891)) (iCons (iC (.int 0)) (iCons (iFz (nLc (lSeq (iSl (iVar 0) oNone (oSome (iC (.int 63))))) (gNm 1) tYes' (iFn gAbs (iCons (iVar 1) iNil)) [1])) iNil))))))
def sp_l_bag : ISp := fun ws S Q E => ∃ ns : List Int, ws = [.scr ns] ∧ ns.length ≤ 63 ∧ ∀ o, IsBag o → Q (.new o) S
def absI (j : Int) : Int := if j < 0 then -j else j
theorem ok_l_bag (ws : List W) (S : Sto) (Q : R → Sto → Prop) (E : Exn → Sto → Prop) (h : sp_l_bag ws S Q E) : bodyI 2 ib_l_bag ws S Q E := by
  obtain ⟨ns, rfl, hn, q⟩ := h
  unfold ib_l_bag
  simp only [bodyI, start0, sSeq, sNext, sNever, sCont, sBreak, sDrop, sRet, sRetN, sRet0, sRetO, sIf, sSet, sSetN, sSetP, sPar, sParEN, sParNE, sPar3, sAsg, gNm, gsNil, gsCons, gTp, sAugI, sIxO, sIxS, sAugS, stoL, setW, iVar, iC, iNil, iCons, iTup, iLst, nLst, iFz, iB, gAdd, gI, gIC, gSub, gMul, gDiv, gMod, gPow, gLt, gLe, gGt, gGe, gEq, gNe, gIn, gIsN, isN, iNeg, tTru', gTru, tBl, iChain, tAnd', tOr', tNot', tYes', iIf, iAnd, iOr, iNot, iIx, gIx, atW, iIxO, ownL, oNone, oSome, iSl, gSl, iRevL, iCall, nCall, iFn, Sh.R.fz, SO.fz, Stt.put, Stt.puts, iMtO, gAppend, gInsert, gExtend, gLen, iLenO, gAbs, gInt, gMinMax, gList, gTuple, iListRg, gIsi, tyN, gRepr, flatW, eqW, okD, eqOk, cut_13, cut_1_2, cut_1_3, cut_m2, cut_m3, cut_m4, atI_m2, atI_m3, atI_m4, iOfT, tKdIn, iKdIx, atI_0, atI_1, atI_2, atI_3, ixN_4_0, ixN_4_1, ixN_4_2, ixN_4_3, Sto.put_same, Sto.put_put, toNat_2, List.map, List.replicate, List.length_cons, List.length_nil, List.getElem?_cons_zero, List.getElem?_cons_succ, List.getElem?_nil, List.set_cons_zero, List.set_cons_succ, List.set_nil, List.cons_append, List.nil_append, List.append_nil, if_true, if_false, nLc, lSeq, gItems]
  have hc : (cutW ns none (some 63)).length ≤ 63 := by
    unfold cutW
    rw [List.length_take, List.length_drop]
    omega
  refine lc_map ⟨[.val (.scr ns), .none], S⟩ (fun w => match w with | .int i => some (.int (absI i)) | _ => none) _ _ _ (fun w hw Y Nn hY _ => ?_) rfl (by rw [List.length_map, List.length_nil, sizeLine_eq]; omega) fun st' e => ?_
  · obtain ⟨i, _, rfl⟩ := List.mem_map.mp hw
    exact hY _ _ rfl rfl
  · rw [e]
    refine q _ ⟨0, 1234567891, 0, (cutW ns none (some 63)).map absI, ?_, by omega, by omega, by omega, by omega, fun c hc => ?_⟩
    · rw [List.nil_append, List.filterMap_map, List.map_map]
      have : ((fun w : W => match w with | .int i => some (W.int (absI i)) | _ => none) ∘ W.int) = some ∘ (W.int ∘ absI) := rfl
      rw [this, List.filterMap_eq_map]
    · obtain ⟨i, _, rfl⟩ := List.mem_map.mp hc
      unfold absI
      split <;> omega
def ib_l_one : IS := (sRet (iIx (iVar 1) (iCall sp_l_take (iCons (iVar 0) (iCons (iFn gLen (iCons (iVar 1) iNil)) iNil)))))
def sp_l_one : ISp := fun ws S Q E => ∃ a xs o, ws = [.ref a, .lst xs] ∧ xs ≠ [] ∧ xs.length < 1000000000 ∧ S a = some o ∧ IsBag o ∧ ∀ x o', x ∈ xs → IsBag o' → Q (.val x) (S.put a o')
theorem ok_l_one (ws : List W) (S : Sto) (Q : R → Sto → Prop) (E : Exn → Sto → Prop) (h : sp_l_one ws S Q E) : bodyI 2 ib_l_one ws S Q E := by
  obtain ⟨a, xs, o, rfl, hx, hl, ha, hb, q⟩ := h
  unfold ib_l_one
  simp only [bodyI, start0, sSeq, sNext, sNever, sCont, sBreak, sDrop, sRet, sRetN, sRet0, sRetO, sIf, sSet, sSetN, sSetP, sPar, sParEN, sParNE, sPar3, sAsg, gNm, gsNil, gsCons, gTp, sAugI, sIxO, sIxS, sAugS, stoL, setW, iVar, iC, iNil, iCons, iTup, iLst, nLst, iFz, iB, gAdd, gI, gIC, gSub, gMul, gDiv, gMod, gPow, gLt, gLe, gGt, gGe, gEq, gNe, gIn, gIsN, isN, iNeg, tTru', gTru, tBl, iChain, tAnd', tOr', tNot', tYes', iIf, iAnd, iOr, iNot, iIx, gIx, atW, iIxO, ownL, oNone, oSome, iSl, gSl, iRevL, iCall, nCall, iFn, Sh.R.fz, SO.fz, Stt.put, Stt.puts, iMtO, gAppend, gInsert, gExtend, gLen, iLenO, gAbs, gInt, gMinMax, gList, gTuple, iListRg, gIsi, tyN, gRepr, flatW, eqW, okD, eqOk, cut_13, cut_1_2, cut_1_3, cut_m2, cut_m3, cut_m4, atI_m2, atI_m3, atI_m4, iOfT, tKdIn, iKdIx, atI_0, atI_1, atI_2, atI_3, ixN_4_0, ixN_4_1, ixN_4_2, ixN_4_3, Sto.put_same, Sto.put_put, toNat_2, List.map, List.replicate, List.length_cons, List.length_nil, List.getElem?_cons_zero, List.getElem?_cons_succ, List.getElem?_nil, List.set_cons_zero, List.set_cons_succ, List.set_nil, List.cons_append, List.nil_append, List.append_nil, if_true, if_false]
  have hp : 0 < xs.length := List.length_pos_iff.mpr hx
  refine ⟨a, xs.length, o, rfl, by omega, by unfold Bd lim; omega, ha, hb, fun r o' h0 h1 hb' => ?_⟩
  simp only [bodyI, start0, sSeq, sNext, sNever, sCont, sBreak, sDrop, sRet, sRetN, sRet0, sRetO, sIf, sSet, sSetN, sSetP, sPar, sParEN, sParNE, sPar3, sAsg, gNm, gsNil, gsCons, gTp, sAugI, sIxO, sIxS, sAugS, stoL, setW, iVar, iC, iNil, iCons, iTup, iLst, nLst, iFz, iB, gAdd, gI, gIC, gSub, gMul, gDiv, gMod, gPow, gLt, gLe, gGt, gGe, gEq, gNe, gIn, gIsN, isN, iNeg, tTru', gTru, tBl, iChain, tAnd', tOr', tNot', tYes', iIf, iAnd, iOr, iNot, iIx, gIx, atW, iIxO, ownL, oNone, oSome, iSl, gSl, iRevL, iCall, nCall, iFn, Sh.R.fz, SO.fz, Stt.put, Stt.puts, iMtO, gAppend, gInsert, gExtend, gLen, iLenO, gAbs, gInt, gMinMax, gList, gTuple, iListRg, gIsi, tyN, gRepr, flatW, eqW, okD, eqOk, cut_13, cut_1_2, cut_1_3, cut_m2, cut_m3, cut_m4, atI_m2, atI_m3, atI_m4, iOfT, tKdIn, iKdIx, atI_0, atI_1, atI_2, atI_3, ixN_4_0, ixN_4_1, ixN_4_2, ixN_4_3, Sto.put_same, Sto.put_put, toNat_2, List.map, List.replicate, List.length_cons, List.length_nil, List.getElem?_cons_zero, List.getElem?_cons_succ, List.getElem?_nil, List.set_cons_zero, List.set_cons_succ, List.set_nil, List.cons_append, List.nil_append, List.append_nil, if_true, if_false, atI_pos h0 h1]
  exact q _ _ (List.getElem_mem _) hb'
theorem eqW_refl : ∀ (d : Nat) (w : W), okD d w = true → eqW w w = true
  | _, .non, _ => rfl
  | _, .bl b, _ => by simp [eqW]
  | _, .int i, _ => by simp [eqW]
  | _, .str x, _ => by simp [eqW]
  | d + 1, .tup ws, h => by
    show eqWs ws ws = true
    have h2 : ws.all (okD d) = true := h
    clear h
    induction ws with
    | nil => rfl
    | cons w ws ih =>
      rw [List.all_cons, Bool.and_eq_true] at h2
      show (eqW w w && eqWs ws ws) = true
      rw [eqW_refl d w h2.1, ih h2.2]; rfl
  | d + 1, .lst ws, h => by
    show eqWs ws ws = true
    have h2 : ws.all (okD d) = true := h
    clear h
    induction ws with
    | nil => rfl
    | cons w ws ih =>
      rw [List.all_cons, Bool.and_eq_true] at h2
      show (eqW w w && eqWs ws ws) = true
      rw [eqW_refl d w h2.1, ih h2.2]; rfl
  | 0, .tup ws, h => by simp [okD] at h
  | 0, .lst ws, h => by simp [okD] at h
  | d, .dct _, h => by cases d <;> simp [okD] at h
  | d, .dcT _, h => by cases d <;> simp [okD] at h
  | d, .exn _ _ _ _, h => by cases d <;> simp [okD] at h
  | d, .obj _ _, h => by cases d <;> simp [okD] at h
  | d, .ref _, h => by cases d <;> simp [okD] at h
  | d, .ty _, h => by cases d <;> simp [okD] at h
  | d, .scr _, h => by cases d <;> simp [okD] at h
  | d, .glo _, h => by cases d <;> simp [okD] at h
theorem eqOk_of {x y : W} (hx : okD 64 x = true) (hy : okD 64 y = true) : eqOk x y = true := by
  unfold eqOk
  split
  · rfl
  · rw [hx, hy]; rfl
def isI : W → Bool
  | .int _ => true
  | _ => false
def ib_p_is_integer : IS := (sRet (iAnd (iFn gIsi (iCons (iVar 0) (iCons (iC (.ty "int")) iNil))) (iNot (iFn gIsi (iCons (iVar 0) (iCons (iC (.ty "bool")) iNil))))))
def sp_p_is_integer : ISp := fun ws S Q E => ∃ x, ws = [x] ∧ tyN x ≠ none ∧ Q (.val (.bl (isI x))) S
theorem ok_p_is_integer (ws : List W) (S : Sto) (Q : R → Sto → Prop) (E : Exn → Sto → Prop) (h : sp_p_is_integer ws S Q E) : bodyI 1 ib_p_is_integer ws S Q E := by
  obtain ⟨x, rfl, hx, q⟩ := h
  cases x <;> first | exact absurd rfl hx | exact q
def ib_p_is_index : IS := (sRet (iAnd (iCall sp_p_is_integer (iCons (iVar 0) iNil)) (iChain gLe gLt (iC (.int 0)) (iVar 0) (iVar 1))))
def isIx (x : W) (n : Int) : Bool := match x with
  | .int i => decide (0 ≤ i) && decide (i < n)
  | _ => false
def sp_p_is_index : ISp := fun ws S Q E => ∃ x n, ws = [x, .int n] ∧ tyN x ≠ none ∧ Q (.val (.bl (isIx x n))) S
theorem ok_p_is_index (ws : List W) (S : Sto) (Q : R → Sto → Prop) (E : Exn → Sto → Prop) (h : sp_p_is_index ws S Q E) : bodyI 2 ib_p_is_index ws S Q E := by
  obtain ⟨x, n, rfl, hx, q⟩ := h
  unfold ib_p_is_index
  refine ⟨x, rfl, hx, ?_⟩
  cases x with
  | int i =>
    show if decide (0 ≤ i) = true then Q (.val (.bl (decide (i < n)))) S else Q (.val (.bl false)) S
    unfold isIx at q
    simp only at q
    refine ifb (fun c => ?_) (fun c => ?_)
    · rw [c] at q; exact q
    · rw [c] at q; exact q
  | _ => exact q
def Cg (m a b : Int) : Prop := m ∣ a - b
theorem Cg.refl {m : Int} (a : Int) : Cg m a a := ⟨0, by grind⟩
theorem Cg.symm {m a b : Int} (h : Cg m a b) : Cg m b a := by
  obtain ⟨k, e⟩ := h
  exact ⟨-k, by grind⟩
theorem Cg.trans {m a b c : Int} (h : Cg m a b) (h2 : Cg m b c) : Cg m a c := by
  obtain ⟨k, e⟩ := h
  obtain ⟨l, e2⟩ := h2
  exact ⟨k + l, by grind⟩
theorem Cg.mul {m a b c d : Int} (h : Cg m a b) (h2 : Cg m c d) : Cg m (a * c) (b * d) := by
  obtain ⟨k, e⟩ := h
  obtain ⟨l, e2⟩ := h2
  exact ⟨k * c + b * l, by grind⟩
theorem Cg.add {m a b c d : Int} (h : Cg m a b) (h2 : Cg m c d) : Cg m (a + c) (b + d) := by
  obtain ⟨k, e⟩ := h
  obtain ⟨l, e2⟩ := h2
  exact ⟨k + l, by grind⟩
theorem cg_mod (m a : Int) : Cg m (a % m) a := ⟨-(a / m), by have := Int.mul_ediv_add_emod a m; grind⟩
theorem Cg.eq {m a b : Int} (h : Cg m a b) (h0 : 0 ≤ a) (h1 : a < m) (h2 : 0 ≤ b) (h3 : b < m) : a = b := by
  obtain ⟨k, e⟩ := h
  have hk : k = 0 := by
    by_cases z : k = 0
    · exact z
    · exfalso
      rcases Int.lt_or_gt_of_ne z with z | z
      · have : m * k ≤ m * (-1) := Int.mul_le_mul_of_nonneg_left (by omega) (by omega)
        omega
      · have : m * 1 ≤ m * k := Int.mul_le_mul_of_nonneg_left (by omega) (by omega)
        omega
  subst hk
  omega
theorem Cg.mod {m a b : Int} (h : Cg m a b) (hm : 0 < m) : a % m = b % m :=
  Cg.eq (((cg_mod m a).trans h).trans (cg_mod m b).symm) (Int.emod_nonneg _ (by omega)) (Int.emod_lt_of_pos _ hm) (Int.emod_nonneg _ (by omega)) (Int.emod_lt_of_pos _ hm)
def IsOrd (m b : Int) (r : Nat) : Prop := 1 ≤ r ∧ Cg m (b ^ r) 1 ∧ ∀ s, 1 ≤ s → s < r → ¬ Cg m (b ^ s) 1
def Pr (d : Nat) : Prop := 2 ≤ d ∧ ∀ e, 2 ≤ e → e < d → ¬ e ∣ d
open Classical in
/-- the prime divisors of n below k -/
theorem Pr.coprime {p q : Nat} (hp : Pr p) (hq : Pr q) (h : p ≠ q) : Nat.Coprime p q := by
  have d1 := Nat.gcd_dvd_left p q
  have d2 := Nat.gcd_dvd_right p q
  have p1 : 0 < Nat.gcd p q := Nat.gcd_pos_of_pos_left _ (by have := hp.1; omega)
  have l1 := Nat.le_of_dvd (by have := hp.1; omega) d1
  have l2 := Nat.le_of_dvd (by have := hq.1; omega) d2
  unfold Nat.Coprime
  by_cases z : Nat.gcd p q = 1
  · exact z
  · exfalso
    have e1 : Nat.gcd p q = p := by
      by_cases w : Nat.gcd p q < p
      · exact absurd d1 (hp.2 _ (by omega) w)
      · omega
    have e2 : Nat.gcd p q = q := by
      by_cases w : Nat.gcd p q < q
      · exact absurd d2 (hq.2 _ (by omega) w)
      · omega
    omega
/-- where the walk stands -/
def PrAt (n0 n d : Nat) : Prop := 0 < n ∧ n ∣ n0 ∧ 2 ≤ d ∧ (∀ e, 2 ≤ e → e < d → ¬ e ∣ n) ∧ ∀ p, d ≤ p → Pr p → p ∣ n0 → p ∣ n
theorem PrAt.prime {n0 n d : Nat} (h : PrAt n0 n d) (hd : d ∣ n) : Pr d := ⟨h.2.2.1, fun e e1 e2 e3 => h.2.2.2.1 e e1 e2 (Nat.dvd_trans e3 hd)⟩
theorem PrAt.next {n0 n d : Nat} (h : PrAt n0 n d) (hd : ¬ d ∣ n) : PrAt n0 n (d + 1) := by
  obtain ⟨h1, h2, h3, h4, h5⟩ := h
  refine ⟨h1, h2, by omega, fun e e1 e2 => ?_, fun p p1 => h5 p (by omega)⟩
  by_cases z : e = d
  · rw [z]; exact hd
  · exact h4 e e1 (by omega)
/-- what is left behind a factor -/
def PrIn (n0 n d : Nat) : Prop := 0 < n ∧ n ∣ n0 ∧ (∀ e, 2 ≤ e → e < d → ¬ e ∣ n) ∧ ∀ p, d + 1 ≤ p → Pr p → p ∣ n0 → p ∣ n
theorem PrIn.less {n0 n d : Nat} (h : PrIn n0 n d) (pd : Pr d) (hd : d ∣ n) : PrIn n0 (n / d) d := by
  obtain ⟨h1, h2, h4, h5⟩ := h
  have dp : 0 < d := by have := pd.1; omega
  have e : n = d * (n / d) := (Nat.mul_div_cancel' hd).symm
  have dv : n / d ∣ n := ⟨d, by rw [Nat.mul_comm]; exact e⟩
  refine ⟨Nat.div_pos (Nat.le_of_dvd h1 hd) dp, Nat.dvd_trans dv h2, fun x x1 x2 x3 => h4 x x1 x2 (Nat.dvd_trans x3 dv), fun p p1 p2 p3 => ?_⟩
  have := h5 p p1 p2 p3
  rw [e, Nat.mul_comm] at this
  exact Nat.Coprime.dvd_of_dvd_mul_right (p2.coprime pd (by omega)) this
theorem IsOrd.le {m b : Int} {r s : Nat} (h : IsOrd m b r) (h1 : 1 ≤ s) (c : Cg m (b ^ s) 1) : r ≤ s := by
  by_cases z : r ≤ s
  · exact z
  · exact absurd c (h.2.2 s h1 (by omega))
/-- where an open call leads, by the law's own rule -/
def opn (w : Str) (fl n r f : Int) : Int × Int :=
  if w = "halve" then (r * fl + f - n * ((r * fl + f) / n), (r * fl + f) / n)
  else if w = "pair" then ((f * n + r) / fl, f * n + r - fl * ((f * n + r) / fl))
  else if w = "others" then (r / 2 + (n - n / 2) * (r - 2 * (r / 2)), f)
  else (2 * (r - (n - n / 2) * (if n - n / 2 ≤ r then 1 else 0)) + (if n - n / 2 ≤ r then 1 else 0), f)
theorem small_r {i j : Int} (h0 : -100 ≤ j) (h1 : j ≤ 100) : MulOk i j := .inr (.inr (by omega))
theorem small_l {i j : Int} (h0 : -100 ≤ i) (h1 : i ≤ 100) : MulOk i j := .inr (.inl (by omega))
def hv (F R x k : Int) : Int := if x = F * R - 1 then x else if 0 ≤ k then x * (F ^ k.toNat % (F * R - 1)) % (F * R - 1) else x * (R ^ (-k).toNat % (F * R - 1)) % (F * R - 1)
/-- a line of a sober size -/
def Ln (F R : Int) : Prop := 2 ≤ F ∧ F ≤ 3 ∧ 1 ≤ R ∧ R < 10 ^ 100
theorem Ln.last {F R : Int} (h : Ln F R) : 0 < F * R - 1 ∧ Bd (F * R - 1) ∧ F * R - 1 < 10 ^ 101 := by
  obtain ⟨h1, h2, h3, h4⟩ := h
  have a : 2 * R ≤ F * R := Int.mul_le_mul_of_nonneg_right h1 (by omega)
  have b : F * R ≤ 3 * R := Int.mul_le_mul_of_nonneg_right h2 (by omega)
  exact ⟨by omega, by unfold Bd lim; omega, by omega⟩
section
variable {F R x k l y : Int}
end
inductive Call where
  | all (k : Int) | up (f k : Int) | swap (f g : Int) | wheel (f g k : Int) | about | front (f g : Int) | halve | pair | others | fill
def Call.w : Call → W
  | .all k => .tup [.str "all", .int k]
  | .up f k => .tup [.str "up", .int f, .int k]
  | .swap f g => .tup [.str "swap", .int f, .int g]
  | .wheel f g k => .tup [.str "wheel", .int f, .int g, .int k]
  | .about => .tup [.str "about"]
  | .front f g => .tup [.str "front", .int f, .int g]
  | .halve => .tup [.str "halve"]
  | .pair => .tup [.str "pair"]
  | .others => .tup [.str "others"]
  | .fill => .tup [.str "fill"]
/-- files that there are, two of them -/
def Two (F f g : Int) : Prop := 0 ≤ f ∧ f < F ∧ 0 ≤ g ∧ g < F ∧ f ≠ g
def Call.ok (F : Int) : Call → Prop
  | .all _ => True
  | .up f _ => 0 ≤ f ∧ f < F
  | .swap f g => Two F f g
  | .wheel f g _ => Two F f g
  | .front f g => Two F f g
  | _ => True
def whl (R g h k : Int) (p : Int × Int) : Int × Int :=
  if p.2 ≠ g ∧ p.2 ≠ h then p else
    let s := ((if p.2 = g then R - 1 - p.1 else R + p.1) + k) % (2 * R)
    if s < R then (R - 1 - s, g) else (s - R, h)
def mv (F R : Int) (c : Call) (p : Int × Int) : Int × Int := match c with
  | .all k => ((p.1 - k) % R, p.2)
  | .up g k => if p.2 = g then ((p.1 - k) % R, p.2) else p
  | .about => (R - 1 - p.1, F - 1 - p.2)
  | .wheel g h k => whl R g h k p
  | .swap g h => if p.2 ≠ g ∧ p.2 ≠ h then p else (p.1, if p.2 = g then h else g)
  | .front g h => if (p.2 ≠ g ∧ p.2 ≠ h) ∨ 0 < p.1 then p else (p.1, if p.2 = g then h else g)
  | .halve => ((p.1 * F + p.2) % R, (p.1 * F + p.2) / R)
  | .pair => ((p.2 * R + p.1) / F, (p.2 * R + p.1) % F)
  | .others => if p.1 % 2 = 0 then (p.1 / 2, p.2) else ((R + 1) / 2 + p.1 / 2, p.2)
  | .fill => if p.1 < (R + 1) / 2 then (2 * p.1, p.2) else (2 * (p.1 - (R + 1) / 2) + 1, p.2)
/-- a place of the line -/
def At (F R : Int) (p : Int × Int) : Prop := 0 ≤ p.1 ∧ p.1 < R ∧ 0 ≤ p.2 ∧ p.2 < F
def Call.opn : Call → Bool
  | .halve => true
  | .pair => true
  | .others => true
  | .fill => true
  | _ => false
/-- a call's word -/
def Call.word : Call → Str
  | .all _ => "all"
  | .up _ _ => "up"
  | .swap _ _ => "swap"
  | .wheel _ _ _ => "wheel"
  | .about => "about"
  | .front _ _ => "front"
  | .halve => "halve"
  | .pair => "pair"
  | .others => "others"
  | .fill => "fill"
def kC_BY_NUMBER : W := .tup [.str "all", .str "up", .str "wheel"]
def kT_OPEN_CALLS : List (Str × W) := [("halve", .str "pair"), ("pair", .str "halve"), ("others", .str "fill"), ("fill", .str "others")]
def Call.tn : Call → Call
  | .all k => .all (-k)
  | .up f k => .up f (-k)
  | .wheel f g k => .wheel f g (-k)
  | .halve => .pair
  | .pair => .halve
  | .others => .fill
  | .fill => .others
  | c => c
section
variable {F R : Int}
theorem ring_back {a k m : Int} (h0 : 0 ≤ a) (h1 : a < m) : ((a + k) % m + -k) % m = a := by
  have c : Cg m ((a + k) % m + -k) a := ((cg_mod m (a + k)).add (.refl (-k))).trans ⟨0, by grind⟩
  exact ((cg_mod m _).trans c).eq (Int.emod_nonneg _ (by omega)) (Int.emod_lt_of_pos _ (by omega)) h0 h1
theorem ring_back' {a k m : Int} (h0 : 0 ≤ a) (h1 : a < m) : ((a - k) % m - -k) % m = a := by
  have c : Cg m ((a - k) % m - -k) a := by
    have := (cg_mod m (a - k)).add (.refl k)
    rw [Int.sub_neg]
    exact this.trans ⟨0, by grind⟩
  exact ((cg_mod m _).trans c).eq (Int.emod_nonneg _ (by omega)) (Int.emod_lt_of_pos _ (by omega)) h0 h1
theorem num_in {r f : Int} (h : At F R (r, f)) : 0 ≤ r * F + f ∧ r * F + f < F * R := by
  obtain ⟨r0, r1, f0, f1⟩ := h
  simp only at r0 r1 f0 f1
  have a := Int.mul_nonneg r0 (show 0 ≤ F by omega)
  have b : r * F ≤ (R - 1) * F := Int.mul_le_mul_of_nonneg_right (by omega) (by omega)
  have e : (R - 1) * F = F * R - F := by grind
  omega
theorem at_swap {r f : Int} (h : At F R (r, f)) : At R F (f, r) := ⟨h.2.2.1, h.2.2.2, h.1, h.2.1⟩
theorem divmod_of {r f m : Int} (f0 : 0 ≤ f) (f1 : f < m) : (r * m + f) / m = r ∧ (r * m + f) % m = f := by
  constructor
  · rw [Int.add_comm, Int.add_mul_ediv_right _ _ (by omega), Int.ediv_eq_zero_of_lt f0 f1]; omega
  · rw [Int.add_comm, Int.add_mul_emod_self_right, Int.emod_eq_of_lt f0 f1]
theorem whl_seat {g h k s : Int} (hR : 0 < R) (hgh : g ≠ h) (s0 : 0 ≤ s) (s1 : s < 2 * R) : whl R g h k (if s < R then (R - 1 - s, g) else (s - R, h)) = (let t := (s + k) % (2 * R); if t < R then (R - 1 - t, g) else (t - R, h)) := by
  unfold whl
  by_cases z : s < R
  · rw [if_pos z]
    have e : (if (R - 1 - s, g).2 = g then R - 1 - (R - 1 - s, g).1 else R + (R - 1 - s, g).1) = s := by
      rw [if_pos rfl]
      show R - 1 - (R - 1 - s) = s
      omega
    rw [if_neg (fun y => y.1 rfl), e]
  · rw [if_neg z]
    have e : (if (s - R, h).2 = g then R - 1 - (s - R, h).1 else R + (s - R, h).1) = s := by
      rw [if_neg (show ¬ h = g from fun y => hgh y.symm)]
      show R + (s - R) = s
      omega
    rw [if_neg (fun y => y.2 rfl), e]
theorem whl_of {g h : Int} {p : Int × Int} (hR : 0 < R) (hgh : g ≠ h) (p0 : 0 ≤ p.1) (p1 : p.1 < R) (hp : ¬ (p.2 ≠ g ∧ p.2 ≠ h)) : ∃ s, 0 ≤ s ∧ s < 2 * R ∧ p = (if s < R then (R - 1 - s, g) else (s - R, h)) := by
  by_cases z : p.2 = g
  · refine ⟨R - 1 - p.1, by omega, by omega, ?_⟩
    rw [if_pos (by omega)]
    exact Prod.ext (by simp only; omega) z
  · refine ⟨R + p.1, by omega, by omega, ?_⟩
    rw [if_neg (by omega)]
    exact Prod.ext (by simp only; omega) (by simp only; omega)
theorem mv_in {c : Call} {p : Int × Int} (hF : 0 < F) (hR : 0 < R) (hc : c.ok F) (h : At F R p) : At F R (mv F R c p) := by
  obtain ⟨r, f⟩ := p
  have h' := h
  obtain ⟨r0, r1, f0, f1⟩ := h'
  simp only at r0 r1 f0 f1
  cases c with
  | all k => exact ⟨Int.emod_nonneg _ (by omega), Int.emod_lt_of_pos _ hR, f0, f1⟩
  | up g k =>
    show At F R (if f = g then ((r - k) % R, f) else (r, f))
    split
    · exact ⟨Int.emod_nonneg _ (by omega), Int.emod_lt_of_pos _ hR, f0, f1⟩
    · exact h
  | about =>
    refine ⟨?_, ?_, ?_, ?_⟩
    · show 0 ≤ R - 1 - r
      omega
    · show R - 1 - r < R
      omega
    · show 0 ≤ F - 1 - f
      omega
    · show F - 1 - f < F
      omega
  | wheel g h2 k =>
    obtain ⟨g0, g1, h0, h1, gh⟩ := hc
    show At F R (whl R g h2 k (r, f))
    unfold whl
    split
    · exact h
    · have s0 := Int.emod_nonneg ((if f = g then R - 1 - r else R + r) + k) (show (2 * R) ≠ 0 by omega)
      have s1 := Int.emod_lt_of_pos ((if f = g then R - 1 - r else R + r) + k) (show 0 < 2 * R by omega)
      simp only
      generalize ((if f = g then R - 1 - r else R + r) + k) % (2 * R) = s at *
      split
      · exact ⟨by simp only; omega, by simp only; omega, g0, g1⟩
      · exact ⟨by simp only; omega, by simp only; omega, h0, h1⟩
  | swap g h2 =>
    obtain ⟨g0, g1, h0, h1, gh⟩ := hc
    show At F R (if f ≠ g ∧ f ≠ h2 then (r, f) else (r, if f = g then h2 else g))
    split
    · exact h
    · split
      · exact ⟨r0, r1, h0, h1⟩
      · exact ⟨r0, r1, g0, g1⟩
  | front g h2 =>
    obtain ⟨g0, g1, h0, h1, gh⟩ := hc
    show At F R (if (f ≠ g ∧ f ≠ h2) ∨ 0 < r then (r, f) else (r, if f = g then h2 else g))
    split
    · exact h
    · split
      · exact ⟨r0, r1, h0, h1⟩
      · exact ⟨r0, r1, g0, g1⟩
  | halve =>
    obtain ⟨n0, n1⟩ := num_in h
    exact ⟨Int.emod_nonneg _ (by omega), Int.emod_lt_of_pos _ hR, Int.ediv_nonneg n0 (by omega), Int.ediv_lt_of_lt_mul hR n1⟩
  | pair =>
    obtain ⟨n0, n1⟩ := num_in (at_swap h)
    exact ⟨Int.ediv_nonneg n0 (by omega), Int.ediv_lt_of_lt_mul hF n1, Int.emod_nonneg _ (by omega), Int.emod_lt_of_pos _ hF⟩
  | others =>
    show At F R (if r % 2 = 0 then (r / 2, f) else ((R + 1) / 2 + r / 2, f))
    split
    · exact ⟨by simp only; omega, by simp only; omega, f0, f1⟩
    · exact ⟨by simp only; omega, by simp only; omega, f0, f1⟩
  | fill =>
    show At F R (if r < (R + 1) / 2 then (2 * r, f) else (2 * (r - (R + 1) / 2) + 1, f))
    split
    · exact ⟨by simp only; omega, by simp only; omega, f0, f1⟩
    · exact ⟨by simp only; omega, by simp only; omega, f0, f1⟩
theorem Call.tn_ok {c : Call} (h : c.ok F) : c.tn.ok F := by cases c <;> exact h
theorem mv_tn {c : Call} {p : Int × Int} (hF : 0 < F) (hR : 0 < R) (hc : c.ok F) (h : At F R p) : mv F R c.tn (mv F R c p) = p := by
  obtain ⟨r, f⟩ := p
  have h' := h
  obtain ⟨r0, r1, f0, f1⟩ := h'
  simp only at r0 r1 f0 f1
  cases c with
  | all k => exact Prod.ext (ring_back' r0 r1) rfl
  | up g k =>
    show mv F R (.up g (-k)) (if f = g then ((r - k) % R, f) else (r, f)) = (r, f)
    by_cases z : f = g
    · rw [if_pos z]
      show (if f = g then (((r - k) % R - -k) % R, f) else ((r - k) % R, f)) = (r, f)
      rw [if_pos z, ring_back' r0 r1]
    · rw [if_neg z]
      exact if_neg z
  | about =>
    refine Prod.ext ?_ ?_
    · show R - 1 - (R - 1 - r) = r
      omega
    · show F - 1 - (F - 1 - f) = f
      omega
  | wheel g h2 k =>
    obtain ⟨g0, g1, h0, h1, gh⟩ := hc
    show whl R g h2 (-k) (whl R g h2 k (r, f)) = (r, f)
    by_cases z : f ≠ g ∧ f ≠ h2
    · rw [show whl R g h2 k (r, f) = (r, f) from if_pos z]
      exact if_pos z
    · obtain ⟨s, s0, s1, e⟩ := whl_of (p := (r, f)) hR gh r0 r1 z
      rw [e, whl_seat hR gh s0 s1]
      simp only
      rw [whl_seat hR gh (Int.emod_nonneg _ (by omega)) (Int.emod_lt_of_pos _ (by omega)), ring_back s0 s1]
  | swap g h2 =>
    obtain ⟨g0, g1, h0, h1, gh⟩ := hc
    show mv F R (.swap g h2) (if f ≠ g ∧ f ≠ h2 then (r, f) else (r, if f = g then h2 else g)) = (r, f)
    by_cases z : f ≠ g ∧ f ≠ h2
    · rw [if_pos z]
      exact if_pos z
    · rw [if_neg z]
      by_cases y : f = g
      · rw [if_pos y]
        show (if h2 ≠ g ∧ h2 ≠ h2 then (r, h2) else (r, if h2 = g then h2 else g)) = (r, f)
        rw [if_neg (by omega), if_neg (fun e => gh e.symm), y]
      · rw [if_neg y]
        show (if g ≠ g ∧ g ≠ h2 then (r, g) else (r, if g = g then h2 else g)) = (r, f)
        rw [if_neg (by omega), if_pos rfl]
        exact Prod.ext rfl (by simp only; omega)
  | front g h2 =>
    obtain ⟨g0, g1, h0, h1, gh⟩ := hc
    show mv F R (.front g h2) (if (f ≠ g ∧ f ≠ h2) ∨ 0 < r then (r, f) else (r, if f = g then h2 else g)) = (r, f)
    by_cases z : (f ≠ g ∧ f ≠ h2) ∨ 0 < r
    · rw [if_pos z]
      exact if_pos z
    · rw [if_neg z]
      by_cases y : f = g
      · rw [if_pos y]
        show (if (h2 ≠ g ∧ h2 ≠ h2) ∨ 0 < r then (r, h2) else (r, if h2 = g then h2 else g)) = (r, f)
        rw [if_neg (by omega), if_neg (fun e => gh e.symm), y]
      · rw [if_neg y]
        show (if (g ≠ g ∧ g ≠ h2) ∨ 0 < r then (r, g) else (r, if g = g then h2 else g)) = (r, f)
        rw [if_neg (by omega), if_pos rfl]
        exact Prod.ext rfl (by simp only; omega)
  | halve =>
    have e := Int.mul_ediv_add_emod (r * F + f) R
    show (((r * F + f) / R * R + (r * F + f) % R) / F, ((r * F + f) / R * R + (r * F + f) % R) % F) = (r, f)
    rw [Int.mul_comm, e, (divmod_of f0 f1).1, (divmod_of f0 f1).2]
  | pair =>
    have e := Int.mul_ediv_add_emod (f * R + r) F
    show (((f * R + r) / F * F + (f * R + r) % F) % R, ((f * R + r) / F * F + (f * R + r) % F) / R) = (r, f)
    rw [Int.mul_comm, e, (divmod_of r0 r1).1, (divmod_of r0 r1).2]
  | others =>
    show mv F R .fill (if r % 2 = 0 then (r / 2, f) else ((R + 1) / 2 + r / 2, f)) = (r, f)
    by_cases z : r % 2 = 0
    · rw [if_pos z]
      show (if r / 2 < (R + 1) / 2 then (2 * (r / 2), f) else (2 * (r / 2 - (R + 1) / 2) + 1, f)) = (r, f)
      rw [if_pos (by omega)]
      exact Prod.ext (by simp only; omega) rfl
    · rw [if_neg z]
      show (if (R + 1) / 2 + r / 2 < (R + 1) / 2 then (2 * ((R + 1) / 2 + r / 2), f) else (2 * ((R + 1) / 2 + r / 2 - (R + 1) / 2) + 1, f)) = (r, f)
      rw [if_neg (by omega)]
      exact Prod.ext (by simp only; omega) rfl
  | fill =>
    show mv F R .others (if r < (R + 1) / 2 then (2 * r, f) else (2 * (r - (R + 1) / 2) + 1, f)) = (r, f)
    by_cases z : r < (R + 1) / 2
    · rw [if_pos z]
      show (if 2 * r % 2 = 0 then (2 * r / 2, f) else ((R + 1) / 2 + 2 * r / 2, f)) = (r, f)
      rw [if_pos (by omega)]
      exact Prod.ext (by simp only; omega) rfl
    · rw [if_neg z]
      show (if (2 * (r - (R + 1) / 2) + 1) % 2 = 0 then ((2 * (r - (R + 1) / 2) + 1) / 2, f) else ((R + 1) / 2 + (2 * (r - (R + 1) / 2) + 1) / 2, f)) = (r, f)
      rw [if_neg (by omega)]
      exact Prod.ext (by simp only; omega) rfl
end
local macro_rules | `(tactic| walk_at "r") => `(tactic| simp (decide := true) only [bodyI, start0, sSeq, sNext, sNever, sCont, sBreak, sDrop, sRet, sRetN, sRet0, sRetO, sIf, sSet, sSetN, sSetP, sPar, sParEN, sParNE, sPar3, sAsg, gNm, gsNil, gsCons, gTp, sAugI, sIxO, sIxS, sAugS, stoL, setW, iVar, iC, iNil, iCons, iTup, iLst, nLst, iFz, iB, gAdd, gI, gIC, gSub, gMul, gDiv, gMod, gPow, gLt, gLe, gGt, gGe, gEq, gNe, gIn, gIsN, isN, iNeg, tTru', gTru, tBl, iChain, tAnd', tOr', tNot', tYes', iIf, iAnd, iOr, iNot, iIx, gIx, atW, iIxO, ownL, oNone, oSome, iSl, gSl, iRevL, iCall, nCall, iFn, Stt.put, Stt.puts, iMtO, gAppend, gInsert, gExtend, gLen, iLenO, gAbs, gInt, gMinMax, gList, gTuple, iListRg, gIsi, tyN, gRepr, cut_13, cut_1_2, cut_1_3, cut_m2, cut_m3, cut_m4, atI_m2, atI_m3, atI_m4, iOfT, tKdIn, iKdIx, atI_0, atI_1, atI_2, atI_3, ixN_4_0, ixN_4_1, ixN_4_2, ixN_4_3, Sto.put_same, Sto.put_put, toNat_2, List.map, List.replicate, List.length_cons, List.length_nil, List.getElem?_cons_zero, List.getElem?_cons_succ, List.getElem?_nil, List.set_cons_zero, List.set_cons_succ, List.set_nil, List.cons_append, List.nil_append, List.append_nil, if_true, if_false, fz_val, fz_new, so_lst, so_dct, so_ins, eqW_ii, eqW_ss, eqW_tt, eqW_ll, eqW_nn, eqW_bb, eqW_ni, eqW_in, eqW_nt, eqW_tn, eqW_nl, eqW_ln, eqW_is, eqW_si, eqWs_nil, eqWs_cons, eqWs_nc, eqWs_cn, okD_int, okD_str, okD_bl, okD_non, okD_tup, okD_lst, eqOk_ii, eqOk_ss, eqOk_nn, eqOk_bb, eqOk_in, eqOk_ni, eqOk_tt, eqOk_ll, flatW_int, flatW_str, flatW_bl, flatW_non, inW, List.any_cons, List.any_nil, List.all_cons, List.all_nil, Bool.or_false, Bool.or_true, Bool.true_or, Bool.false_or, Bool.and_true, Bool.true_and, Bool.and_false, Bool.false_and, Bool.not_true, Bool.not_false, Bool.false_eq_true, true_and, and_true, beq_self_eq_true, List.isEmpty_cons, List.isEmpty_nil, Int.reduceNeg, eq_self, forall_const, iFld, objOf, iProp, iMeth, nMake, iInv, iMulM, iLenM, iIsi, sAtt, iRevT, lIter, nRep, lEnum, lZip, iEqM, gOwn, iDGet2, iAddO, nDisp, nDNew, iPairs, keysW, keyW, nFn, gListN, nListRg, iTupRg, nIf, sParM, iItems, putsR, Sh.R.slot, gIsB, isB, iPeek, tPeek, iPeekS, Stt.ps, noOwn, gInD, nPeek, Stt.pk, frzS, plainW, plainWs, tyS, tyIn, cOk, isAny, isOne, Option.map_some, lk_ne, List.lookup_nil, putW, lk_self, iXf, iIsE, Hnd.w, sRaise1, sRaise0, sTryE, gMax3, gEqN, gReprN, iIdxT, iIdxL, iInRg, nListM, iBR, iFnR, iPub, iMtR, drW, drWs, nOwn, nMeth, nSl, nAdd, nAddO, iMtN, sAugL, gSortedG, tTruO, refW_tup, refW_lst, refW_dct, refW_int, refW_str, refW_bl, refW_non])
local macro_rules | `(tactic| walk_at "rsFor_lSeq_gItems") => `(tactic| simp (decide := true) only [bodyI, start0, sSeq, sNext, sNever, sCont, sBreak, sDrop, sRet, sRetN, sRet0, sRetO, sIf, sSet, sSetN, sSetP, sPar, sParEN, sParNE, sPar3, sAsg, gNm, gsNil, gsCons, gTp, sAugI, sIxO, sIxS, sAugS, stoL, setW, iVar, iC, iNil, iCons, iTup, iLst, nLst, iFz, iB, gAdd, gI, gIC, gSub, gMul, gDiv, gMod, gPow, gLt, gLe, gGt, gGe, gEq, gNe, gIn, gIsN, isN, iNeg, tTru', gTru, tBl, iChain, tAnd', tOr', tNot', tYes', iIf, iAnd, iOr, iNot, iIx, gIx, atW, iIxO, ownL, oNone, oSome, iSl, gSl, iRevL, iCall, nCall, iFn, Stt.put, Stt.puts, iMtO, gAppend, gInsert, gExtend, gLen, iLenO, gAbs, gInt, gMinMax, gList, gTuple, iListRg, gIsi, tyN, gRepr, cut_13, cut_1_2, cut_1_3, cut_m2, cut_m3, cut_m4, atI_m2, atI_m3, atI_m4, iOfT, tKdIn, iKdIx, atI_0, atI_1, atI_2, atI_3, ixN_4_0, ixN_4_1, ixN_4_2, ixN_4_3, Sto.put_same, Sto.put_put, toNat_2, List.map, List.replicate, List.length_cons, List.length_nil, List.getElem?_cons_zero, List.getElem?_cons_succ, List.getElem?_nil, List.set_cons_zero, List.set_cons_succ, List.set_nil, List.cons_append, List.nil_append, List.append_nil, if_true, if_false, fz_val, fz_new, so_lst, so_dct, so_ins, eqW_ii, eqW_ss, eqW_tt, eqW_ll, eqW_nn, eqW_bb, eqW_ni, eqW_in, eqW_nt, eqW_tn, eqW_nl, eqW_ln, eqW_is, eqW_si, eqWs_nil, eqWs_cons, eqWs_nc, eqWs_cn, okD_int, okD_str, okD_bl, okD_non, okD_tup, okD_lst, eqOk_ii, eqOk_ss, eqOk_nn, eqOk_bb, eqOk_in, eqOk_ni, eqOk_tt, eqOk_ll, flatW_int, flatW_str, flatW_bl, flatW_non, inW, List.any_cons, List.any_nil, List.all_cons, List.all_nil, Bool.or_false, Bool.or_true, Bool.true_or, Bool.false_or, Bool.and_true, Bool.true_and, Bool.and_false, Bool.false_and, Bool.not_true, Bool.not_false, Bool.false_eq_true, true_and, and_true, beq_self_eq_true, List.isEmpty_cons, List.isEmpty_nil, Int.reduceNeg, eq_self, forall_const, iFld, objOf, iProp, iMeth, nMake, iInv, iMulM, iLenM, iIsi, sAtt, iRevT, lIter, nRep, lEnum, lZip, iEqM, gOwn, iDGet2, iAddO, nDisp, nDNew, iPairs, keysW, keyW, nFn, gListN, nListRg, iTupRg, nIf, sParM, iItems, putsR, Sh.R.slot, gIsB, isB, iPeek, tPeek, iPeekS, Stt.ps, noOwn, gInD, nPeek, Stt.pk, frzS, plainW, plainWs, tyS, tyIn, cOk, isAny, isOne, Option.map_some, lk_ne, List.lookup_nil, putW, lk_self, iXf, iIsE, Hnd.w, sRaise1, sRaise0, sTryE, gMax3, gEqN, gReprN, iIdxT, iIdxL, iInRg, nListM, iBR, iFnR, iPub, iMtR, drW, drWs, nOwn, nMeth, nSl, nAdd, nAddO, iMtN, sAugL, gSortedG, tTruO, refW_tup, refW_lst, refW_dct, refW_int, refW_str, refW_bl, refW_non, sFor, lSeq, gItems])
local macro_rules | `(tactic| walk_at "rsFor_lRange1") => `(tactic| simp (decide := true) only [bodyI, start0, sSeq, sNext, sNever, sCont, sBreak, sDrop, sRet, sRetN, sRet0, sRetO, sIf, sSet, sSetN, sSetP, sPar, sParEN, sParNE, sPar3, sAsg, gNm, gsNil, gsCons, gTp, sAugI, sIxO, sIxS, sAugS, stoL, setW, iVar, iC, iNil, iCons, iTup, iLst, nLst, iFz, iB, gAdd, gI, gIC, gSub, gMul, gDiv, gMod, gPow, gLt, gLe, gGt, gGe, gEq, gNe, gIn, gIsN, isN, iNeg, tTru', gTru, tBl, iChain, tAnd', tOr', tNot', tYes', iIf, iAnd, iOr, iNot, iIx, gIx, atW, iIxO, ownL, oNone, oSome, iSl, gSl, iRevL, iCall, nCall, iFn, Stt.put, Stt.puts, iMtO, gAppend, gInsert, gExtend, gLen, iLenO, gAbs, gInt, gMinMax, gList, gTuple, iListRg, gIsi, tyN, gRepr, cut_13, cut_1_2, cut_1_3, cut_m2, cut_m3, cut_m4, atI_m2, atI_m3, atI_m4, iOfT, tKdIn, iKdIx, atI_0, atI_1, atI_2, atI_3, ixN_4_0, ixN_4_1, ixN_4_2, ixN_4_3, Sto.put_same, Sto.put_put, toNat_2, List.map, List.replicate, List.length_cons, List.length_nil, List.getElem?_cons_zero, List.getElem?_cons_succ, List.getElem?_nil, List.set_cons_zero, List.set_cons_succ, List.set_nil, List.cons_append, List.nil_append, List.append_nil, if_true, if_false, fz_val, fz_new, so_lst, so_dct, so_ins, eqW_ii, eqW_ss, eqW_tt, eqW_ll, eqW_nn, eqW_bb, eqW_ni, eqW_in, eqW_nt, eqW_tn, eqW_nl, eqW_ln, eqW_is, eqW_si, eqWs_nil, eqWs_cons, eqWs_nc, eqWs_cn, okD_int, okD_str, okD_bl, okD_non, okD_tup, okD_lst, eqOk_ii, eqOk_ss, eqOk_nn, eqOk_bb, eqOk_in, eqOk_ni, eqOk_tt, eqOk_ll, flatW_int, flatW_str, flatW_bl, flatW_non, inW, List.any_cons, List.any_nil, List.all_cons, List.all_nil, Bool.or_false, Bool.or_true, Bool.true_or, Bool.false_or, Bool.and_true, Bool.true_and, Bool.and_false, Bool.false_and, Bool.not_true, Bool.not_false, Bool.false_eq_true, true_and, and_true, beq_self_eq_true, List.isEmpty_cons, List.isEmpty_nil, Int.reduceNeg, eq_self, forall_const, iFld, objOf, iProp, iMeth, nMake, iInv, iMulM, iLenM, iIsi, sAtt, iRevT, lIter, nRep, lEnum, lZip, iEqM, gOwn, iDGet2, iAddO, nDisp, nDNew, iPairs, keysW, keyW, nFn, gListN, nListRg, iTupRg, nIf, sParM, iItems, putsR, Sh.R.slot, gIsB, isB, iPeek, tPeek, iPeekS, Stt.ps, noOwn, gInD, nPeek, Stt.pk, frzS, plainW, plainWs, tyS, tyIn, cOk, isAny, isOne, Option.map_some, lk_ne, List.lookup_nil, putW, lk_self, iXf, iIsE, Hnd.w, sRaise1, sRaise0, sTryE, gMax3, gEqN, gReprN, iIdxT, iIdxL, iInRg, nListM, iBR, iFnR, iPub, iMtR, drW, drWs, nOwn, nMeth, nSl, nAdd, nAddO, iMtN, sAugL, gSortedG, tTruO, refW_tup, refW_lst, refW_dct, refW_int, refW_str, refW_bl, refW_non, sFor, lRange1])
local macro_rules | `(tactic| walk_at "rnLc_lRange1") => `(tactic| simp (decide := true) only [bodyI, start0, sSeq, sNext, sNever, sCont, sBreak, sDrop, sRet, sRetN, sRet0, sRetO, sIf, sSet, sSetN, sSetP, sPar, sParEN, sParNE, sPar3, sAsg, gNm, gsNil, gsCons, gTp, sAugI, sIxO, sIxS, sAugS, stoL, setW, iVar, iC, iNil, iCons, iTup, iLst, nLst, iFz, iB, gAdd, gI, gIC, gSub, gMul, gDiv, gMod, gPow, gLt, gLe, gGt, gGe, gEq, gNe, gIn, gIsN, isN, iNeg, tTru', gTru, tBl, iChain, tAnd', tOr', tNot', tYes', iIf, iAnd, iOr, iNot, iIx, gIx, atW, iIxO, ownL, oNone, oSome, iSl, gSl, iRevL, iCall, nCall, iFn, Stt.put, Stt.puts, iMtO, gAppend, gInsert, gExtend, gLen, iLenO, gAbs, gInt, gMinMax, gList, gTuple, iListRg, gIsi, tyN, gRepr, cut_13, cut_1_2, cut_1_3, cut_m2, cut_m3, cut_m4, atI_m2, atI_m3, atI_m4, iOfT, tKdIn, iKdIx, atI_0, atI_1, atI_2, atI_3, ixN_4_0, ixN_4_1, ixN_4_2, ixN_4_3, Sto.put_same, Sto.put_put, toNat_2, List.map, List.replicate, List.length_cons, List.length_nil, List.getElem?_cons_zero, List.getElem?_cons_succ, List.getElem?_nil, List.set_cons_zero, List.set_cons_succ, List.set_nil, List.cons_append, List.nil_append, List.append_nil, if_true, if_false, fz_val, fz_new, so_lst, so_dct, so_ins, eqW_ii, eqW_ss, eqW_tt, eqW_ll, eqW_nn, eqW_bb, eqW_ni, eqW_in, eqW_nt, eqW_tn, eqW_nl, eqW_ln, eqW_is, eqW_si, eqWs_nil, eqWs_cons, eqWs_nc, eqWs_cn, okD_int, okD_str, okD_bl, okD_non, okD_tup, okD_lst, eqOk_ii, eqOk_ss, eqOk_nn, eqOk_bb, eqOk_in, eqOk_ni, eqOk_tt, eqOk_ll, flatW_int, flatW_str, flatW_bl, flatW_non, inW, List.any_cons, List.any_nil, List.all_cons, List.all_nil, Bool.or_false, Bool.or_true, Bool.true_or, Bool.false_or, Bool.and_true, Bool.true_and, Bool.and_false, Bool.false_and, Bool.not_true, Bool.not_false, Bool.false_eq_true, true_and, and_true, beq_self_eq_true, List.isEmpty_cons, List.isEmpty_nil, Int.reduceNeg, eq_self, forall_const, iFld, objOf, iProp, iMeth, nMake, iInv, iMulM, iLenM, iIsi, sAtt, iRevT, lIter, nRep, lEnum, lZip, iEqM, gOwn, iDGet2, iAddO, nDisp, nDNew, iPairs, keysW, keyW, nFn, gListN, nListRg, iTupRg, nIf, sParM, iItems, putsR, Sh.R.slot, gIsB, isB, iPeek, tPeek, iPeekS, Stt.ps, noOwn, gInD, nPeek, Stt.pk, frzS, plainW, plainWs, tyS, tyIn, cOk, isAny, isOne, Option.map_some, lk_ne, List.lookup_nil, putW, lk_self, iXf, iIsE, Hnd.w, sRaise1, sRaise0, sTryE, gMax3, gEqN, gReprN, iIdxT, iIdxL, iInRg, nListM, iBR, iFnR, iPub, iMtR, drW, drWs, nOwn, nMeth, nSl, nAdd, nAddO, iMtN, sAugL, gSortedG, tTruO, refW_tup, refW_lst, refW_dct, refW_int, refW_str, refW_bl, refW_non, nLc, lRange1])
def Bg (S : Sto) (a : Addr) : Prop := ∃ o, S a = some o ∧ IsBag o
structure Bx (a : Addr) (S S' : Sto) : Prop where
  bg : Bg S' a
  fr : ∀ b, b ≠ a → S' b = S b
theorem Bx.refl {a : Addr} {S : Sto} (h : Bg S a) : Bx a S S := ⟨h, fun _ _ => rfl⟩
theorem Bx.trans {a : Addr} {S S1 S2 : Sto} (h : Bx a S S1) (k : Bx a S1 S2) : Bx a S S2 := ⟨k.bg, fun b n => (k.fr b n).trans (h.fr b n)⟩
theorem Bx.put {a : Addr} {S : Sto} {o : SO} (h : IsBag o) : Bx a S (S.put a o) := ⟨⟨o, Sto.put_same, h⟩, fun _ n => Sto.put_ne n⟩
theorem bd_of {n : Int} (h0 : -1000000000000 ≤ n) (h1 : n ≤ 1000000000000) : Bd n := by unfold Bd lim; omega
section
variable {a : Addr} {S : Sto} {Q : R → Sto → Prop} {E : Exn → Sto → Prop}
theorem cl_take {n : Int} (hn : 0 < n) (bn : Bd n) (hb : Bg S a) (k : ∀ r S', 0 ≤ r → r < n → Bx a S S' → Q (.val (.int r)) S') : sp_l_take [.ref a, .int n] S Q E := by
  obtain ⟨o, ho, hb⟩ := hb
  exact ⟨a, n, o, rfl, hn, bn, ho, hb, fun r o' r0 r1 hb' => k r _ r0 r1 (.put hb')⟩
theorem cl_one {xs : List W} (hx : xs ≠ []) (hl : xs.length < 1000000000) (hb : Bg S a) (k : ∀ x S', x ∈ xs → Bx a S S' → Q (.val x) S') : sp_l_one [.ref a, .lst xs] S Q E := by
  obtain ⟨o, ho, hb⟩ := hb
  exact ⟨a, xs, o, rfl, hx, hl, ho, hb, fun x o' hx' hb' => k x _ hx' (.put hb')⟩
end
def ib_l_number : IS := (sSeq (sSet 2 (iB gAdd (iC (.int 1)) (iCall sp_l_take (iCons (iVar 0) (iCons (iIx (iLst (iCons (iC (.int 2)) (iCons (iC (.int 4)) (iCons (iC (.int 4)) (iCons (iVar 1) iNil))))) (iCall sp_l_take (iCons (iVar 0) (iCons (iC (.int 4)) iNil)))) iNil)))))
  (sRet (iIf (tBl (iB gEq (iCall sp_l_take (iCons (iVar 0) (iCons (iC (.int 2)) iNil))) (iC (.int 0)))) (iVar 2) (iNeg (iVar 2)))))
def ib_l_mixed_1 : IS := (sDrop (iMtO 2 gInsert (iCons (iCall sp_l_take (iCons (iVar 0) (iCons (iB gAdd (iLenO 2) (iC (.int 1))) iNil))) (iCons (iVar 3) iNil))))
def ib_l_mixed : IS := (sSeq (sSetN 2 (nLst iNil))
  (sSeq (sFor (lSeq (iVar 1)) (gNm 3) ib_l_mixed_1)
  (sRetO 2)))
def sp_l_number : ISp := fun ws S Q E => ∃ (a : Addr) (m : Int), ws = [.ref a, .int m] ∧ 0 < m ∧ Bd m ∧ Bg S a ∧ ∀ r S', r ≠ 0 → -(m + 4) ≤ r → r ≤ m + 4 → Bx a S S' → Q (.val (.int r)) S'
theorem ok_l_number (ws : List W) (S : Sto) (Q : R → Sto → Prop) (E : Exn → Sto → Prop) (h : sp_l_number ws S Q E) : bodyI 3 ib_l_number ws S Q E := by
  obtain ⟨a, m, rfl, hm, bm, hb, q⟩ := h
  unfold ib_l_number
  refine seq_go fun nx e => ?_
  walk_at "r"
  refine cl_take (by omega) (bd_of (by omega) (by omega)) hb fun i S1 i0 i1 b1 => ?_
  have hi : i = 0 ∨ i = 1 ∨ i = 2 ∨ i = 3 := by omega
  rcases hi with rfl | rfl | rfl | rfl
  all_goals
    walk_at "r"
    refine cl_take (by omega) (by first | exact bm | exact bd_of (by omega) (by omega)) b1.bg fun r S2 r0 r1 b2 => ?_
    subst e
    walk_at "r"
    refine cl_take (by omega) (bd_of (by omega) (by omega)) b2.bg fun j S3 j0 j1 b3 => ?_
    walk_at "r"
    exact ifb (fun _ => q _ _ (by omega) (by omega) (by omega) ((b1.trans b2).trans b3)) (fun _ => q _ _ (by omega) (by omega) (by omega) ((b1.trans b2).trans b3))
def sp_l_mixed : ISp := fun ws S Q E => ∃ (a : Addr) (xs : List W), ws = [.ref a, .lst xs] ∧ xs.length < 1000000 ∧ Bg S a ∧ ∀ ys S', ys.Perm xs → Bx a S S' → Q (.new (.lst ys)) S'
theorem insert_perm {α : Type} (x : α) : ∀ (l : List α) (i : Nat), (l.take i ++ x :: l.drop i).Perm (x :: l) := fun l i => by
  have := List.perm_middle (a := x) (l₁ := l.take i) (l₂ := l.drop i)
  rw [List.take_append_drop] at this
  exact this
theorem ok_l_mixed (ws : List W) (S : Sto) (Q : R → Sto → Prop) (E : Exn → Sto → Prop) (h : sp_l_mixed ws S Q E) : bodyI 4 ib_l_mixed ws S Q E := by
  obtain ⟨a, xs, rfl, hl, hb, q⟩ := h
  unfold ib_l_mixed
  refine seq_go fun nx e => ?_
  walk_at "r"
  subst e
  refine seq_cut (fun st => ∃ (x3 : Slot) (ys : List W) (S' : Sto), ys.Perm xs ∧ Bx a S S' ∧ st = ⟨[.val (.ref a), .val (.lst xs), .own (.lst ys), x3], S'⟩) (fun nx h => ?_) (fun st ⟨x3, ys, S', hp, hb', es⟩ => ?_)
  · walk_at "rsFor_lSeq_gItems"
    refine for_inv (fun zs st => ∃ (x3 : Slot) (ys : List W) (S' : Sto), (ys ++ zs).Perm xs ∧ Bx a S S' ∧ st = ⟨[.val (.ref a), .val (.lst xs), .own (.lst ys), x3], S'⟩) _ _ ⟨_, [], S, .refl _, .refl hb, rfl⟩ (fun st ⟨x3, ys, S', hp, hb', es⟩ => h _ ⟨x3, ys, S', by rw [List.append_nil] at hp; exact hp, hb', es⟩) fun z zs st nx ⟨x3, ys, S', hp, hb', es⟩ hn => ?_
    subst es
    unfold ib_l_mixed_1
    have hll := hp.length_eq
    rw [List.length_append, List.length_cons] at hll
    walk_at "r"
    refine cl_take (by omega) (bd_of (by omega) (by omega)) hb'.bg fun i S1 i0 i1 b1 => ?_
    walk_at "r"
    refine ⟨by rw [sizeLine_eq]; omega, i0, by omega, hn _ ⟨_, _, S1, ?_, hb'.trans b1, rfl⟩⟩
    refine List.Perm.trans ?_ hp
    rw [List.append_assoc (List.take i.toNat ys), List.singleton_append]
    refine ((insert_perm z ys i.toNat).append_right zs).trans ?_
    exact (List.perm_middle (a := z) (l₁ := ys) (l₂ := zs)).symm
  · subst es
    exact q _ _ hp hb'
theorem rng_nodup (lo : Int) (n : Nat) : (rng lo n).Nodup := by
  unfold rng
  refine List.pairwise_map.mpr (List.Pairwise.imp (fun {x y} h => fun z => h ?_) List.nodup_range)
  injection z with z
  omega
theorem rng_mem' {lo : Int} {n : Nat} {w : W} (h : w ∈ rng lo n) : ∃ i : Int, w = .int i ∧ lo ≤ i ∧ i < lo + n := by
  unfold rng at h
  obtain ⟨i, hi, e⟩ := List.mem_map.mp h
  have := List.mem_range.mp hi
  exact ⟨lo + i, e.symm, by omega, by omega⟩
def ib_l_two : IS := (sSeq (sSet 2 (iCall sp_l_mixed (iCons (iVar 0) (iCons (iListRg (iVar 1)) iNil))))
  (sRet (iTup (iCons (iIx (iVar 2) (iC (.int 0))) (iCons (iIx (iVar 2) (iC (.int 1))) iNil)))))
def sp_l_two : ISp := fun ws S Q E => ∃ (a : Addr) (F : Int), ws = [.ref a, .int F] ∧ 2 ≤ F ∧ F ≤ 3 ∧ Bg S a ∧ ∀ f g S', Two F f g → Bx a S S' → Q (.val (.tup [.int f, .int g])) S'
theorem ok_l_two (ws : List W) (S : Sto) (Q : R → Sto → Prop) (E : Exn → Sto → Prop) (h : sp_l_two ws S Q E) : bodyI 3 ib_l_two ws S Q E := by
  obtain ⟨a, F, rfl, h2, h3, hb, q⟩ := h
  unfold ib_l_two
  refine seq_go fun nx e => ?_
  walk_at "r"
  refine ⟨by omega, by omega, a, _, rfl, by rw [rng_length]; omega, hb, fun ys S' hp b => ?_⟩
  have hl := hp.length_eq
  rw [rng_length] at hl
  have hn := hp.nodup_iff.mpr (rng_nodup 0 F.toNat)
  match ys, hp, hl, hn with
  | [], _, hl, _ => simp only [List.length_nil] at hl; omega
  | [_], _, hl, _ => simp only [List.length_cons, List.length_nil] at hl; omega
  | y :: z :: rest, hp, hl, hn =>
    obtain ⟨f, rfl, f0, f1⟩ := rng_mem' (hp.mem_iff.mp (List.mem_cons_self ..))
    obtain ⟨g, rfl, g0, g1⟩ := rng_mem' (hp.mem_iff.mp (List.mem_cons_of_mem _ (List.mem_cons_self ..)))
    have ne : f ≠ g := fun z => by subst z; exact (List.nodup_cons.mp hn).1 (List.mem_cons_self ..)
    subst e
    walk_at "r"
    exact q f g S' ⟨f0, by omega, g0, by omega, ne⟩ b
def tenW : List Str := ["all", "up", "swap", "wheel", "about", "front", "halve", "pair", "others", "fill"]
/-- what is drawn for k -/
def Call.lt (m : Int) : Call → Prop
  | .all k => k ≠ 0 ∧ -m ≤ k ∧ k ≤ m
  | .up _ k => k ≠ 0 ∧ -m ≤ k ∧ k ≤ m
  | .wheel _ _ k => k ≠ 0 ∧ -m ≤ k ∧ k ≤ m
  | _ => True
def ib_l_call : IS := (sSeq (sSet 4 (iCall sp_l_one (iCons (iVar 0) (iCons (iVar 2) iNil))))
  (sSeq (sIf (tBl (iB gEq (iVar 4) (iC (.str "all")))) (sRet (iTup (iCons (iC (.str "all")) (iCons (iCall sp_l_number (iCons (iVar 0) (iCons (iVar 3) iNil))) iNil)))) sNext)
  (sSeq (sIf (tBl (iB gEq (iVar 4) (iC (.str "up")))) (sRet (iTup (iCons (iC (.str "up")) (iCons (iCall sp_l_take (iCons (iVar 0) (iCons (iVar 1) iNil))) (iCons (iCall sp_l_number (iCons (iVar 0) (iCons (iVar 3) iNil))) iNil))))) sNext)
  (sSeq (sIf (tBl (iB (gIn false) (iVar 4) (iTup (iCons (iC (.str "swap")) (iCons (iC (.str "front")) iNil))))) (sRet (iB gAdd (iTup (iCons (iVar 4) iNil)) (iCall sp_l_two (iCons (iVar 0) (iCons (iVar 1) iNil))))) sNext)
  (sSeq (sIf (tBl (iB gEq (iVar 4) (iC (.str "wheel")))) (sRet (iB gAdd (iB gAdd (iTup (iCons (iC (.str "wheel")) iNil)) (iCall sp_l_two (iCons (iVar 0) (iCons (iVar 1) iNil)))) (iTup (iCons (iCall sp_l_number (iCons (iVar 0) (iCons (iVar 3) iNil))) iNil)))) sNext)
  (sRet (iTup (iCons (iVar 4) iNil))))))))
def sp_l_call : ISp := fun ws S Q E => ∃ (a : Addr) (F m : Int) (ks : List Str), ws = [.ref a, .int F, .lst (ks.map .str), .int m] ∧ 2 ≤ F ∧ F ≤ 3 ∧ 0 < m ∧ Bd m ∧ ks ≠ [] ∧ ks.length < 100 ∧ (∀ k ∈ ks, k ∈ tenW) ∧ Bg S a ∧
  ∀ (c : Call) S', c.ok F → c.lt (m + 4) → c.word ∈ ks → Bx a S S' → Q (.val c.w) S'
theorem ok_l_call (ws : List W) (S : Sto) (Q : R → Sto → Prop) (E : Exn → Sto → Prop) (h : sp_l_call ws S Q E) : bodyI 5 ib_l_call ws S Q E := by
  obtain ⟨a, F, m, ks, rfl, h2, h3, hm, bm, hk, hkl, hks, hb, q⟩ := h
  unfold ib_l_call
  refine seq_go fun nx e => ?_
  walk_at "r"
  refine cl_one (fun z => hk (List.map_eq_nil_iff.mp z)) (by rw [List.length_map]; omega) hb fun x S1 hx b1 => ?_
  obtain ⟨k, hk1, rfl⟩ := List.mem_map.mp hx
  have hw := hks k hk1
  subst e
  simp only [tenW, List.mem_cons, List.not_mem_nil, or_false] at hw
  rcases hw with rfl | rfl | rfl | rfl | rfl | rfl | rfl | rfl | rfl | rfl
  all_goals walk_at "r"
  · exact ⟨a, m, rfl, hm, bm, b1.bg, fun r S2 r0 r1 r2 b2 => q (.all r) S2 trivial ⟨r0, r1, r2⟩ hk1 (b1.trans b2)⟩
  · refine cl_take (by omega) (bd_of (by omega) (by omega)) b1.bg fun f S2 f0 f1 b2 => ⟨a, m, rfl, hm, bm, b2.bg, fun r S3 r0 r1 r2 b3 => q (.up f r) S3 ⟨f0, f1⟩ ⟨r0, r1, r2⟩ hk1 ((b1.trans b2).trans b3)⟩
  · refine ⟨a, F, rfl, h2, h3, b1.bg, fun f g S2 fg b2 => ⟨by simp only [R.fz, gAdd, List.length_cons, List.length_nil]; decide, q (.swap f g) S2 fg trivial hk1 (b1.trans b2)⟩⟩
  · refine ⟨a, F, rfl, h2, h3, b1.bg, fun f g S2 fg b2 => ⟨by simp only [List.length_cons, List.length_nil]; decide, a, m, rfl, hm, bm, b2.bg, fun r S3 r0 r1 r2 b3 => ⟨by simp only [List.length_append, List.length_cons, List.length_nil]; decide, q (.wheel f g r) S3 fg ⟨r0, r1, r2⟩ hk1 ((b1.trans b2).trans b3)⟩⟩⟩
  · exact q .about S1 trivial trivial hk1 b1
  · refine ⟨a, F, rfl, h2, h3, b1.bg, fun f g S2 fg b2 => ⟨by simp only [R.fz, gAdd, List.length_cons, List.length_nil]; decide, q (.front f g) S2 fg trivial hk1 (b1.trans b2)⟩⟩
  · exact q .halve S1 trivial trivial hk1 b1
  · exact q .pair S1 trivial trivial hk1 b1
  · exact q .others S1 trivial trivial hk1 b1
  · exact q .fill S1 trivial trivial hk1 b1
theorem for_rng {g : IG} {body : IS} {EI : XI} {D : IEnds} {lo : Int} (I : Nat → Stt → Prop) (n : Nat) (st : Stt) (h0 : I 0 st) (hd : ∀ st, I n st → D.nx st)
    (hs : ∀ i, i < n → ∀ st (nx : Stt → Prop), I i st → (∀ st', I (i + 1) st' → nx st') → g (.int (lo + i)) st fun st1 => body EI { nx := nx, ct := nx, bk := D.nx, rt := D.rt } st1) : forGo g body EI D (rng lo n) st := by
  have key : ∀ (m i : Nat) (st : Stt), i + m = n → I i st → forGo g body EI D ((List.range' i m).map fun (j : Nat) => W.int (lo + (j : Int))) st := by
    intro m
    induction m with
    | zero => intro i st e hi; exact hd st (by have : i = n := by omega
                                               rw [← this]; exact hi)
    | succ m ih =>
      intro i st e hi
      rw [List.range'_succ, List.map_cons]
      exact hs i (by omega) st _ hi fun st' h' => ih (i + 1) st' (by omega) h'
  have := key n 0 st (by omega) h0
  rw [← List.range_eq_range'] at this
  exact this
theorem lc_fn {g : IG} {ie : IE} {vs : List Nat} {Q : SO → Stt → Prop} {α : Type} (st0 : Stt) (enc f : α → W) (as : List α) (st : Stt) (h : ∀ a ∈ as, ∀ Y : W → Stt → Prop, (∀ st', st'.wipe vs = st0 → Y (f a) st') → g (enc a) st0 fun st1 => ie noX st1 Y)
    (e : st.wipe vs = st0) (hl : as.length ≤ sizeLine) (q : ∀ st', st'.wipe vs = st0 → Q (.lst (as.map f)) st') : lcGo g tYes' ie vs Q (as.map enc) [] st := by
  have key : ∀ (as' : List α) (acc : List W) (st : Stt), (∀ a ∈ as', a ∈ as) → st.wipe vs = st0 → acc.length + as'.length ≤ sizeLine → (∀ st', st'.wipe vs = st0 → Q (.lst (acc ++ as'.map f)) st') → lcGo g tYes' ie vs Q (as'.map enc) acc st := by
    intro as'
    induction as' with
    | nil =>
      intro acc st _ e _ q
      have := q st e
      rw [List.map_nil, List.append_nil] at this
      exact this
    | cons a as' ih =>
      intro acc st hm e hl q
      rw [List.length_cons] at hl
      show g (enc a) (st.wipe vs) fun st1 => if true = true then ie noX st1 fun y st3 => acc.length < sizeLine ∧ lcGo g tYes' ie vs Q (as'.map enc) (acc ++ [y]) st3 else lcGo g tYes' ie vs Q (as'.map enc) acc st1
      rw [e]
      simp only [if_true]
      refine h a (hm a (List.mem_cons_self ..)) _ fun st' es => ⟨by omega, ih _ _ (fun b hb => hm b (List.mem_cons_of_mem _ hb)) es (by rw [List.length_append, List.length_singleton]; omega) fun st2 e2 => ?_⟩
      have := q st2 e2
      rw [List.map_cons] at this
      rw [List.append_assoc]
      exact this
  exact key as [] st (fun _ h => h) e (by rw [List.length_nil]; omega) fun st' e => by rw [List.nil_append]; exact q st' e
local macro_rules | `(tactic| walk_at "rblsOf") => `(tactic| simp (decide := true) only [bodyI, start0, sSeq, sNext, sNever, sCont, sBreak, sDrop, sRet, sRetN, sRet0, sRetO, sIf, sSet, sSetN, sSetP, sPar, sParEN, sParNE, sPar3, sAsg, gNm, gsNil, gsCons, gTp, sAugI, sIxO, sIxS, sAugS, stoL, setW, iVar, iC, iNil, iCons, iTup, iLst, nLst, iFz, iB, gAdd, gI, gIC, gSub, gMul, gDiv, gMod, gPow, gLt, gLe, gGt, gGe, gEq, gNe, gIn, gIsN, isN, iNeg, tTru', gTru, tBl, iChain, tAnd', tOr', tNot', tYes', iIf, iAnd, iOr, iNot, iIx, gIx, atW, iIxO, ownL, oNone, oSome, iSl, gSl, iRevL, iCall, nCall, iFn, Stt.put, Stt.puts, iMtO, gAppend, gInsert, gExtend, gLen, iLenO, gAbs, gInt, gMinMax, gList, gTuple, iListRg, gIsi, tyN, gRepr, cut_13, cut_1_2, cut_1_3, cut_m2, cut_m3, cut_m4, atI_m2, atI_m3, atI_m4, iOfT, tKdIn, iKdIx, atI_0, atI_1, atI_2, atI_3, ixN_4_0, ixN_4_1, ixN_4_2, ixN_4_3, Sto.put_same, Sto.put_put, toNat_2, List.map, List.replicate, List.length_cons, List.length_nil, List.getElem?_cons_zero, List.getElem?_cons_succ, List.getElem?_nil, List.set_cons_zero, List.set_cons_succ, List.set_nil, List.cons_append, List.nil_append, List.append_nil, if_true, if_false, fz_val, fz_new, so_lst, so_dct, so_ins, eqW_ii, eqW_ss, eqW_tt, eqW_ll, eqW_nn, eqW_bb, eqW_ni, eqW_in, eqW_nt, eqW_tn, eqW_nl, eqW_ln, eqW_is, eqW_si, eqWs_nil, eqWs_cons, eqWs_nc, eqWs_cn, okD_int, okD_str, okD_bl, okD_non, okD_tup, okD_lst, eqOk_ii, eqOk_ss, eqOk_nn, eqOk_bb, eqOk_in, eqOk_ni, eqOk_tt, eqOk_ll, flatW_int, flatW_str, flatW_bl, flatW_non, inW, List.any_cons, List.any_nil, List.all_cons, List.all_nil, Bool.or_false, Bool.or_true, Bool.true_or, Bool.false_or, Bool.and_true, Bool.true_and, Bool.and_false, Bool.false_and, Bool.not_true, Bool.not_false, Bool.false_eq_true, true_and, and_true, beq_self_eq_true, List.isEmpty_cons, List.isEmpty_nil, Int.reduceNeg, eq_self, forall_const, iFld, objOf, iProp, iMeth, nMake, iInv, iMulM, iLenM, iIsi, sAtt, iRevT, lIter, nRep, lEnum, lZip, iEqM, gOwn, iDGet2, iAddO, nDisp, nDNew, iPairs, keysW, keyW, nFn, gListN, nListRg, iTupRg, nIf, sParM, iItems, putsR, Sh.R.slot, gIsB, isB, iPeek, tPeek, iPeekS, Stt.ps, noOwn, gInD, nPeek, Stt.pk, frzS, plainW, plainWs, tyS, tyIn, cOk, isAny, isOne, Option.map_some, lk_ne, List.lookup_nil, putW, lk_self, iXf, iIsE, Hnd.w, sRaise1, sRaise0, sTryE, gMax3, gEqN, gReprN, iIdxT, iIdxL, iInRg, nListM, iBR, iFnR, iPub, iMtR, drW, drWs, nOwn, nMeth, nSl, nAdd, nAddO, iMtN, sAugL, gSortedG, tTruO, refW_tup, refW_lst, refW_dct, refW_int, refW_str, refW_bl, refW_non, blsOf])
local macro_rules | `(tactic| simp! only [$xs,*]) => `(tactic| simp (decide := true) only [bodyI, start0, sSeq, sNext, sNever, sCont, sBreak, sDrop, sRet, sRetN, sRet0, sRetO, sIf, sSet, sSetN, sSetP, sPar, sParEN, sParNE, sPar3, sAsg, gNm, gsNil, gsCons, gTp, sAugI, sIxO, sIxS, sAugS, stoL, setW, iVar, iC, iNil, iCons, iTup, iLst, nLst, iFz, iB, gAdd, gI, gIC, gSub, gMul, gDiv, gMod, gPow, gLt, gLe, gGt, gGe, gEq, gNe, gIn, gIsN, isN, iNeg, tTru', gTru, tBl, iChain, tAnd', tOr', tNot', tYes', iIf, iAnd, iOr, iNot, iIx, gIx, atW, iIxO, ownL, oNone, oSome, iSl, gSl, iRevL, iCall, nCall, iFn, Stt.put, Stt.puts, iMtO, gAppend, gInsert, gExtend, gLen, iLenO, gAbs, gInt, gMinMax, gList, gTuple, iListRg, gIsi, tyN, gRepr, cut_13, cut_1_2, cut_1_3, cut_m2, cut_m3, cut_m4, atI_m2, atI_m3, atI_m4, iOfT, tKdIn, iKdIx, atI_0, atI_1, atI_2, atI_3, ixN_4_0, ixN_4_1, ixN_4_2, ixN_4_3, Sto.put_same, Sto.put_put, toNat_2, List.map, List.replicate, List.length_cons, List.length_nil, List.getElem?_cons_zero, List.getElem?_cons_succ, List.getElem?_nil, List.set_cons_zero, List.set_cons_succ, List.set_nil, List.cons_append, List.nil_append, List.append_nil, if_true, if_false, fz_val, fz_new, so_lst, so_dct, so_ins, eqW_ii, eqW_ss, eqW_tt, eqW_ll, eqW_nn, eqW_bb, eqW_ni, eqW_in, eqW_nt, eqW_tn, eqW_nl, eqW_ln, eqW_is, eqW_si, eqWs_nil, eqWs_cons, eqWs_nc, eqWs_cn, okD_int, okD_str, okD_bl, okD_non, okD_tup, okD_lst, eqOk_ii, eqOk_ss, eqOk_nn, eqOk_bb, eqOk_in, eqOk_ni, eqOk_tt, eqOk_ll, flatW_int, flatW_str, flatW_bl, flatW_non, inW, List.any_cons, List.any_nil, List.all_cons, List.all_nil, Bool.or_false, Bool.or_true, Bool.true_or, Bool.false_or, Bool.and_true, Bool.true_and, Bool.and_false, Bool.false_and, Bool.not_true, Bool.not_false, Bool.false_eq_true, true_and, and_true, beq_self_eq_true, List.isEmpty_cons, List.isEmpty_nil, Int.reduceNeg, eq_self, forall_const, iFld, objOf, iProp, iMeth, nMake, iInv, iMulM, iLenM, iIsi, sAtt, iRevT, lIter, nRep, lEnum, lZip, iEqM, gOwn, iDGet2, iAddO, nDisp, nDNew, iPairs, keysW, keyW, nFn, gListN, nListRg, iTupRg, nIf, sParM, iItems, putsR, Sh.R.slot, gIsB, isB, iPeek, tPeek, iPeekS, Stt.ps, noOwn, gInD, nPeek, Stt.pk, frzS, plainW, plainWs, tyS, tyIn, cOk, isAny, isOne, Option.map_some, lk_ne, List.lookup_nil, putW, lk_self, iXf, iIsE, Hnd.w, sRaise1, sRaise0, sTryE, gMax3, gEqN, gReprN, iIdxT, iIdxL, iInRg, nListM, iBR, iFnR, iPub, iMtR, drW, drWs, nOwn, nMeth, nSl, nAdd, nAddO, iMtN, sAugL, gSortedG, tTruO, refW_tup, refW_lst, refW_dct, refW_int, refW_str, refW_bl, refW_non, $xs,*])
def kT_BY_FILES : List (Str × W) := [("all", .int (0)), ("up", .int (1)), ("swap", .int (2)), ("wheel", .int (2)), ("about", .int (0)), ("front", .int (2)), ("halve", .int (0)), ("pair", .int (0)), ("others", .int (0)), ("fill", .int (0))]
def ib_p_is_files : IS := (sRet (iAnd (iCall sp_p_is_integer (iCons (iVar 0) iNil)) (iB (gIn false) (iVar 0) (iTup (iCons (iC (.int 2)) (iCons (iC (.int 3)) iNil))))))
def ib_p_is_call : IS := (sSeq (sIf (tOr' (tNot' (tTru' (iFn gIsi (iCons (iVar 1) (iCons (iC (.ty "tuple")) iNil))))) (tOr' (tBl (iB gEq (iFn gLen (iCons (iVar 1) iNil)) (iC (.int 0)))) (tOr' (tNot' (tTru' (iFn gIsi (iCons (iIx (iVar 1) (iC (.int 0))) (iCons (iC (.ty "str")) iNil))))) (tKdIn true kT_BY_FILES (iIx (iVar 1) (iC (.int 0))))))) (sRet (iC (.bl false))) sNext)
  (sSeq (sPar 2 3 (iKdIx kT_BY_FILES (iIx (iVar 1) (iC (.int 0)))) (iFn gInt (iCons (iB (gIn false) (iIx (iVar 1) (iC (.int 0))) (iC kC_BY_NUMBER)) iNil)))
  (sSeq (sIf (tOr' (tBl (iB gNe (iFn gLen (iCons (iVar 1) iNil)) (iB gAdd (iB gAdd (iC (.int 1)) (iVar 2)) (iVar 3)))) (tNot' (tTru' (iFn (gAll fun bs => bs.all id) (iCons (iFz (nLc (lSeq (iSl (iVar 1) (oSome (iC (.int 1))) (oSome (iB gAdd (iC (.int 1)) (iVar 2))))) (gNm 4) tYes' (iCall sp_p_is_index (iCons (iVar 4) (iCons (iVar 0) iNil))) [4])) iNil))))) (sRet (iC (.bl false))) sNext)
  (sSeq (sIf (tAnd' (tBl (iB gEq (iVar 2) (iC (.int 2)))) (tBl (iB gEq (iIx (iVar 1) (iC (.int 1))) (iIx (iVar 1) (iC (.int 2)))))) (sRet (iC (.bl false))) sNext)
  (sRet (iOr (iB gEq (iVar 3) (iC (.int 0))) (iAnd (iCall sp_p_is_integer (iCons (iIx (iVar 1) (iNeg (iC (.int 1)))) iNil)) (iB gNe (iIx (iVar 1) (iNeg (iC (.int 1)))) (iC (.int 0))))))))))
def sp_p_is_files : ISp := fun ws S Q E => ∃ F : Int, ws = [.int F] ∧ Q (.val (.bl (decide (F = 2 ∨ F = 3)))) S
theorem ok_p_is_files (ws : List W) (S : Sto) (Q : R → Sto → Prop) (E : Exn → Sto → Prop) (h : sp_p_is_files ws S Q E) : bodyI 1 ib_p_is_files ws S Q E := by
  obtain ⟨F, rfl, q⟩ := h
  unfold ib_p_is_files
  walk_at "r"
  refine ⟨_, rfl, (fun z => nomatch z), ?_⟩
  simp! only [isI]
  have e : ((2 == F) || (3 == F)) = decide (F = 2 ∨ F = 3) := by
    by_cases a : F = 2
    · subst a; rfl
    · by_cases b : F = 3
      · subst b; rfl
      · simp [a, b, Ne.symm a, Ne.symm b]
  rw [e]
  exact q
/-- k is not 0 -/
def Call.nz : Call → Prop
  | .all k => k ≠ 0
  | .up _ k => k ≠ 0
  | .wheel _ _ k => k ≠ 0
  | _ => True
structure Call.gd (F : Int) (c : Call) : Prop where
  ok : c.ok F
  nz : c.nz
def sp_p_is_call : ISp := fun ws S Q E => ∃ (F : Int) (c : Call), ws = [.int F, c.w] ∧ c.gd F ∧ Q (.val (.bl true)) S
theorem isIx_t {f F : Int} (h0 : 0 ≤ f) (h1 : f < F) : isIx (.int f) F = true := by
  unfold isIx
  simp [h0, h1]
theorem bf_all : kT_BY_FILES.lookup ("all" : Str) = some (W.int 0) := rfl
theorem bf_up : kT_BY_FILES.lookup ("up" : Str) = some (W.int 1) := rfl
theorem bf_swap : kT_BY_FILES.lookup ("swap" : Str) = some (W.int 2) := rfl
theorem bf_wheel : kT_BY_FILES.lookup ("wheel" : Str) = some (W.int 2) := rfl
theorem bf_about : kT_BY_FILES.lookup ("about" : Str) = some (W.int 0) := rfl
theorem bf_front : kT_BY_FILES.lookup ("front" : Str) = some (W.int 2) := rfl
theorem bf_halve : kT_BY_FILES.lookup ("halve" : Str) = some (W.int 0) := rfl
theorem bf_pair : kT_BY_FILES.lookup ("pair" : Str) = some (W.int 0) := rfl
theorem bf_others : kT_BY_FILES.lookup ("others" : Str) = some (W.int 0) := rfl
theorem bf_fill : kT_BY_FILES.lookup ("fill" : Str) = some (W.int 0) := rfl
section
variable {α : Type} {a b c d : α}
theorem cut1_11 : cutW [a] (some 1) (some 1) = [] := rfl
theorem cut2_11 : cutW [a, b] (some 1) (some 1) = [] := rfl
theorem cut3_12 : cutW [a, b, c] (some 1) (some 2) = [b] := rfl
theorem cut3_13 : cutW [a, b, c] (some 1) (some 3) = [b, c] := rfl
end
theorem z22 : (1 : Int) + 0 = 1 := rfl
theorem z23 : (1 : Int) + 1 = 2 := rfl
theorem z24 : (1 : Int) + 2 = 3 := rfl
theorem z25 : (2 : Int) + 1 = 3 := rfl
theorem z26 : (3 : Int) + 1 = 4 := rfl
theorem ok_p_is_call (ws : List W) (S : Sto) (Q : R → Sto → Prop) (E : Exn → Sto → Prop) (h : sp_p_is_call ws S Q E) : bodyI 5 ib_p_is_call ws S Q E := by
  obtain ⟨F, c, rfl, ⟨hc, hz⟩, q⟩ := h
  unfold ib_p_is_call
  have bo : ∀ {x : W} {n : Int} {Q : R → Sto → Prop}, (∃ f, x = .int f ∧ 0 ≤ f ∧ f < n) → Q (.val (.bl true)) S → sp_p_is_index [x, .int n] S Q fun _ _ => False := fun ⟨f, e, f0, f1⟩ q => by
    subst e
    exact ⟨_, _, rfl, (fun z => nomatch z), by rw [isIx_t f0 f1]; exact q⟩
  cases c with
  | all k =>
    refine seq_go fun nx e => ?_
    simp! only [Call.w, bf_all, kitB]
    subst e
    refine seq_go fun nx e => ?_
    simp! only [Call.w, bf_all, kC_BY_NUMBER]
    subst e
    refine seq_go fun nx e => ?_
    simp! only [nLc, lSeq, gItems, lcGo, Stt.wipe, cut1_11, cut2_11, cut3_12, cut3_13, cut_13, z22, z23, z24, z25, z26, gAll, blsOf]
    subst e
    refine seq_go fun nx e => ?_
    walk_at "r"
    subst e
    walk_at "r"
    refine ⟨_, rfl, (fun z => nomatch z), ?_⟩
    simp! only [isI]
    rw [beq_eq_false_iff_ne.mpr hz]
    exact q
  | up f k =>
    refine seq_go fun nx e => ?_
    simp! only [Call.w, bf_up, kitB]
    subst e
    refine seq_go fun nx e => ?_
    simp! only [Call.w, bf_up, kC_BY_NUMBER]
    subst e
    refine seq_go fun nx e => ?_
    simp! only [nLc, lSeq, gItems, lcGo, Stt.wipe, cut1_11, cut2_11, cut3_12, cut3_13, cut_13, z22, z23, z24, z25, z26, gAll, blsOf]
    refine bo ⟨_, rfl, hc.1, hc.2⟩ ?_
    walk_at "rblsOf"
    subst e
    refine seq_go fun nx e => ?_
    walk_at "r"
    subst e
    walk_at "r"
    refine ⟨_, rfl, (fun z => nomatch z), ?_⟩
    simp! only [isI]
    rw [beq_eq_false_iff_ne.mpr hz]
    exact q
  | swap f g =>
    refine seq_go fun nx e => ?_
    simp! only [Call.w, bf_swap, kitB]
    subst e
    refine seq_go fun nx e => ?_
    simp! only [Call.w, bf_swap, kC_BY_NUMBER]
    subst e
    refine seq_go fun nx e => ?_
    simp! only [nLc, lSeq, gItems, lcGo, Stt.wipe, cut1_11, cut2_11, cut3_12, cut3_13, cut_13, z22, z23, z24, z25, z26, gAll, blsOf]
    refine bo ⟨_, rfl, hc.1, hc.2.1⟩ ?_
    walk_at "rblsOf"
    refine bo ⟨_, rfl, hc.2.2.1, hc.2.2.2.1⟩ ?_
    walk_at "rblsOf"
    subst e
    refine seq_go fun nx e => ?_
    walk_at "r"
    refine ifF (beq_eq_false_iff_ne.mpr hc.2.2.2.2) ?_
    subst e
    walk_at "r"
    exact q
  | wheel f g k =>
    refine seq_go fun nx e => ?_
    simp! only [Call.w, bf_wheel, kitB]
    subst e
    refine seq_go fun nx e => ?_
    simp! only [Call.w, bf_wheel, kC_BY_NUMBER]
    subst e
    refine seq_go fun nx e => ?_
    simp! only [nLc, lSeq, gItems, lcGo, Stt.wipe, cut1_11, cut2_11, cut3_12, cut3_13, cut_13, z22, z23, z24, z25, z26, gAll, blsOf]
    refine bo ⟨_, rfl, hc.1, hc.2.1⟩ ?_
    walk_at "rblsOf"
    refine bo ⟨_, rfl, hc.2.2.1, hc.2.2.2.1⟩ ?_
    walk_at "rblsOf"
    subst e
    refine seq_go fun nx e => ?_
    walk_at "r"
    refine ifF (beq_eq_false_iff_ne.mpr hc.2.2.2.2) ?_
    subst e
    walk_at "r"
    refine ⟨_, rfl, (fun z => nomatch z), ?_⟩
    simp! only [isI]
    rw [beq_eq_false_iff_ne.mpr hz]
    exact q
  | front f g =>
    refine seq_go fun nx e => ?_
    simp! only [Call.w, bf_front, kitB]
    subst e
    refine seq_go fun nx e => ?_
    simp! only [Call.w, bf_front, kC_BY_NUMBER]
    subst e
    refine seq_go fun nx e => ?_
    simp! only [nLc, lSeq, gItems, lcGo, Stt.wipe, cut1_11, cut2_11, cut3_12, cut3_13, cut_13, z22, z23, z24, z25, z26, gAll, blsOf]
    refine bo ⟨_, rfl, hc.1, hc.2.1⟩ ?_
    walk_at "rblsOf"
    refine bo ⟨_, rfl, hc.2.2.1, hc.2.2.2.1⟩ ?_
    walk_at "rblsOf"
    subst e
    refine seq_go fun nx e => ?_
    walk_at "r"
    refine ifF (beq_eq_false_iff_ne.mpr hc.2.2.2.2) ?_
    subst e
    walk_at "r"
    exact q
  | about =>
    refine seq_go fun nx e => ?_
    simp! only [Call.w, bf_about, kitB]
    subst e
    refine seq_go fun nx e => ?_
    simp! only [Call.w, bf_about, kC_BY_NUMBER]
    subst e
    refine seq_go fun nx e => ?_
    simp! only [nLc, lSeq, gItems, lcGo, Stt.wipe, cut1_11, cut2_11, cut3_12, cut3_13, cut_13, z22, z23, z24, z25, z26, gAll, blsOf]
    subst e
    refine seq_go fun nx e => ?_
    walk_at "r"
    subst e
    walk_at "r"
    exact q
  | halve =>
    refine seq_go fun nx e => ?_
    simp! only [Call.w, bf_halve, kitB]
    subst e
    refine seq_go fun nx e => ?_
    simp! only [Call.w, bf_halve, kC_BY_NUMBER]
    subst e
    refine seq_go fun nx e => ?_
    simp! only [nLc, lSeq, gItems, lcGo, Stt.wipe, cut1_11, cut2_11, cut3_12, cut3_13, cut_13, z22, z23, z24, z25, z26, gAll, blsOf]
    subst e
    refine seq_go fun nx e => ?_
    walk_at "r"
    subst e
    walk_at "r"
    exact q
  | pair =>
    refine seq_go fun nx e => ?_
    simp! only [Call.w, bf_pair, kitB]
    subst e
    refine seq_go fun nx e => ?_
    simp! only [Call.w, bf_pair, kC_BY_NUMBER]
    subst e
    refine seq_go fun nx e => ?_
    simp! only [nLc, lSeq, gItems, lcGo, Stt.wipe, cut1_11, cut2_11, cut3_12, cut3_13, cut_13, z22, z23, z24, z25, z26, gAll, blsOf]
    subst e
    refine seq_go fun nx e => ?_
    walk_at "r"
    subst e
    walk_at "r"
    exact q
  | others =>
    refine seq_go fun nx e => ?_
    simp! only [Call.w, bf_others, kitB]
    subst e
    refine seq_go fun nx e => ?_
    simp! only [Call.w, bf_others, kC_BY_NUMBER]
    subst e
    refine seq_go fun nx e => ?_
    simp! only [nLc, lSeq, gItems, lcGo, Stt.wipe, cut1_11, cut2_11, cut3_12, cut3_13, cut_13, z22, z23, z24, z25, z26, gAll, blsOf]
    subst e
    refine seq_go fun nx e => ?_
    walk_at "r"
    subst e
    walk_at "r"
    exact q
  | fill =>
    refine seq_go fun nx e => ?_
    simp! only [Call.w, bf_fill, kitB]
    subst e
    refine seq_go fun nx e => ?_
    simp! only [Call.w, bf_fill, kC_BY_NUMBER]
    subst e
    refine seq_go fun nx e => ?_
    simp! only [nLc, lSeq, gItems, lcGo, Stt.wipe, cut1_11, cut2_11, cut3_12, cut3_13, cut_13, z22, z23, z24, z25, z26, gAll, blsOf]
    subst e
    refine seq_go fun nx e => ?_
    walk_at "r"
    subst e
    walk_at "r"
    exact q
local macro_rules | `(tactic| walk_at "rkitB_nLc_lSeq_gItems") => `(tactic| simp (decide := true) only [bodyI, start0, sSeq, sNext, sNever, sCont, sBreak, sDrop, sRet, sRetN, sRet0, sRetO, sIf, sSet, sSetN, sSetP, sPar, sParEN, sParNE, sPar3, sAsg, gNm, gsNil, gsCons, gTp, sAugI, sIxO, sIxS, sAugS, stoL, setW, iVar, iC, iNil, iCons, iTup, iLst, nLst, iFz, iB, gAdd, gI, gIC, gSub, gMul, gDiv, gMod, gPow, gLt, gLe, gGt, gGe, gEq, gNe, gIn, gIsN, isN, iNeg, tTru', gTru, tBl, iChain, tAnd', tOr', tNot', tYes', iIf, iAnd, iOr, iNot, iIx, gIx, atW, iIxO, ownL, oNone, oSome, iSl, gSl, iRevL, iCall, nCall, iFn, Stt.put, Stt.puts, iMtO, gAppend, gInsert, gExtend, gLen, iLenO, gAbs, gInt, gMinMax, gList, gTuple, iListRg, gIsi, tyN, gRepr, cut_13, cut_1_2, cut_1_3, cut_m2, cut_m3, cut_m4, atI_m2, atI_m3, atI_m4, iOfT, tKdIn, iKdIx, atI_0, atI_1, atI_2, atI_3, ixN_4_0, ixN_4_1, ixN_4_2, ixN_4_3, Sto.put_same, Sto.put_put, toNat_2, List.map, List.replicate, List.length_cons, List.length_nil, List.getElem?_cons_zero, List.getElem?_cons_succ, List.getElem?_nil, List.set_cons_zero, List.set_cons_succ, List.set_nil, List.cons_append, List.nil_append, List.append_nil, if_true, if_false, fz_val, fz_new, so_lst, so_dct, so_ins, eqW_ii, eqW_ss, eqW_tt, eqW_ll, eqW_nn, eqW_bb, eqW_ni, eqW_in, eqW_nt, eqW_tn, eqW_nl, eqW_ln, eqW_is, eqW_si, eqWs_nil, eqWs_cons, eqWs_nc, eqWs_cn, okD_int, okD_str, okD_bl, okD_non, okD_tup, okD_lst, eqOk_ii, eqOk_ss, eqOk_nn, eqOk_bb, eqOk_in, eqOk_ni, eqOk_tt, eqOk_ll, flatW_int, flatW_str, flatW_bl, flatW_non, inW, List.any_cons, List.any_nil, List.all_cons, List.all_nil, Bool.or_false, Bool.or_true, Bool.true_or, Bool.false_or, Bool.and_true, Bool.true_and, Bool.and_false, Bool.false_and, Bool.not_true, Bool.not_false, Bool.false_eq_true, true_and, and_true, beq_self_eq_true, List.isEmpty_cons, List.isEmpty_nil, Int.reduceNeg, eq_self, forall_const, iFld, objOf, iProp, iMeth, nMake, iInv, iMulM, iLenM, iIsi, sAtt, iRevT, lIter, nRep, lEnum, lZip, iEqM, gOwn, iDGet2, iAddO, nDisp, nDNew, iPairs, keysW, keyW, nFn, gListN, nListRg, iTupRg, nIf, sParM, iItems, putsR, Sh.R.slot, gIsB, isB, iPeek, tPeek, iPeekS, Stt.ps, noOwn, gInD, nPeek, Stt.pk, frzS, plainW, plainWs, tyS, tyIn, cOk, isAny, isOne, Option.map_some, lk_ne, List.lookup_nil, putW, lk_self, iXf, iIsE, Hnd.w, sRaise1, sRaise0, sTryE, gMax3, gEqN, gReprN, iIdxT, iIdxL, iInRg, nListM, iBR, iFnR, iPub, iMtR, drW, drWs, nOwn, nMeth, nSl, nAdd, nAddO, iMtN, sAugL, gSortedG, tTruO, refW_tup, refW_lst, refW_dct, refW_int, refW_str, refW_bl, refW_non, kitB, nLc, lSeq, gItems])
local macro_rules | `(tactic| walk_at "rnLc_lSeq_gItems") => `(tactic| simp (decide := true) only [bodyI, start0, sSeq, sNext, sNever, sCont, sBreak, sDrop, sRet, sRetN, sRet0, sRetO, sIf, sSet, sSetN, sSetP, sPar, sParEN, sParNE, sPar3, sAsg, gNm, gsNil, gsCons, gTp, sAugI, sIxO, sIxS, sAugS, stoL, setW, iVar, iC, iNil, iCons, iTup, iLst, nLst, iFz, iB, gAdd, gI, gIC, gSub, gMul, gDiv, gMod, gPow, gLt, gLe, gGt, gGe, gEq, gNe, gIn, gIsN, isN, iNeg, tTru', gTru, tBl, iChain, tAnd', tOr', tNot', tYes', iIf, iAnd, iOr, iNot, iIx, gIx, atW, iIxO, ownL, oNone, oSome, iSl, gSl, iRevL, iCall, nCall, iFn, Stt.put, Stt.puts, iMtO, gAppend, gInsert, gExtend, gLen, iLenO, gAbs, gInt, gMinMax, gList, gTuple, iListRg, gIsi, tyN, gRepr, cut_13, cut_1_2, cut_1_3, cut_m2, cut_m3, cut_m4, atI_m2, atI_m3, atI_m4, iOfT, tKdIn, iKdIx, atI_0, atI_1, atI_2, atI_3, ixN_4_0, ixN_4_1, ixN_4_2, ixN_4_3, Sto.put_same, Sto.put_put, toNat_2, List.map, List.replicate, List.length_cons, List.length_nil, List.getElem?_cons_zero, List.getElem?_cons_succ, List.getElem?_nil, List.set_cons_zero, List.set_cons_succ, List.set_nil, List.cons_append, List.nil_append, List.append_nil, if_true, if_false, fz_val, fz_new, so_lst, so_dct, so_ins, eqW_ii, eqW_ss, eqW_tt, eqW_ll, eqW_nn, eqW_bb, eqW_ni, eqW_in, eqW_nt, eqW_tn, eqW_nl, eqW_ln, eqW_is, eqW_si, eqWs_nil, eqWs_cons, eqWs_nc, eqWs_cn, okD_int, okD_str, okD_bl, okD_non, okD_tup, okD_lst, eqOk_ii, eqOk_ss, eqOk_nn, eqOk_bb, eqOk_in, eqOk_ni, eqOk_tt, eqOk_ll, flatW_int, flatW_str, flatW_bl, flatW_non, inW, List.any_cons, List.any_nil, List.all_cons, List.all_nil, Bool.or_false, Bool.or_true, Bool.true_or, Bool.false_or, Bool.and_true, Bool.true_and, Bool.and_false, Bool.false_and, Bool.not_true, Bool.not_false, Bool.false_eq_true, true_and, and_true, beq_self_eq_true, List.isEmpty_cons, List.isEmpty_nil, Int.reduceNeg, eq_self, forall_const, iFld, objOf, iProp, iMeth, nMake, iInv, iMulM, iLenM, iIsi, sAtt, iRevT, lIter, nRep, lEnum, lZip, iEqM, gOwn, iDGet2, iAddO, nDisp, nDNew, iPairs, keysW, keyW, nFn, gListN, nListRg, iTupRg, nIf, sParM, iItems, putsR, Sh.R.slot, gIsB, isB, iPeek, tPeek, iPeekS, Stt.ps, noOwn, gInD, nPeek, Stt.pk, frzS, plainW, plainWs, tyS, tyIn, cOk, isAny, isOne, Option.map_some, lk_ne, List.lookup_nil, putW, lk_self, iXf, iIsE, Hnd.w, sRaise1, sRaise0, sTryE, gMax3, gEqN, gReprN, iIdxT, iIdxL, iInRg, nListM, iBR, iFnR, iPub, iMtR, drW, drWs, nOwn, nMeth, nSl, nAdd, nAddO, iMtN, sAugL, gSortedG, tTruO, refW_tup, refW_lst, refW_dct, refW_int, refW_str, refW_bl, refW_non, nLc, lSeq, gItems])
abbrev scrF (F : Int) (cs : List Call) : List (Str × W) := [("width", .int F), ("steps", .tup (cs.map Call.w))]
abbrev scrW (F : Int) (cs : List Call) : W := .obj "Script" (scrF F cs)
def Fil (F : Int) : Prop := F = 2 ∨ F = 3
structure Gd (F : Int) (cs : List Call) : Prop where
  fil : Fil F
  gd : ∀ c ∈ cs, c.gd F
  len : cs.length ≤ 100000
def ib_k_Script : IS := (sSeq (sIf (tNot' (tTru' (iCall sp_p_is_files (iCons (iVar 1) iNil)))) sNever sNext)
  (sSeq (sIf (tOr' (tNot' (tTru' (iIsi [] (iCons (iVar 2) (iCons (iTup (iCons (iC (.ty "tuple")) (iCons (iC (.ty "list")) iNil))) iNil))))) (tNot' (tTru' (iFn (gAll fun bs => bs.all id) (iCons (iFz (nLc (lSeq (iVar 2)) (gNm 3) tYes' (iCall sp_p_is_call (iCons (iVar 1) (iCons (iVar 3) iNil))) [3])) iNil))))) sNever sNext)
  (sSeq (sAtt ["Script"] "width" (iVar 0) (iVar 1))
  (sAtt ["Script"] "steps" (iVar 0) (iFn gTuple (iCons (iVar 2) iNil))))))
def ib_m_Script_files : IS := (sRet (iFld ["Script"] "width" (iVar 0)))
def sp_k_Script : ISp := fun ws S Q E => ∃ (a : Addr) (F : Int) (cs : List Call) (x : W), ws = [.ref a, .int F, x] ∧ (x = .lst (cs.map Call.w) ∨ x = .tup (cs.map Call.w)) ∧ S a = some (.ins "Script" []) ∧ Gd F cs ∧ Q (.val .non) (S.put a (.ins "Script" (scrF F cs)))
theorem blsOf_true {α : Type} (as : List α) : blsOf (as.map fun _ => W.bl true) = some (as.map fun _ => true) := by
  induction as with
  | nil => rfl
  | cons a as ih => simp only [List.map_cons, blsOf, ih, Option.map]
theorem ok_k_Script (ws : List W) (S : Sto) (Q : R → Sto → Prop) (E : Exn → Sto → Prop) (h : sp_k_Script ws S Q E) : bodyI 4 ib_k_Script ws S Q E := by
  obtain ⟨a, F, cs, x, rfl, hx, ha, ⟨hF, hg, hl⟩, q⟩ := h
  unfold ib_k_Script
  refine seq_go fun nx e => ?_
  walk_at "r"
  refine ⟨F, rfl, ?_⟩
  simp! only [decide_eq_true (show F = 2 ∨ F = 3 from hF)]
  subst e
  rcases hx with rfl | rfl
  all_goals
    refine seq_go fun nx e => ?_
    walk_at "rkitB_nLc_lSeq_gItems"
    refine lc_fn ⟨[.val (.ref a), .val (.int F), .val _, .none], S⟩ Call.w (fun _ => .bl true) cs _ (fun c hc Y hY => ?_) rfl (by rw [sizeLine_eq]; omega) fun st' es => ?_
    · walk_at "r"
      exact ⟨F, c, rfl, hg c hc, hY _ rfl⟩
    · rw [es]
      simp! only [gAll, blsOf_true]
      have : ((cs.map fun _ => true).all id) = true := List.all_eq_true.mpr fun b hb => by
        obtain ⟨_, _, rfl⟩ := List.mem_map.mp hb
        rfl
      refine ifF (by simp only [this]; rfl) ?_
      subst e
      refine seq_go fun nx e => ?_
      simp! only [ha]
      subst e
      walk_at "r"
      exact q
def sp_m_Script_files : ISp := fun ws S Q E => ∃ F cs, ws = [scrW F cs] ∧ Q (.val (.int F)) S
theorem ok_m_Script_files (ws : List W) (S : Sto) (Q : R → Sto → Prop) (E : Exn → Sto → Prop) (h : sp_m_Script_files ws S Q E) : bodyI 1 ib_m_Script_files ws S Q E := by
  obtain ⟨F, cs, rfl, q⟩ := h
  unfold ib_m_Script_files
  walk_at "r"
  exact q
/-- a Script is made -/
theorem mk_Script {F : Int} {cs : List Call} {x : W} {S : Sto} {Q : R → Sto → Prop} {E : Exn → Sto → Prop} {a : Addr} (ha : S a = none) (hx : x = .lst (cs.map Call.w) ∨ x = .tup (cs.map Call.w)) (g : Gd F cs) (q : Q (.val .non) (S.put a (.ins "Script" (scrF F cs)))) : sp_k_Script [.ref a, .int F, x] (S.put a (.ins "Script" [])) Q E :=
  ⟨a, F, cs, x, rfl, hx, Sto.put_same, g, by rw [Sto.put_put]; exact q⟩
theorem Call.tn_gd {F : Int} {c : Call} (h : c.gd F) : c.tn.gd F := ⟨Call.tn_ok h.ok, by
  have := h.nz
  cases c <;> first | exact this | (simp only [Call.nz, Call.tn] at *; omega)⟩
theorem Gd.inv {F : Int} {cs : List Call} (g : Gd F cs) : Gd F (cs.reverse.map Call.tn) := ⟨g.fil, fun c hc => by
  obtain ⟨d, hd, rfl⟩ := List.mem_map.mp hc
  exact Call.tn_gd (g.gd d (List.mem_reverse.mp hd)), by rw [List.length_map, List.length_reverse]; exact g.len⟩
theorem Gd.app {F : Int} {cs ds : List Call} (g : Gd F cs) (h : Gd F ds) (l : cs.length + ds.length ≤ 100000) : Gd F (cs ++ ds) := ⟨g.fil, fun c hc => (List.mem_append.mp hc).elim (g.gd c) (h.gd c), by rw [List.length_append]; exact l⟩
/-- a script so many times -/
def timesC (cs : List Call) (k : Int) : List Call := (List.replicate k.natAbs (if 0 ≤ k then cs else cs.reverse.map Call.tn)).flatten
theorem len_rep {α : Type} (l : List α) (n : Nat) : (List.replicate n l).flatten.length = l.length * n := by
  induction n with
  | zero => simp
  | succ n ih => rw [List.replicate_succ, List.flatten_cons, List.length_append, ih, Nat.mul_succ]; omega
theorem Gd.times {F : Int} {cs : List Call} {k : Int} (g : Gd F cs) (l : cs.length * k.natAbs ≤ 100000) : Gd F (timesC cs k) := ⟨g.fil, fun c hc => by
  unfold timesC at hc
  obtain ⟨x, hx, hc⟩ := List.mem_flatten.mp hc
  have := List.eq_of_mem_replicate hx
  subst this
  split at hc
  · exact g.gd c hc
  · exact g.inv.gd c hc, by
  unfold timesC
  rw [len_rep]
  split
  · exact l
  · rw [List.length_map, List.length_reverse]; exact l⟩
local macro_rules | `(tactic| walk_at "rsFor") => `(tactic| simp (decide := true) only [bodyI, start0, sSeq, sNext, sNever, sCont, sBreak, sDrop, sRet, sRetN, sRet0, sRetO, sIf, sSet, sSetN, sSetP, sPar, sParEN, sParNE, sPar3, sAsg, gNm, gsNil, gsCons, gTp, sAugI, sIxO, sIxS, sAugS, stoL, setW, iVar, iC, iNil, iCons, iTup, iLst, nLst, iFz, iB, gAdd, gI, gIC, gSub, gMul, gDiv, gMod, gPow, gLt, gLe, gGt, gGe, gEq, gNe, gIn, gIsN, isN, iNeg, tTru', gTru, tBl, iChain, tAnd', tOr', tNot', tYes', iIf, iAnd, iOr, iNot, iIx, gIx, atW, iIxO, ownL, oNone, oSome, iSl, gSl, iRevL, iCall, nCall, iFn, Stt.put, Stt.puts, iMtO, gAppend, gInsert, gExtend, gLen, iLenO, gAbs, gInt, gMinMax, gList, gTuple, iListRg, gIsi, tyN, gRepr, cut_13, cut_1_2, cut_1_3, cut_m2, cut_m3, cut_m4, atI_m2, atI_m3, atI_m4, iOfT, tKdIn, iKdIx, atI_0, atI_1, atI_2, atI_3, ixN_4_0, ixN_4_1, ixN_4_2, ixN_4_3, Sto.put_same, Sto.put_put, toNat_2, List.map, List.replicate, List.length_cons, List.length_nil, List.getElem?_cons_zero, List.getElem?_cons_succ, List.getElem?_nil, List.set_cons_zero, List.set_cons_succ, List.set_nil, List.cons_append, List.nil_append, List.append_nil, if_true, if_false, fz_val, fz_new, so_lst, so_dct, so_ins, eqW_ii, eqW_ss, eqW_tt, eqW_ll, eqW_nn, eqW_bb, eqW_ni, eqW_in, eqW_nt, eqW_tn, eqW_nl, eqW_ln, eqW_is, eqW_si, eqWs_nil, eqWs_cons, eqWs_nc, eqWs_cn, okD_int, okD_str, okD_bl, okD_non, okD_tup, okD_lst, eqOk_ii, eqOk_ss, eqOk_nn, eqOk_bb, eqOk_in, eqOk_ni, eqOk_tt, eqOk_ll, flatW_int, flatW_str, flatW_bl, flatW_non, inW, List.any_cons, List.any_nil, List.all_cons, List.all_nil, Bool.or_false, Bool.or_true, Bool.true_or, Bool.false_or, Bool.and_true, Bool.true_and, Bool.and_false, Bool.false_and, Bool.not_true, Bool.not_false, Bool.false_eq_true, true_and, and_true, beq_self_eq_true, List.isEmpty_cons, List.isEmpty_nil, Int.reduceNeg, eq_self, forall_const, iFld, objOf, iProp, iMeth, nMake, iInv, iMulM, iLenM, iIsi, sAtt, iRevT, lIter, nRep, lEnum, lZip, iEqM, gOwn, iDGet2, iAddO, nDisp, nDNew, iPairs, keysW, keyW, nFn, gListN, nListRg, iTupRg, nIf, sParM, iItems, putsR, Sh.R.slot, gIsB, isB, iPeek, tPeek, iPeekS, Stt.ps, noOwn, gInD, nPeek, Stt.pk, frzS, plainW, plainWs, tyS, tyIn, cOk, isAny, isOne, Option.map_some, lk_ne, List.lookup_nil, putW, lk_self, iXf, iIsE, Hnd.w, sRaise1, sRaise0, sTryE, gMax3, gEqN, gReprN, iIdxT, iIdxL, iInRg, nListM, iBR, iFnR, iPub, iMtR, drW, drWs, nOwn, nMeth, nSl, nAdd, nAddO, iMtN, sAugL, gSortedG, tTruO, refW_tup, refW_lst, refW_dct, refW_int, refW_str, refW_bl, refW_non, sFor])
def run (F R : Int) (cs : List Call) (p : Int × Int) : Int × Int := cs.foldl (fun p c => mv F R c p) p
theorem run_in {F R : Int} {cs : List Call} {p : Int × Int} (hF : 0 < F) (hR : 0 < R) (hc : ∀ c ∈ cs, c.ok F) (h : At F R p) : At F R (run F R cs p) := by
  induction cs generalizing p with
  | nil => exact h
  | cons c cs ih => exact ih (fun d hd => hc d (List.mem_cons_of_mem _ hd)) (mv_in hF hR (hc c (List.mem_cons_self ..)) h)
theorem run_app {F R : Int} {cs ds : List Call} {p : Int × Int} : run F R (cs ++ ds) p = run F R ds (run F R cs p) := List.foldl_append
theorem Gd.ok {F : Int} {cs : List Call} (g : Gd F cs) : ∀ c ∈ cs, c.ok F := fun c hc => (g.gd c hc).ok
theorem Gd.pos {F : Int} {cs : List Call} (g : Gd F cs) : 0 < F := by have := g.fil; unfold Fil at this; omega
theorem run_inv {F R : Int} {cs : List Call} {p : Int × Int} (hF : 0 < F) (hR : 0 < R) (hc : ∀ c ∈ cs, c.ok F) (h : At F R p) : run F R (cs.reverse.map Call.tn) (run F R cs p) = p := by
  induction cs generalizing p with
  | nil => rfl
  | cons c cs ih =>
    rw [List.reverse_cons, List.map_append, run_app]
    show run F R [c.tn] (run F R (cs.reverse.map Call.tn) (run F R cs (mv F R c p))) = p
    rw [ih (fun d hd => hc d (List.mem_cons_of_mem _ hd)) (mv_in hF hR (hc c (List.mem_cons_self ..)) h)]
    exact mv_tn hF hR (hc c (List.mem_cons_self ..)) h
theorem atI_last {α : Type} {xs : List α} {x : α} : atI (xs ++ [x]) (-1) = some x := by
  unfold atI ixN
  rw [if_neg (by decide), if_pos (by rw [List.length_append, List.length_singleton]; omega)]
  have e : ((-1 : Int) + ((xs ++ [x]).length : Int)).toNat = xs.length := by rw [List.length_append, List.length_singleton]; omega
  simp only [e]
  simp
local macro_rules | `(tactic| walk_at "ratI_last") => `(tactic| simp (decide := true) only [bodyI, start0, sSeq, sNext, sNever, sCont, sBreak, sDrop, sRet, sRetN, sRet0, sRetO, sIf, sSet, sSetN, sSetP, sPar, sParEN, sParNE, sPar3, sAsg, gNm, gsNil, gsCons, gTp, sAugI, sIxO, sIxS, sAugS, stoL, setW, iVar, iC, iNil, iCons, iTup, iLst, nLst, iFz, iB, gAdd, gI, gIC, gSub, gMul, gDiv, gMod, gPow, gLt, gLe, gGt, gGe, gEq, gNe, gIn, gIsN, isN, iNeg, tTru', gTru, tBl, iChain, tAnd', tOr', tNot', tYes', iIf, iAnd, iOr, iNot, iIx, gIx, atW, iIxO, ownL, oNone, oSome, iSl, gSl, iRevL, iCall, nCall, iFn, Stt.put, Stt.puts, iMtO, gAppend, gInsert, gExtend, gLen, iLenO, gAbs, gInt, gMinMax, gList, gTuple, iListRg, gIsi, tyN, gRepr, cut_13, cut_1_2, cut_1_3, cut_m2, cut_m3, cut_m4, atI_m2, atI_m3, atI_m4, iOfT, tKdIn, iKdIx, atI_0, atI_1, atI_2, atI_3, ixN_4_0, ixN_4_1, ixN_4_2, ixN_4_3, Sto.put_same, Sto.put_put, toNat_2, List.map, List.replicate, List.length_cons, List.length_nil, List.getElem?_cons_zero, List.getElem?_cons_succ, List.getElem?_nil, List.set_cons_zero, List.set_cons_succ, List.set_nil, List.cons_append, List.nil_append, List.append_nil, if_true, if_false, fz_val, fz_new, so_lst, so_dct, so_ins, eqW_ii, eqW_ss, eqW_tt, eqW_ll, eqW_nn, eqW_bb, eqW_ni, eqW_in, eqW_nt, eqW_tn, eqW_nl, eqW_ln, eqW_is, eqW_si, eqWs_nil, eqWs_cons, eqWs_nc, eqWs_cn, okD_int, okD_str, okD_bl, okD_non, okD_tup, okD_lst, eqOk_ii, eqOk_ss, eqOk_nn, eqOk_bb, eqOk_in, eqOk_ni, eqOk_tt, eqOk_ll, flatW_int, flatW_str, flatW_bl, flatW_non, inW, List.any_cons, List.any_nil, List.all_cons, List.all_nil, Bool.or_false, Bool.or_true, Bool.true_or, Bool.false_or, Bool.and_true, Bool.true_and, Bool.and_false, Bool.false_and, Bool.not_true, Bool.not_false, Bool.false_eq_true, true_and, and_true, beq_self_eq_true, List.isEmpty_cons, List.isEmpty_nil, Int.reduceNeg, eq_self, forall_const, iFld, objOf, iProp, iMeth, nMake, iInv, iMulM, iLenM, iIsi, sAtt, iRevT, lIter, nRep, lEnum, lZip, iEqM, gOwn, iDGet2, iAddO, nDisp, nDNew, iPairs, keysW, keyW, nFn, gListN, nListRg, iTupRg, nIf, sParM, iItems, putsR, Sh.R.slot, gIsB, isB, iPeek, tPeek, iPeekS, Stt.ps, noOwn, gInD, nPeek, Stt.pk, frzS, plainW, plainWs, tyS, tyIn, cOk, isAny, isOne, Option.map_some, lk_ne, List.lookup_nil, putW, lk_self, iXf, iIsE, Hnd.w, sRaise1, sRaise0, sTryE, gMax3, gEqN, gReprN, iIdxT, iIdxL, iInRg, nListM, iBR, iFnR, iPub, iMtR, drW, drWs, nOwn, nMeth, nSl, nAdd, nAddO, iMtN, sAugL, gSortedG, tTruO, refW_tup, refW_lst, refW_dct, refW_int, refW_str, refW_bl, refW_non, atI_last])
local macro_rules | `(tactic| walk_at "rCall_w") => `(tactic| simp (decide := true) only [bodyI, start0, sSeq, sNext, sNever, sCont, sBreak, sDrop, sRet, sRetN, sRet0, sRetO, sIf, sSet, sSetN, sSetP, sPar, sParEN, sParNE, sPar3, sAsg, gNm, gsNil, gsCons, gTp, sAugI, sIxO, sIxS, sAugS, stoL, setW, iVar, iC, iNil, iCons, iTup, iLst, nLst, iFz, iB, gAdd, gI, gIC, gSub, gMul, gDiv, gMod, gPow, gLt, gLe, gGt, gGe, gEq, gNe, gIn, gIsN, isN, iNeg, tTru', gTru, tBl, iChain, tAnd', tOr', tNot', tYes', iIf, iAnd, iOr, iNot, iIx, gIx, atW, iIxO, ownL, oNone, oSome, iSl, gSl, iRevL, iCall, nCall, iFn, Stt.put, Stt.puts, iMtO, gAppend, gInsert, gExtend, gLen, iLenO, gAbs, gInt, gMinMax, gList, gTuple, iListRg, gIsi, tyN, gRepr, cut_13, cut_1_2, cut_1_3, cut_m2, cut_m3, cut_m4, atI_m2, atI_m3, atI_m4, iOfT, tKdIn, iKdIx, atI_0, atI_1, atI_2, atI_3, ixN_4_0, ixN_4_1, ixN_4_2, ixN_4_3, Sto.put_same, Sto.put_put, toNat_2, List.map, List.replicate, List.length_cons, List.length_nil, List.getElem?_cons_zero, List.getElem?_cons_succ, List.getElem?_nil, List.set_cons_zero, List.set_cons_succ, List.set_nil, List.cons_append, List.nil_append, List.append_nil, if_true, if_false, fz_val, fz_new, so_lst, so_dct, so_ins, eqW_ii, eqW_ss, eqW_tt, eqW_ll, eqW_nn, eqW_bb, eqW_ni, eqW_in, eqW_nt, eqW_tn, eqW_nl, eqW_ln, eqW_is, eqW_si, eqWs_nil, eqWs_cons, eqWs_nc, eqWs_cn, okD_int, okD_str, okD_bl, okD_non, okD_tup, okD_lst, eqOk_ii, eqOk_ss, eqOk_nn, eqOk_bb, eqOk_in, eqOk_ni, eqOk_tt, eqOk_ll, flatW_int, flatW_str, flatW_bl, flatW_non, inW, List.any_cons, List.any_nil, List.all_cons, List.all_nil, Bool.or_false, Bool.or_true, Bool.true_or, Bool.false_or, Bool.and_true, Bool.true_and, Bool.and_false, Bool.false_and, Bool.not_true, Bool.not_false, Bool.false_eq_true, true_and, and_true, beq_self_eq_true, List.isEmpty_cons, List.isEmpty_nil, Int.reduceNeg, eq_self, forall_const, iFld, objOf, iProp, iMeth, nMake, iInv, iMulM, iLenM, iIsi, sAtt, iRevT, lIter, nRep, lEnum, lZip, iEqM, gOwn, iDGet2, iAddO, nDisp, nDNew, iPairs, keysW, keyW, nFn, gListN, nListRg, iTupRg, nIf, sParM, iItems, putsR, Sh.R.slot, gIsB, isB, iPeek, tPeek, iPeekS, Stt.ps, noOwn, gInD, nPeek, Stt.pk, frzS, plainW, plainWs, tyS, tyIn, cOk, isAny, isOne, Option.map_some, lk_ne, List.lookup_nil, putW, lk_self, iXf, iIsE, Hnd.w, sRaise1, sRaise0, sTryE, gMax3, gEqN, gReprN, iIdxT, iIdxL, iInRg, nListM, iBR, iFnR, iPub, iMtR, drW, drWs, nOwn, nMeth, nSl, nAdd, nAddO, iMtN, sAugL, gSortedG, tTruO, refW_tup, refW_lst, refW_dct, refW_int, refW_str, refW_bl, refW_non, Call.w])
def plP (F x : Int) : Int × Int := (x / F, x % F)
def numP (F : Int) (p : Int × Int) : Int := p.1 * F + p.2
def ib_l_calls_1 : IS := (sSeq (sSet 7 (iCall sp_l_call (iCons (iVar 0) (iCons (iVar 1) (iCons (iVar 2) (iCons (iC (.int 4)) iNil))))))
    (sSeq (sSet 8 (iIf (tBl (iB (gIn false) (iIx (iVar 7) (iC (.int 0))) (iTup (iCons (iC (.str "all")) (iCons (iC (.str "up")) (iCons (iC (.str "wheel")) iNil)))))) (iFn gAbs (iCons (iIx (iVar 7) (iNeg (iC (.int 1)))) iNil)) (iC (.int 1))))
    (sIf (tBl (iB gLe (iVar 8) (iVar 5))) (sSeq (sDrop (iMtO 4 gAppend (iCons (iVar 7) iNil)))
      (sAugI 5 (· - ·) (iVar 8))) sNext)))
def ib_l_calls : IS := (sSeq (sParNE 4 5 (nLst iNil) (iC (.int 15)))
  (sSeq (sFor (lRange1 (iVar 3)) (gNm 6) ib_l_calls_1)
  (sRetO 4)))
/-- a call's size -/
def Call.sz : Call → Int
  | .all k => if k < 0 then -k else k
  | .up _ k => if k < 0 then -k else k
  | .wheel _ _ k => if k < 0 then -k else k
  | _ => 1
def szs (cs : List Call) : Int := (cs.map Call.sz).sum
theorem szs_app {cs : List Call} {c : Call} : szs (cs ++ [c]) = szs cs + c.sz := by
  unfold szs
  simp
def sp_l_calls : ISp := fun ws S Q E => ∃ (a : Addr) (F n : Int) (ks : List Str), ws = [.ref a, .int F, .lst (ks.map .str), .int n] ∧ 2 ≤ F ∧ F ≤ 3 ∧ 0 ≤ n ∧ n ≤ 1000 ∧ ks ≠ [] ∧ ks.length < 100 ∧ (∀ k ∈ ks, k ∈ tenW) ∧ Bg S a ∧
  ∀ (cs : List Call) S', Gd F cs → (cs.length : Int) ≤ n → szs cs ≤ 15 → (∀ c ∈ cs, c.word ∈ ks) → Bx a S S' → Q (.new (.lst (cs.map Call.w))) S'
theorem Call.lt_nz {m : Int} {c : Call} (h : c.lt m) : c.nz := by cases c <;> first | exact h.1 | trivial
theorem ok_l_calls (ws : List W) (S : Sto) (Q : R → Sto → Prop) (E : Exn → Sto → Prop) (h : sp_l_calls ws S Q E) : bodyI 9 ib_l_calls ws S Q E := by
  obtain ⟨a, F, n, ks, rfl, h2, h3, n0, n1, hk, hkl, hks, hb, q⟩ := h
  unfold ib_l_calls
  refine seq_go fun nx e => ?_
  walk_at "r"
  subst e
  refine seq_cut (fun st => ∃ (x5 x6 x7 x8 : Slot) (cs : List Call) (S' : Sto), Gd F cs ∧ (cs.length : Int) ≤ n ∧ szs cs ≤ 15 ∧ (∀ c ∈ cs, c.word ∈ ks) ∧ Bx a S S' ∧ st = ⟨[.val (.ref a), .val (.int F), .val (.lst (ks.map .str)), .val (.int n), .own (.lst (cs.map Call.w)), x5, x6, x7, x8], S'⟩) (fun nx h => ?_) (fun st ⟨x5, x6, x7, x8, cs, S', g1, g2, g3, g4, g5, es⟩ => by subst es; exact q cs S' g1 g2 g3 g4 g5)
  walk_at "rsFor_lRange1"
  refine ⟨by unfold i62; omega, for_rng (fun i st => ∃ (x6 x7 x8 : Slot) (cs : List Call) (S' : Sto), Gd F cs ∧ cs.length ≤ i ∧ szs cs ≤ 15 ∧ (∀ c ∈ cs, c.word ∈ ks) ∧ Bx a S S' ∧ st = ⟨[.val (.ref a), .val (.int F), .val (.lst (ks.map .str)), .val (.int n), .own (.lst (cs.map Call.w)), .val (.int (15 - szs cs)), x6, x7, x8], S'⟩) _ _ ⟨.none, .none, .none, [], S, ⟨by unfold Fil; omega, fun _ z => (nomatch z), by simp⟩, by simp, by decide, fun _ z => (nomatch z), .refl hb, rfl⟩ (fun st ⟨x6, x7, x8, cs, S', g1, g2, g3, g4, g5, es⟩ => h _ ⟨_, x6, x7, x8, cs, S', g1, by omega, g3, g4, g5, es⟩) fun i hi st nx ⟨x6, x7, x8, cs, S', g1, g2, g3, g4, g5, es⟩ hn => ?_⟩
  subst es
  unfold ib_l_calls_1
  refine seq_go fun ny e => ?_
  walk_at "r"
  refine ⟨a, F, 4, ks, rfl, h2, h3, by omega, bd_of (by omega) (by omega), hk, hkl, hks, g5.bg, fun c S2 c1 c2 c3 b2 => ?_⟩
  subst e
  refine seq_step ⟨[.val (.ref a), .val (.int F), .val (.lst (ks.map .str)), .val (.int n), .own (.lst (cs.map Call.w)), .val (.int (15 - szs cs)), .val (.int (0 + i)), .val c.w, .val (.int c.sz)], S2⟩ (fun ny h => ?_) ?_
  · cases c <;> walk_at "rCall_w" <;> exact h
  walk_at "r"
  refine ifb (fun z => ?_) (fun z => ?_)
  · have z := of_decide_eq_true z
    refine ⟨by rw [sizeLine_eq, List.length_map]; omega, hn _ ⟨.val (.int (0 + i)), .val c.w, .val (.int c.sz), cs ++ [c], S2, ⟨g1.fil, fun d hd => ?_, by rw [List.length_append, List.length_singleton]; omega⟩, by rw [List.length_append, List.length_singleton]; omega, by rw [szs_app]; omega, fun d hd => ?_, g5.trans b2, ?_⟩⟩
    · rcases List.mem_append.mp hd with hd | hd
      · exact g1.gd d hd
      · rw [List.mem_singleton.mp hd]; exact ⟨c1, Call.lt_nz (m := 4 + 4) c2⟩
    · rcases List.mem_append.mp hd with hd | hd
      · exact g4 d hd
      · rw [List.mem_singleton.mp hd]; exact c3
    · rw [szs_app, List.map_append, show 15 - (szs cs + c.sz) = 15 - szs cs - c.sz by omega]
      rfl
  · exact hn _ ⟨_, _, _, cs, S2, g1, by omega, g3, g4, g5.trans b2, rfl⟩
abbrev invC (cs : List Call) : List Call := cs.reverse.map Call.tn
/-- who stands at a number behind calls -/
def bk (F R : Int) (cs : List Call) (j : Int) : Int := numP F (run F R (invC cs) (plP F j))
section
variable {F R : Int} {cs ds es : List Call} {p : Int × Int} {j : Int}
def Oks (F : Int) (cs : List Call) : Prop := ∀ c ∈ cs, c.ok F
theorem Oks.app (h : Oks F cs) (k : Oks F ds) : Oks F (cs ++ ds) := fun c hc => (List.mem_append.mp hc).elim (h c) (k c)
theorem Oks.inv (h : Oks F cs) : Oks F (invC cs) := fun c hc => by
  obtain ⟨d, hd, rfl⟩ := List.mem_map.mp hc
  exact Call.tn_ok (h d (List.mem_reverse.mp hd))
theorem run_inv' (hF : 0 < F) (hR : 0 < R) (hc : Oks F cs) (h : At F R p) : run F R cs (run F R (invC cs) p) = p := by
  have e : invC (invC cs) = cs := by
    unfold invC
    rw [← List.map_reverse, List.reverse_reverse, List.map_map]
    conv => rhs; rw [← List.map_id cs]
    exact List.map_congr_left fun c _ => by cases c <;> simp [Call.tn]
  have := run_inv (cs := invC cs) hF hR hc.inv h
  rw [show (invC cs).reverse.map Call.tn = cs from e] at this
  exact this
/-- two lists of calls that do the same -/
def Same (F R : Int) (cs ds : List Call) : Prop := ∀ p, At F R p → run F R cs p = run F R ds p
theorem Same.refl : Same F R cs cs := fun _ _ => rfl
theorem Same.symm (h : Same F R cs ds) : Same F R ds cs := fun p hp => (h p hp).symm
theorem Same.trans (h : Same F R cs ds) (k : Same F R ds es) : Same F R cs es := fun p hp => (h p hp).trans (k p hp)
theorem Same.inv (hF : 0 < F) (hR : 0 < R) (hc : Oks F cs) (hd : Oks F ds) (h : Same F R cs ds) : Same F R (invC cs) (invC ds) := fun p hp => by
  have hq := run_in hF hR hd.inv hp
  have e := h _ hq
  rw [run_inv' hF hR hd hp] at e
  have := run_inv hF hR hc hq
  rw [e] at this
  exact this
theorem Same.app {cs' ds' : List Call} (hF : 0 < F) (hR : 0 < R) (hc : Oks F cs) (h : Same F R cs cs') (k : Same F R ds ds') : Same F R (cs ++ ds) (cs' ++ ds') := fun p hp => by
  rw [run_app, run_app, ← h p hp, k _ (run_in hF hR hc hp)]
theorem Oks.rep {n : Nat} (h : Oks F cs) : Oks F (List.replicate n cs).flatten := fun c hc => by
  obtain ⟨x, hx, hc⟩ := List.mem_flatten.mp hc
  rw [List.eq_of_mem_replicate hx] at hc
  exact h c hc
theorem Oks.times {k : Int} (h : Oks F cs) : Oks F (timesC cs k) := by
  unfold timesC
  split
  · exact h.rep
  · exact h.inv.rep
end
structure Lin (F R : Int) : Prop where
  fil : Fil F
  r1 : 1 ≤ R
  r2 : R ≤ 400
theorem Lin.sz {F R : Int} (h : Lin F R) : 0 ≤ F * R ∧ F * R ≤ 1200 := by
  have a := h.fil; have b := h.r1; have c := h.r2
  unfold Fil at a
  rcases a with rfl | rfl <;> omega
theorem for_find {α β : Type} {g : IG} {body : IS} {EI : XI} {D : IEnds} (enc : α → W) (f : α → Option β) (I : Stt → Prop) (as : List α) (st : Stt) (h0 : I st)
    (hd : as.findSome? f = none → ∀ st, I st → D.nx st)
    (hs : ∀ a ∈ as, ∀ st (nx : Stt → Prop), I st → (f a = none → ∀ st', I st' → nx st') → (∀ b, f a = some b → as.findSome? f = some b) → g (enc a) st fun st1 => body EI { nx := nx, ct := nx, bk := D.nx, rt := D.rt } st1) : forGo g body EI D (as.map enc) st := by
  have key : ∀ (suf pre : List α) (st : Stt), pre ++ suf = as → pre.findSome? f = none → I st → forGo g body EI D (suf.map enc) st := by
    intro suf
    induction suf with
    | nil => intro pre st e hp hi; exact hd (by rw [← e, List.append_nil]; exact hp) st hi
    | cons a suf ih =>
      intro pre st e hp hi
      refine hs a (by rw [← e]; simp) st _ hi (fun hn st' hi' => ih (pre ++ [a]) st' (by rw [List.append_assoc]; exact e) (by rw [List.findSome?_append, hp]; simp [hn]) hi') fun b hb => by rw [← e, List.findSome?_append, hp]; simp [hb]
  exact key as [] st rfl rfl h0
/-- straight calls of a script -/
structure St5 (F : Int) (cs : List Call) : Prop where
  gd : Gd F cs
  st : ∀ c ∈ cs, c.opn = false
theorem St5.nil {F : Int} (h : Fil F) : St5 F [] := ⟨⟨h, fun _ z => (nomatch z), by simp⟩, fun _ z => nomatch z⟩
theorem St5.app {F : Int} {cs ds : List Call} (h : St5 F cs) (k : St5 F ds) (l : cs.length + ds.length ≤ 100000) : St5 F (cs ++ ds) := ⟨h.gd.app k.gd l, fun c hc => (List.mem_append.mp hc).elim (h.st c) (k.st c)⟩
theorem St5.one {F : Int} {c : Call} (h : Fil F) (g : c.gd F) (s : c.opn = false) : St5 F [c] := ⟨⟨h, fun d hd => by rw [List.mem_singleton.mp hd]; exact g, by simp⟩, fun d hd => by rw [List.mem_singleton.mp hd]; exact s⟩
theorem Call.tn_opn {c : Call} : c.tn.opn = c.opn := by cases c <;> rfl
theorem St5.inv {F : Int} {cs : List Call} (h : St5 F cs) : St5 F (invC cs) := ⟨h.gd.inv, fun c hc => by
  obtain ⟨d, hd, rfl⟩ := List.mem_map.mp hc
  rw [Call.tn_opn]
  exact h.st d (List.mem_reverse.mp hd)⟩
theorem St5.sub {F : Int} {cs ds : List Call} (h : St5 F cs) (m : ∀ c ∈ ds, c ∈ cs) (l : ds.length ≤ 100000) : St5 F ds := ⟨⟨h.gd.fil, fun c hc => h.gd.gd c (m c hc), l⟩, fun c hc => h.st c (m c hc)⟩
local macro_rules | `(tactic| walk_at "rCall_w_pairW") => `(tactic| simp (decide := true) only [bodyI, start0, sSeq, sNext, sNever, sCont, sBreak, sDrop, sRet, sRetN, sRet0, sRetO, sIf, sSet, sSetN, sSetP, sPar, sParEN, sParNE, sPar3, sAsg, gNm, gsNil, gsCons, gTp, sAugI, sIxO, sIxS, sAugS, stoL, setW, iVar, iC, iNil, iCons, iTup, iLst, nLst, iFz, iB, gAdd, gI, gIC, gSub, gMul, gDiv, gMod, gPow, gLt, gLe, gGt, gGe, gEq, gNe, gIn, gIsN, isN, iNeg, tTru', gTru, tBl, iChain, tAnd', tOr', tNot', tYes', iIf, iAnd, iOr, iNot, iIx, gIx, atW, iIxO, ownL, oNone, oSome, iSl, gSl, iRevL, iCall, nCall, iFn, Stt.put, Stt.puts, iMtO, gAppend, gInsert, gExtend, gLen, iLenO, gAbs, gInt, gMinMax, gList, gTuple, iListRg, gIsi, tyN, gRepr, cut_13, cut_1_2, cut_1_3, cut_m2, cut_m3, cut_m4, atI_m2, atI_m3, atI_m4, iOfT, tKdIn, iKdIx, atI_0, atI_1, atI_2, atI_3, ixN_4_0, ixN_4_1, ixN_4_2, ixN_4_3, Sto.put_same, Sto.put_put, toNat_2, List.map, List.replicate, List.length_cons, List.length_nil, List.getElem?_cons_zero, List.getElem?_cons_succ, List.getElem?_nil, List.set_cons_zero, List.set_cons_succ, List.set_nil, List.cons_append, List.nil_append, List.append_nil, if_true, if_false, fz_val, fz_new, so_lst, so_dct, so_ins, eqW_ii, eqW_ss, eqW_tt, eqW_ll, eqW_nn, eqW_bb, eqW_ni, eqW_in, eqW_nt, eqW_tn, eqW_nl, eqW_ln, eqW_is, eqW_si, eqWs_nil, eqWs_cons, eqWs_nc, eqWs_cn, okD_int, okD_str, okD_bl, okD_non, okD_tup, okD_lst, eqOk_ii, eqOk_ss, eqOk_nn, eqOk_bb, eqOk_in, eqOk_ni, eqOk_tt, eqOk_ll, flatW_int, flatW_str, flatW_bl, flatW_non, inW, List.any_cons, List.any_nil, List.all_cons, List.all_nil, Bool.or_false, Bool.or_true, Bool.true_or, Bool.false_or, Bool.and_true, Bool.true_and, Bool.and_false, Bool.false_and, Bool.not_true, Bool.not_false, Bool.false_eq_true, true_and, and_true, beq_self_eq_true, List.isEmpty_cons, List.isEmpty_nil, Int.reduceNeg, eq_self, forall_const, iFld, objOf, iProp, iMeth, nMake, iInv, iMulM, iLenM, iIsi, sAtt, iRevT, lIter, nRep, lEnum, lZip, iEqM, gOwn, iDGet2, iAddO, nDisp, nDNew, iPairs, keysW, keyW, nFn, gListN, nListRg, iTupRg, nIf, sParM, iItems, putsR, Sh.R.slot, gIsB, isB, iPeek, tPeek, iPeekS, Stt.ps, noOwn, gInD, nPeek, Stt.pk, frzS, plainW, plainWs, tyS, tyIn, cOk, isAny, isOne, Option.map_some, lk_ne, List.lookup_nil, putW, lk_self, iXf, iIsE, Hnd.w, sRaise1, sRaise0, sTryE, gMax3, gEqN, gReprN, iIdxT, iIdxL, iInRg, nListM, iBR, iFnR, iPub, iMtR, drW, drWs, nOwn, nMeth, nSl, nAdd, nAddO, iMtN, sAugL, gSortedG, tTruO, refW_tup, refW_lst, refW_dct, refW_int, refW_str, refW_bl, refW_non, Call.w, pairW])
local macro_rules | `(tactic| walk_at "rpairW") => `(tactic| simp (decide := true) only [bodyI, start0, sSeq, sNext, sNever, sCont, sBreak, sDrop, sRet, sRetN, sRet0, sRetO, sIf, sSet, sSetN, sSetP, sPar, sParEN, sParNE, sPar3, sAsg, gNm, gsNil, gsCons, gTp, sAugI, sIxO, sIxS, sAugS, stoL, setW, iVar, iC, iNil, iCons, iTup, iLst, nLst, iFz, iB, gAdd, gI, gIC, gSub, gMul, gDiv, gMod, gPow, gLt, gLe, gGt, gGe, gEq, gNe, gIn, gIsN, isN, iNeg, tTru', gTru, tBl, iChain, tAnd', tOr', tNot', tYes', iIf, iAnd, iOr, iNot, iIx, gIx, atW, iIxO, ownL, oNone, oSome, iSl, gSl, iRevL, iCall, nCall, iFn, Stt.put, Stt.puts, iMtO, gAppend, gInsert, gExtend, gLen, iLenO, gAbs, gInt, gMinMax, gList, gTuple, iListRg, gIsi, tyN, gRepr, cut_13, cut_1_2, cut_1_3, cut_m2, cut_m3, cut_m4, atI_m2, atI_m3, atI_m4, iOfT, tKdIn, iKdIx, atI_0, atI_1, atI_2, atI_3, ixN_4_0, ixN_4_1, ixN_4_2, ixN_4_3, Sto.put_same, Sto.put_put, toNat_2, List.map, List.replicate, List.length_cons, List.length_nil, List.getElem?_cons_zero, List.getElem?_cons_succ, List.getElem?_nil, List.set_cons_zero, List.set_cons_succ, List.set_nil, List.cons_append, List.nil_append, List.append_nil, if_true, if_false, fz_val, fz_new, so_lst, so_dct, so_ins, eqW_ii, eqW_ss, eqW_tt, eqW_ll, eqW_nn, eqW_bb, eqW_ni, eqW_in, eqW_nt, eqW_tn, eqW_nl, eqW_ln, eqW_is, eqW_si, eqWs_nil, eqWs_cons, eqWs_nc, eqWs_cn, okD_int, okD_str, okD_bl, okD_non, okD_tup, okD_lst, eqOk_ii, eqOk_ss, eqOk_nn, eqOk_bb, eqOk_in, eqOk_ni, eqOk_tt, eqOk_ll, flatW_int, flatW_str, flatW_bl, flatW_non, inW, List.any_cons, List.any_nil, List.all_cons, List.all_nil, Bool.or_false, Bool.or_true, Bool.true_or, Bool.false_or, Bool.and_true, Bool.true_and, Bool.and_false, Bool.false_and, Bool.not_true, Bool.not_false, Bool.false_eq_true, true_and, and_true, beq_self_eq_true, List.isEmpty_cons, List.isEmpty_nil, Int.reduceNeg, eq_self, forall_const, iFld, objOf, iProp, iMeth, nMake, iInv, iMulM, iLenM, iIsi, sAtt, iRevT, lIter, nRep, lEnum, lZip, iEqM, gOwn, iDGet2, iAddO, nDisp, nDNew, iPairs, keysW, keyW, nFn, gListN, nListRg, iTupRg, nIf, sParM, iItems, putsR, Sh.R.slot, gIsB, isB, iPeek, tPeek, iPeekS, Stt.ps, noOwn, gInD, nPeek, Stt.pk, frzS, plainW, plainWs, tyS, tyIn, cOk, isAny, isOne, Option.map_some, lk_ne, List.lookup_nil, putW, lk_self, iXf, iIsE, Hnd.w, sRaise1, sRaise0, sTryE, gMax3, gEqN, gReprN, iIdxT, iIdxL, iInRg, nListM, iBR, iFnR, iPub, iMtR, drW, drWs, nOwn, nMeth, nSl, nAdd, nAddO, iMtN, sAugL, gSortedG, tTruO, refW_tup, refW_lst, refW_dct, refW_int, refW_str, refW_bl, refW_non, pairW])
theorem for_fold {α β : Type} {g : IG} {body : IS} {EI : XI} {D : IEnds} (enc : α → W) (f : β → α → β) (I : β → Stt → Prop) : ∀ (as : List α) (b : β) (st : Stt), I b st → (∀ st, I (as.foldl f b) st → D.nx st) →
    (∀ a ∈ as, ∀ b st (nx : Stt → Prop), I b st → (∀ st', I (f b a) st' → nx st') → g (enc a) st fun st1 => body EI { nx := nx, ct := nx, bk := D.nx, rt := D.rt } st1) → forGo g body EI D (as.map enc) st
  | [], _, st, h, hd, _ => hd st h
  | a :: as, b, st, h, hd, hs => hs a (List.mem_cons_self ..) b st _ h fun st' h' => for_fold enc f I as (f b a) st' h' hd fun c hc => hs c (List.mem_cons_of_mem _ hc)
def ib_l_brought_open : IS := (sSeq (sAsg (iVar 3) (gTp 2 (gsCons (gNm 4) (gsCons (gNm 5) gsNil))))
  (sSeq (sIf (tBl (iB gEq (iIx (iVar 0) (iC (.int 0))) (iC (.str "halve")))) (sRet (iTup (iCons (iB gMod (iFn gInt (iCons (iB gAdd (iB gMul (iVar 4) (iVar 1)) (iVar 5)) iNil)) (iVar 2)) (iCons (iB gDiv (iFn gInt (iCons (iB gAdd (iB gMul (iVar 4) (iVar 1)) (iVar 5)) iNil)) (iVar 2)) iNil)))) sNext)
  (sSeq (sIf (tBl (iB gEq (iIx (iVar 0) (iC (.int 0))) (iC (.str "pair")))) (sRet (iTup (iCons (iB gDiv (iFn gInt (iCons (iB gAdd (iB gMul (iVar 5) (iVar 2)) (iVar 4)) iNil)) (iVar 1)) (iCons (iB gMod (iFn gInt (iCons (iB gAdd (iB gMul (iVar 5) (iVar 2)) (iVar 4)) iNil)) (iVar 1)) iNil)))) sNext)
  (sSeq (sSet 6 (iB gDiv (iFn gInt (iCons (iB gAdd (iVar 2) (iC (.int 1))) iNil)) (iC (.int 2))))
  (sSeq (sIf (tBl (iB gEq (iIx (iVar 0) (iC (.int 0))) (iC (.str "others")))) (sRet (iTup (iCons (iB gAdd (iB gDiv (iFn gInt (iCons (iVar 4) iNil)) (iC (.int 2))) (iB gMul (iVar 6) (iB gMod (iFn gInt (iCons (iVar 4) iNil)) (iC (.int 2))))) (iCons (iVar 5) iNil)))) sNext)
  (sSeq (sIf (tBl (iB gEq (iIx (iVar 0) (iC (.int 0))) (iC (.str "fill")))) (sRet (iTup (iCons (iIf (tBl (iB gLt (iVar 4) (iVar 6))) (iB gMul (iC (.int 2)) (iVar 4)) (iB gAdd (iB gMul (iC (.int 2)) (iB gSub (iVar 4) (iVar 6))) (iC (.int 1)))) (iCons (iVar 5) iNil)))) sNext)
  (sRet (iVar 3))))))))
def sp_l_brought_open : ISp := fun ws S Q E => ∃ (c : Call) (F R : Int) (p : Int × Int), ws = [c.w, .int F, .int R, pairW p] ∧ (c.opn = true ∨ mv F R c p = p ∧ (c.word = "up" ∨ c.word = "swap" ∨ c.word = "wheel" ∨ c.word = "front")) ∧ Ln F R ∧ At F R p ∧ Q (.val (pairW (mv F R c p))) S
theorem ok_l_brought_open (ws : List W) (S : Sto) (Q : R → Sto → Prop) (E : Exn → Sto → Prop) (h : sp_l_brought_open ws S Q E) : bodyI 7 ib_l_brought_open ws S Q E := by
  obtain ⟨c, F, R, ⟨r, f⟩, rfl, hc, hl, hp, q⟩ := h
  have hR : 0 < R := by have := hl.2.2.1; omega
  have bR : 0 < R ∧ Bd R := ⟨hR, by have := hl.2.2.2; unfold Bd lim; omega⟩
  have l0 := hl.1
  have l1 := hl.2.1
  obtain ⟨r0, r1, f0, f1⟩ := hp
  simp only at r0 r1 f0 f1
  have b2 : Bd 2 := bd_of (by omega) (by omega)
  have bF : 0 < F ∧ Bd F := ⟨by omega, bd_of (by omega) (by omega)⟩
  unfold ib_l_brought_open
  cases c with
  | halve =>
    simp! only [Call.w, pairW, b2]
    refine ⟨small_r (by omega) (by omega), bR.1, small_r (by omega) (by omega), bR, q⟩
  | pair =>
    simp! only [Call.w, pairW, b2]
    refine ⟨small_l (by omega) (by omega), bF, small_l (by omega) (by omega), bF.1, q⟩
  | others =>
    simp! only [Call.w, pairW, b2]
    refine ⟨small_r (by omega) (by omega), ?_⟩
    simp only [mv] at q
    by_cases z : r % 2 = 0
    · rw [if_pos z] at q
      rw [z, Int.mul_zero, Int.add_zero]
      exact q
    · rw [if_neg z] at q
      rw [show r % 2 = 1 by omega, Int.mul_one, Int.add_comm (r / 2)]
      exact q
  | fill =>
    simp! only [Call.w, pairW, b2]
    simp only [mv] at q
    refine ifb (fun y => ?_) (fun y => ?_)
    · have y := of_decide_eq_true y
      rw [if_pos y] at q
      exact ⟨small_l (by omega) (by omega), q⟩
    · have y := of_decide_eq_false y
      rw [if_neg y] at q
      exact ⟨small_l (by omega) (by omega), q⟩
  | up g k =>
    rcases hc with hc | ⟨hc, _⟩
    · cases hc
    rw [hc] at q
    simp! only [Call.w, pairW, b2]
    exact q
  | swap g h =>
    rcases hc with hc | ⟨hc, _⟩
    · cases hc
    rw [hc] at q
    simp! only [Call.w, pairW, b2]
    exact q
  | wheel g h k =>
    rcases hc with hc | ⟨hc, _⟩
    · cases hc
    rw [hc] at q
    simp! only [Call.w, pairW, b2]
    exact q
  | front g h =>
    rcases hc with hc | ⟨hc, _⟩
    · cases hc
    rw [hc] at q
    simp! only [Call.w, pairW, b2]
    exact q
  | all k => exfalso; rcases hc with hc | ⟨_, hc⟩ <;> revert hc <;> simp only [Call.opn, Call.word] <;> decide
  | about => exfalso; rcases hc with hc | ⟨_, hc⟩ <;> revert hc <;> simp only [Call.opn, Call.word] <;> decide
theorem idx_two {f g h : Int} : (([g, h].idxOf f : Nat) : Int) = if f = g then 0 else if f = h then 1 else 2 := by
  by_cases a : f = g
  · subst a; simp
  · have a' : (g == f) = false := by simp [Ne.symm a]
    by_cases b : f = h
    · subst b; simp [List.idxOf_cons, a, a']
    · have b' : (h == f) = false := by simp [Ne.symm b]
      simp [List.idxOf_cons, a, b, a', b']
theorem two_eq {f g h : Int} : (g == f || h == f) = decide (f = g ∨ f = h) := by
  by_cases a : f = g
  · subst a; simp
  · by_cases b : f = h
    · subst b; simp
    · simp [a, b, Ne.symm a, Ne.symm b]
def ib_l_brought : IS := (sSeq (sAsg (iVar 3) (gTp 2 (gsCons (gNm 4) (gsCons (gNm 5) gsNil))))
  (sSeq (sIf (tOr' (tBl (iB gEq (iIx (iVar 0) (iC (.int 0))) (iC (.str "all")))) (tAnd' (tBl (iB gEq (iIx (iVar 0) (iC (.int 0))) (iC (.str "up")))) (tBl (iB gEq (iIx (iVar 0) (iC (.int 1))) (iVar 5))))) (sRet (iTup (iCons (iB gMod (iFn gInt (iCons (iB gSub (iVar 4) (iIx (iVar 0) (iNeg (iC (.int 1))))) iNil)) (iVar 2)) (iCons (iVar 5) iNil)))) sNext)
  (sSeq (sIf (tOr' (tAnd' (tBl (iB gEq (iIx (iVar 0) (iC (.int 0))) (iC (.str "swap")))) (tBl (iB (gIn false) (iVar 5) (iSl (iVar 0) (oSome (iC (.int 1))) oNone)))) (tAnd' (tBl (iB gEq (iIx (iVar 0) (iC (.int 0))) (iC (.str "front")))) (tAnd' (tBl (iB (gIn false) (iVar 5) (iSl (iVar 0) (oSome (iC (.int 1))) oNone))) (tBl (iB gEq (iVar 4) (iC (.int 0))))))) (sRet (iTup (iCons (iVar 4) (iCons (iB gSub (iB gAdd (iIx (iVar 0) (iC (.int 1))) (iIx (iVar 0) (iC (.int 2)))) (iVar 5)) iNil)))) sNext)
  (sSeq (sIf (tAnd' (tBl (iB gEq (iIx (iVar 0) (iC (.int 0))) (iC (.str "wheel")))) (tBl (iB (gIn false) (iVar 5) (iSl (iVar 0) (oSome (iC (.int 1))) (oSome (iC (.int 3))))))) (sSeq (sSet 6 (iIx (iLst (iCons (iB gSub (iB gSub (iVar 2) (iC (.int 1))) (iVar 4)) (iCons (iB gAdd (iVar 2) (iVar 4)) iNil))) (iIdxT (iVar 0) (oSome (iC (.int 1))) (oSome (iC (.int 3))) (iCons (iVar 5) iNil))))
    (sSeq (sSet 6 (iB gMod (iFn gInt (iCons (iB gAdd (iVar 6) (iIx (iVar 0) (iC (.int 3)))) iNil)) (iB gMul (iC (.int 2)) (iVar 2))))
    (sRet (iIf (tBl (iB gLt (iVar 6) (iVar 2))) (iTup (iCons (iB gSub (iB gSub (iVar 2) (iC (.int 1))) (iVar 6)) (iCons (iIx (iVar 0) (iC (.int 1))) iNil))) (iTup (iCons (iB gSub (iVar 6) (iVar 2)) (iCons (iIx (iVar 0) (iC (.int 2))) iNil))))))) sNext)
  (sSeq (sIf (tBl (iB gEq (iIx (iVar 0) (iC (.int 0))) (iC (.str "about")))) (sRet (iTup (iCons (iB gSub (iB gSub (iVar 2) (iC (.int 1))) (iVar 4)) (iCons (iB gSub (iB gSub (iVar 1) (iC (.int 1))) (iVar 5)) iNil)))) sNext)
  (sRet (iCall sp_l_brought_open (iCons (iVar 0) (iCons (iVar 1) (iCons (iVar 2) (iCons (iVar 3) iNil)))))))))))
def sp_l_brought : ISp := fun ws S Q E => ∃ (c : Call) (F R : Int) (p : Int × Int), ws = [c.w, .int F, .int R, pairW p] ∧ c.ok F ∧ Ln F R ∧ At F R p ∧ Q (.val (pairW (mv F R c p))) S
theorem ok_l_brought (ws : List W) (S : Sto) (Q : R → Sto → Prop) (E : Exn → Sto → Prop) (h : sp_l_brought ws S Q E) : bodyI 7 ib_l_brought ws S Q E := by
  obtain ⟨c, F, R, ⟨r, f⟩, rfl, hc, hl, hp, q⟩ := h
  have hR : 0 < R := by have := hl.2.2.1; omega
  have bR : 0 < R ∧ Bd R := ⟨hR, by have := hl.2.2.2; unfold Bd lim; omega⟩
  have opc : (c.opn = true ∨ mv F R c (r, f) = (r, f) ∧ (c.word = "up" ∨ c.word = "swap" ∨ c.word = "wheel" ∨ c.word = "front")) → sp_l_brought_open [c.w, .int F, .int R, pairW (r, f)] S Q (fun x S' => E x S') := fun ho => ⟨c, F, R, (r, f), rfl, ho, hl, hp, q⟩
  unfold ib_l_brought
  cases c with
  | all k =>
    walk_at "rCall_w_pairW"
    exact ⟨hR, q⟩
  | up g k =>
    walk_at "rCall_w_pairW"
    by_cases z : f = g
    · subst z
      simp only [mv, if_true] at q
      exact ifT (by simp) ⟨hR, q⟩
    · exact ifF (by simpa using fun e => z e.symm) (opc (.inr ⟨if_neg z, .inl rfl⟩))
  | swap g h =>
    simp only [Call.ok, Two] at hc
    walk_at "rCall_w_pairW"
    by_cases z : f ≠ g ∧ f ≠ h
    · refine ifF ?_ (opc (.inr ⟨if_pos z, .inr (.inl rfl)⟩))
      rw [two_eq, decide_eq_false (by omega)]
    · simp only [mv] at q
      rw [if_neg z] at q
      have e : g + h - f = if f = g then h else g := by split <;> omega
      refine ifT ?_ ?_
      · rw [two_eq, decide_eq_true (by omega)]
      rw [e]
      exact q
  | wheel g h k =>
    simp only [Call.ok, Two] at hc
    walk_at "rCall_w_pairW"
    by_cases z : f ≠ g ∧ f ≠ h
    · refine ifF ?_ (opc (.inr ⟨?_, .inr (.inr (.inl rfl))⟩))
      · rw [two_eq, decide_eq_false (by omega)]
      · simp only [mv, whl]; rw [if_pos z]
    · simp only [mv, whl] at q
      rw [if_neg z] at q
      refine ifT ?_ ?_
      · rw [two_eq, decide_eq_true (by omega)]
      refine ⟨[g, h], rfl, by simp; omega, ?_⟩
      rw [idx_two]
      have key : ∀ i : Int, i = (if f = g then R - 1 - r else R + r) → MulOk 2 R ∧ 0 < 2 * R ∧ if decide ((i + k) % (2 * R) < R) = true then Q (Sh.R.val (W.tup [W.int (R - 1 - (i + k) % (2 * R)), W.int g])) S else Q (Sh.R.val (W.tup [W.int ((i + k) % (2 * R) - R), W.int h])) S := fun i ei => by
        rw [← ei] at q
        refine ⟨small_l (by omega) (by omega), by omega, ifb (fun y => ?_) (fun y => ?_)⟩
        · rw [if_pos (of_decide_eq_true y)] at q
          exact q
        · rw [if_neg (of_decide_eq_false y)] at q
          exact q
      by_cases zg : f = g
      · rw [if_pos zg]
        exact key _ (by rw [if_pos zg])
      · rw [if_neg zg, if_pos (by omega)]
        exact key _ (by rw [if_neg zg])
  | about => walk_at "rCall_w_pairW"; exact q
  | front g h =>
    simp only [Call.ok, Two] at hc
    walk_at "rCall_w_pairW"
    rw [two_eq]
    have r0 : 0 ≤ r := hp.1
    by_cases z : (f ≠ g ∧ f ≠ h) ∨ 0 < r
    · have o := opc (.inr ⟨if_pos z, .inr (.inr (.inr rfl))⟩)
      refine ifb (fun y => ifb (fun y2 => ?_) fun _ => o) fun _ => o
      have y := of_decide_eq_true y
      have y2 : r = 0 := by simpa using y2
      omega
    · simp only [mv] at q
      rw [if_neg z] at q
      have e : g + h - f = if f = g then h else g := by split <;> omega
      refine ifT (decide_eq_true (by omega)) (ifT (by simp; omega) ?_)
      rw [e]
      exact q
  | halve => walk_at "rCall_w"; exact opc (.inl rfl)
  | pair => walk_at "rCall_w"; exact opc (.inl rfl)
  | others => walk_at "rCall_w"; exact opc (.inl rfl)
  | fill => walk_at "rCall_w"; exact opc (.inl rfl)
def ib_l_led_1 : IS := (sSet 3 (iCall sp_l_brought (iCons (iVar 4) (iCons (iVar 1) (iCons (iVar 2) (iCons (iVar 3) iNil))))))
def ib_l_led : IS := (sSeq (sFor (lSeq (iVar 0)) (gNm 4) ib_l_led_1)
  (sRet (iVar 3)))
def sp_l_led : ISp := fun ws S Q E => ∃ (F R : Int) (cs : List Call) (p : Int × Int), ws = [.lst (cs.map Call.w), .int F, .int R, pairW p] ∧ Oks F cs ∧ Ln F R ∧ At F R p ∧ Q (.val (pairW (run F R cs p))) S
theorem ok_l_led (ws : List W) (S : Sto) (Q : R → Sto → Prop) (E : Exn → Sto → Prop) (h : sp_l_led ws S Q E) : bodyI 5 ib_l_led ws S Q E := by
  obtain ⟨F, R, cs, p, rfl, hc, hl, hp, q⟩ := h
  have hF : 0 < F := by have := hl.1; omega
  have hR : 0 < R := by have := hl.2.2.1; omega
  unfold ib_l_led
  refine seq_cut (fun st => ∃ x4 : Slot, st = ⟨[.val (.lst (cs.map Call.w)), .val (.int F), .val (.int R), .val (pairW (run F R cs p)), x4], S⟩) (fun nx h => ?_) (fun st ⟨x4, es⟩ => by subst es; exact q)
  walk_at "rsFor_lSeq_gItems"
  refine for_fold Call.w (fun p c => mv F R c p) (fun p st => At F R p ∧ ∃ x4 : Slot, st = ⟨[.val (.lst (cs.map Call.w)), .val (.int F), .val (.int R), .val (pairW p), x4], S⟩) cs p _ ⟨hp, _, rfl⟩ (fun st ⟨_, x4, es⟩ => h st ⟨x4, es⟩) fun c hcm b st nx ⟨hb, x4, es⟩ hn => ?_
  subst es
  unfold ib_l_led_1
  walk_at "r"
  exact ⟨c, F, R, b, rfl, hc c hcm, hl, hb, hn _ ⟨mv_in hF hR (hc c hcm) hb, _, rfl⟩⟩
def ib_p_is_straight_calls : IS := (sRet (iOfT (tKdIn true kT_OPEN_CALLS (iIx (iVar 0) (iC (.int 0))))))
def sp_p_is_straight_calls : ISp := fun ws S Q E => ∃ c : Call, ws = [c.w] ∧ Q (.val (.bl (!c.opn))) S
theorem ok_p_is_straight_calls (ws : List W) (S : Sto) (Q : R → Sto → Prop) (E : Exn → Sto → Prop) (h : sp_p_is_straight_calls ws S Q E) : bodyI 1 ib_p_is_straight_calls ws S Q E := by
  obtain ⟨c, rfl, q⟩ := h
  unfold ib_p_is_straight_calls
  cases c <;> exact q
def ib_m_Script_is_straight : IS := (sRet (iFn (gAll fun bs => bs.all id) (iCons (iFz (nLc (lSeq (iFld ["Script"] "steps" (iVar 0))) (gNm 1) tYes' (iCall sp_p_is_straight_calls (iCons (iVar 1) iNil)) [1])) iNil)))
def strB (cs : List Call) : Bool := cs.all fun c => !c.opn
theorem St5.strB {F : Int} {cs : List Call} (h : St5 F cs) : strB cs = true := List.all_eq_true.mpr fun c hc => by rw [h.st c hc]; rfl
def sp_m_Script_is_straight : ISp := fun ws S Q E => ∃ F cs, ws = [scrW F cs] ∧ Gd F cs ∧ Q (.val (.bl (strB cs))) S
theorem blsOf_map {α : Type} (f : α → Bool) (as : List α) : blsOf (as.map fun a => W.bl (f a)) = some (as.map f) := by
  induction as with
  | nil => rfl
  | cons a as ih => simp only [List.map_cons, blsOf, ih, Option.map]
theorem ok_m_Script_is_straight (ws : List W) (S : Sto) (Q : R → Sto → Prop) (E : Exn → Sto → Prop) (h : sp_m_Script_is_straight ws S Q E) : bodyI 2 ib_m_Script_is_straight ws S Q E := by
  obtain ⟨F, cs, rfl, g, q⟩ := h
  unfold ib_m_Script_is_straight
  walk_at "rnLc_lSeq_gItems"
  refine lc_fn ⟨[.val (scrW F cs), .none], S⟩ Call.w (fun c => .bl (!c.opn)) cs _ (fun c hc Y hY => ?_) rfl (by have := g.len; rw [sizeLine_eq]; omega) fun st' es => ?_
  · walk_at "r"
    exact ⟨c, rfl, hY _ rfl⟩
  · rw [es]
    simp! only [gAll, blsOf_map]
    have e : (cs.map fun c => !c.opn).all id = strB cs := by rw [List.all_map]; rfl
    rw [e]
    exact q
/-- from the front, or (b) from the back, so many rows; a file -/
structure Spt where
  b : Bool
  k : Int
  f : Int
theorem Spt.ext' {x y : Spt} (h1 : x.b = y.b) (h2 : x.k = y.k) (h3 : x.f = y.f) : x = y := by cases x; cases y; simp_all
def Spt.at (R : Int) (x : Spt) : Int × Int := (if x.b = true then R - 1 - x.k else x.k, x.f)
/-- d rows away from the end; through it to the other end -/
def Spt.sh (x : Spt) (d : Int) : Spt := if 0 ≤ x.k + d then ⟨x.b, x.k + d, x.f⟩ else ⟨!x.b, -(x.k + d) - 1, x.f⟩
/-- d rows away from the end; at the end into the file g -/
def Spt.wh (x : Spt) (d g : Int) : Spt := if 0 ≤ x.k + d then ⟨x.b, x.k + d, x.f⟩ else ⟨x.b, -(x.k + d) - 1, g⟩
def Spt.go (F : Int) (c : Call) (x : Spt) : Spt := match c with
  | .all k => x.sh (if x.b = true then k else -k)
  | .up g k => if x.f = g then x.sh (if x.b = true then k else -k) else x
  | .about => ⟨!x.b, x.k, F - 1 - x.f⟩
  | .wheel g h k => if x.f ≠ g ∧ x.f ≠ h then x else if x.f = g then x.wh (if x.b = true then k else -k) h else x.wh (if x.b = true then -k else k) g
  | .swap g h => if x.f ≠ g ∧ x.f ≠ h then x else ⟨x.b, x.k, if x.f = g then h else g⟩
  | .front g h => if (x.f ≠ g ∧ x.f ≠ h) ∨ x.b = true ∨ 0 < x.k then x else ⟨x.b, x.k, if x.f = g then h else g⟩
  | _ => x
def Spt.on (x : Spt) (t : Int) : Spt := ⟨x.b, x.k + t, x.f⟩
structure Sr where
  f : Int
  lo : Int
  hi : Int
  to : Int
  sg : Int
  sh : Int
theorem Sr.ext' {s t : Sr} (h1 : s.f = t.f) (h2 : s.lo = t.lo) (h3 : s.hi = t.hi) (h4 : s.to = t.to) (h5 : s.sg = t.sg) (h6 : s.sh = t.sh) : s = t := by
  cases s
  cases t
  simp_all
def Sr.w (s : Sr) : W := .tup [.int s.f, .int s.lo, .int s.hi, .int s.to, .int s.sg, .int s.sh]
def Sr.img (s : Sr) (r : Int) : Int := s.sg * r + s.sh
def Sr.has (s : Sr) (p : Int × Int) : Prop := p.2 = s.f ∧ s.lo ≤ p.1 ∧ p.1 ≤ s.hi
abbrev PM := Int × Int → Int × Int
structure Sr.ok (φ : PM) (s : Sr) : Prop where
  ne : s.lo ≤ s.hi
  sg : s.sg = 1 ∨ s.sg = -1
  ev : ∀ r, s.lo ≤ r → r ≤ s.hi → φ (r, s.f) = (s.img r, s.to)
/-- each place in just one -/
structure Prt (F R : Int) (φ : PM) (l : List Sr) : Prop where
  ok : ∀ s ∈ l, s.ok φ
  inn : ∀ s ∈ l, 0 ≤ s.f ∧ s.f < F ∧ 0 ≤ s.lo ∧ s.hi < R
  dj : l.Pairwise fun s t => ∀ p, s.has p → ¬ t.has p
  cov : ∀ p, At F R p → ∃ s ∈ l, s.has p
theorem Prt.perm {F R : Int} {φ : PM} {l m : List Sr} (h : Prt F R φ l) (p : l.Perm m) : Prt F R φ m :=
  ⟨fun s hs => h.ok s (p.mem_iff.mpr hs), fun s hs => h.inn s (p.mem_iff.mpr hs), (List.Perm.pairwise_iff (fun {x y} h p a b => h p b a) p).mp h.dj, fun q hq => by
    obtain ⟨s, hs, k⟩ := h.cov q hq
    exact ⟨s, p.mem_iff.mp hs, k⟩⟩
/-- with the sign 1 if it has one row alone -/
def Sr.plain (s : Sr) : Sr := if s.lo < s.hi then s else ⟨s.f, s.lo, s.hi, s.to, 1, s.img s.lo - s.lo⟩
theorem plain_f {s : Sr} : s.plain.f = s.f := by unfold Sr.plain; split <;> rfl
theorem plain_lo {s : Sr} : s.plain.lo = s.lo := by unfold Sr.plain; split <;> rfl
theorem plain_hi {s : Sr} : s.plain.hi = s.hi := by unfold Sr.plain; split <;> rfl
theorem plain_has {s : Sr} {p : Int × Int} : s.plain.has p ↔ s.has p := by unfold Sr.has; rw [plain_f, plain_lo, plain_hi]
theorem plain_ok {φ : PM} {s : Sr} (h : s.ok φ) : s.plain.ok φ := by
  unfold Sr.plain
  split
  · exact h
  · rename_i z
    have e : s.lo = s.hi := by have := h.ne; omega
    refine ⟨h.ne, .inl rfl, fun r h1 h2 => ?_⟩
    have er : r = s.lo := by
      have : s.lo ≤ r := h1
      have : r ≤ s.hi := h2
      omega
    rw [er]
    show φ (s.lo, s.f) = _
    rw [h.ev s.lo (Int.le_refl _) h.ne]
    unfold Sr.img
    simp only [Prod.mk.injEq, and_true]
    omega
theorem plain_one {s : Sr} (h : s.plain.lo = s.plain.hi) : s.plain.sg = 1 := by
  rw [plain_lo, plain_hi] at h
  unfold Sr.plain
  rw [if_neg (by omega)]
theorem Prt.plain {F R : Int} {φ : PM} {l : List Sr} (h : Prt F R φ l) : Prt F R φ (l.map Sr.plain) := by
  refine ⟨fun s hs => ?_, fun s hs => ?_, ?_, fun p hp => ?_⟩
  · obtain ⟨t, ht, rfl⟩ := List.mem_map.mp hs
    exact plain_ok (h.ok t ht)
  · obtain ⟨t, ht, rfl⟩ := List.mem_map.mp hs
    rw [plain_f, plain_lo, plain_hi]
    exact h.inn t ht
  · rw [List.pairwise_map]
    exact h.dj.imp fun {a b} k p x y => k p (plain_has.mp x) (plain_has.mp y)
  · obtain ⟨s, hs, k⟩ := h.cov p hp
    exact ⟨s.plain, List.mem_map.mpr ⟨s, hs, rfl⟩, plain_has.mpr k⟩
/-- one behind another -/
def Chn (F R : Int) : List Sr → Int → Int → Prop
  | [], f, r => f = F ∧ r = 0
  | s :: l, f, r => s.f = f ∧ s.lo = r ∧ s.lo ≤ s.hi ∧ s.hi < R ∧ f < F ∧ (if s.hi + 1 = R then Chn F R l (f + 1) 0 else Chn F R l f (s.hi + 1))
def Sr.lt (s t : Sr) : Prop := s.f < t.f ∨ (s.f = t.f ∧ s.lo < t.lo)
/-- a place from some place on -/
def Fr (f r : Int) (p : Int × Int) : Prop := f < p.2 ∨ (p.2 = f ∧ r ≤ p.1)
theorem chn_of {F R : Int} (hR : 0 < R) : ∀ {l : List Sr} {f r : Int}, 0 ≤ f → f ≤ F → 0 ≤ r → r < R → (f = F → r = 0) →
    (∀ s ∈ l, s.lo ≤ s.hi ∧ 0 ≤ s.f ∧ s.f < F ∧ 0 ≤ s.lo ∧ s.hi < R) → (∀ s ∈ l, Fr f r (s.lo, s.f)) → l.Pairwise Sr.lt → (l.Pairwise fun s t => ∀ p, s.has p → ¬ t.has p) →
    (∀ p, At F R p → Fr f r p → ∃ s ∈ l, s.has p) → Chn F R l f r
  | [], f, r, f0, f1, r0, r1, e, _, _, _, _, c => by
    by_cases q : f = F
    · exact ⟨q, e q⟩
    · obtain ⟨s, hs, _⟩ := c (r, f) ⟨r0, r1, f0, by show f < F; omega⟩ (.inr ⟨rfl, Int.le_refl _⟩)
      cases hs
  | s :: l, f, r, f0, f1, r0, r1, e, i, g, so, dj, c => by
    have is := i s (List.mem_cons_self ..)
    have gs : Fr f r (s.lo, s.f) := g s (List.mem_cons_self ..)
    unfold Fr at gs
    have gs : f < s.f ∨ (s.f = f ∧ r ≤ s.lo) := gs
    have hf : f < F := by omega
    obtain ⟨t, ht, h1, h2, h3⟩ := c (r, f) ⟨r0, r1, f0, hf⟩ (.inr ⟨rfl, Int.le_refl _⟩)
    have h1 : f = t.f := h1
    have h2 : t.lo ≤ r := h2
    have h3 : r ≤ t.hi := h3
    have gt : f < t.f ∨ (t.f = f ∧ r ≤ t.lo) := g t ht
    rw [List.pairwise_cons] at so dj
    have es : s.f = f ∧ s.lo = r := by
      rcases List.mem_cons.mp ht with q | q
      · subst q
        omega
      · have k : s.f < t.f ∨ (s.f = t.f ∧ s.lo < t.lo) := so.1 t q
        omega
    have nx : ∀ t ∈ l, (t.f = f ∧ s.hi < t.lo) ∨ f < t.f := fun t ht => by
      have k : s.f < t.f ∨ (s.f = t.f ∧ s.lo < t.lo) := so.1 t ht
      have it := i t (List.mem_cons_of_mem _ ht)
      by_cases z : t.f = f
      · refine .inl ⟨z, ?_⟩
        by_cases z2 : s.hi < t.lo
        · exact z2
        · exact ((dj.1 t ht) (t.lo, t.f) ⟨by show t.f = s.f; omega, by show s.lo ≤ t.lo; omega, by show t.lo ≤ s.hi; omega⟩ ⟨rfl, Int.le_refl _, it.1⟩).elim
      · right; omega
    have cv : ∀ p, At F R p → (f < p.2 ∨ (p.2 = f ∧ s.hi + 1 ≤ p.1)) → ∃ t ∈ l, t.has p := fun p hp hq => by
      obtain ⟨t, ht, ht2⟩ := c p hp (by unfold Fr; omega)
      rcases List.mem_cons.mp ht with q | q
      · subst q
        obtain ⟨a1, a2, a3⟩ := ht2
        omega
      · exact ⟨t, q, ht2⟩
    refine ⟨es.1, es.2, is.1, is.2.2.2.2, hf, ?_⟩
    split
    · rename_i z
      refine chn_of hR (by omega) (by omega) (Int.le_refl _) hR (fun _ => rfl) (fun t ht => i t (List.mem_cons_of_mem _ ht)) (fun t ht => ?_) so.2 dj.2 fun p hp hq => ?_
      · have it := i t (List.mem_cons_of_mem _ ht)
        have k := nx t ht
        show f + 1 < t.f ∨ (t.f = f + 1 ∧ 0 ≤ t.lo)
        omega
      · refine cv p hp ?_
        have hq : f + 1 < p.2 ∨ (p.2 = f + 1 ∧ 0 ≤ p.1) := hq
        omega
    · rename_i z
      refine chn_of hR f0 f1 (by omega) (by omega) (fun z => by omega) (fun t ht => i t (List.mem_cons_of_mem _ ht)) (fun t ht => ?_) so.2 dj.2 fun p hp hq => cv p hp hq
      have k := nx t ht
      show f < t.f ∨ (t.f = f ∧ s.hi + 1 ≤ t.lo)
      omega
/-- the row behind goes on -/
def Cont (φ : PM) (s : Sr) : Prop := (φ (s.hi + 1, s.f)).2 = s.to ∧ (if s.lo = s.hi then (φ (s.hi + 1, s.f)).1 - s.img s.hi = 1 ∨ (φ (s.hi + 1, s.f)).1 - s.img s.hi = -1 else (φ (s.hi + 1, s.f)).1 = s.img s.hi + s.sg)
/-- the stretches -/
structure Can (F R : Int) (φ : PM) (l : List Sr) (f r : Int) : Prop where
  chn : Chn F R l f r
  ok : ∀ s ∈ l, s.ok φ
  one : ∀ s ∈ l, s.lo = s.hi → s.sg = 1
  nc : ∀ s ∈ l, s.hi + 1 < R → ¬ Cont φ s
theorem cont_of {φ : PM} {s t : Sr} (hs : s.ok φ) (ht : t.ok φ) (e1 : s.f = t.f) (e2 : s.lo = t.lo) (h : s.hi < t.hi) : Cont φ s := by
  have n := hs.ne
  have g := hs.sg
  have g2 := ht.sg
  have a := hs.ev s.lo (Int.le_refl _) n
  have b := ht.ev s.lo (by omega) (by omega)
  rw [← e1] at b
  rw [a] at b
  simp only [Prod.mk.injEq] at b
  have c := ht.ev (s.hi + 1) (by omega) (by omega)
  rw [← e1] at c
  unfold Cont
  rw [c]
  unfold Sr.img at *
  refine ⟨b.2.symm, ?_⟩
  split
  · rename_i z
    show t.sg * (s.hi + 1) + t.sh - (s.sg * s.hi + s.sh) = 1 ∨ t.sg * (s.hi + 1) + t.sh - (s.sg * s.hi + s.sh) = -1
    have b1 := b.1
    rw [z] at b1
    rw [b1]
    rcases g2 with q | q <;> rw [q] <;> omega
  · rename_i z
    show t.sg * (s.hi + 1) + t.sh = s.sg * s.hi + s.sh + s.sg
    have a3 := hs.ev (s.lo + 1) (by omega) (by omega)
    have b3 := ht.ev (s.lo + 1) (by omega) (by omega)
    rw [← e1, a3] at b3
    simp only [Sr.img, Prod.mk.injEq] at b3
    have b1 := b.1
    have b2 := b3.1
    rcases g with q | q <;> rcases g2 with q2 | q2 <;> simp only [q, q2] at b1 b2 ⊢ <;> omega
theorem can_unique {F R : Int} {φ : PM} : ∀ {l m : List Sr} {f r : Int}, Can F R φ l f r → Can F R φ m f r → l = m
  | [], [], _, _, _, _ => rfl
  | [], t :: m, f, r, h, k => by
    have a := h.chn
    have b := k.chn
    unfold Chn at a b
    omega
  | s :: l, [], f, r, h, k => by
    have a := h.chn
    have b := k.chn
    unfold Chn at a b
    omega
  | s :: l, t :: m, f, r, h, k => by
    obtain ⟨a1, a2, a3, a4, a5, a6⟩ := h.chn
    obtain ⟨b1, b2, b3, b4, b5, b6⟩ := k.chn
    have hs := h.ok s (List.mem_cons_self ..)
    have ht := k.ok t (List.mem_cons_self ..)
    have e : s.hi = t.hi := by
      have n1 := h.nc s (List.mem_cons_self ..)
      have n2 := k.nc t (List.mem_cons_self ..)
      by_cases z1 : s.hi < t.hi
      · exact (n1 (by omega) (cont_of hs ht (by omega) (by omega) z1)).elim
      · by_cases z2 : t.hi < s.hi
        · exact (n2 (by omega) (cont_of ht hs (by omega) (by omega) z2)).elim
        · omega
    have ef : s.f = t.f := by omega
    have el : s.lo = t.lo := by omega
    have x := hs.ev s.lo (Int.le_refl _) a3
    have y := ht.ev s.lo (by omega) (by omega)
    rw [← ef, x] at y
    simp only [Sr.img, Prod.mk.injEq] at y
    have esg : s.sg = t.sg := by
      by_cases z : s.lo = s.hi
      · rw [h.one s (List.mem_cons_self ..) z, k.one t (List.mem_cons_self ..) (by omega)]
      · have x2 := hs.ev (s.lo + 1) (by omega) (by omega)
        have y2 := ht.ev (s.lo + 1) (by omega) (by omega)
        rw [← ef, x2] at y2
        simp only [Sr.img, Prod.mk.injEq] at y2
        have y1 := y.1
        have y3 := y2.1
        rcases hs.sg with q | q <;> rcases ht.sg with q2 | q2 <;> simp only [q, q2] at y1 y3 ⊢ <;> omega
    have st : s = t := by
      refine Sr.ext' ef el e y.2 esg ?_
      have y1 := y.1
      rw [esg] at y1
      omega
    subst st
    have rest : ∀ f r, Chn F R l f r → Chn F R m f r → l = m := fun f r p q => can_unique (f := f) (r := r)
      ⟨p, fun x hx => h.ok x (List.mem_cons_of_mem _ hx), fun x hx => h.one x (List.mem_cons_of_mem _ hx), fun x hx => h.nc x (List.mem_cons_of_mem _ hx)⟩
      ⟨q, fun x hx => k.ok x (List.mem_cons_of_mem _ hx), fun x hx => k.one x (List.mem_cons_of_mem _ hx), fun x hx => k.nc x (List.mem_cons_of_mem _ hx)⟩
    by_cases z : s.hi + 1 = R
    · rw [if_pos z] at a6 b6
      rw [rest _ _ a6 b6]
    · rw [if_neg z] at a6 b6
      rw [rest _ _ a6 b6]
def mergeS (s t : Sr) : Option Sr :=
  if s.f ≠ t.f ∨ s.to ≠ t.to then none
  else if t.img t.lo - s.img s.hi ≠ 1 ∧ t.img t.lo - s.img s.hi ≠ -1 then none
  else if (s.lo < s.hi ∧ s.sg ≠ t.img t.lo - s.img s.hi) ∨ (t.lo < t.hi ∧ t.sg ≠ t.img t.lo - s.img s.hi) then none
  else some ⟨s.f, s.lo, t.hi, s.to, t.img t.lo - s.img s.hi, s.img s.lo - (t.img t.lo - s.img s.hi) * s.lo⟩
def mgo : Sr → List Sr → List Sr
  | s, [] => [s]
  | s, t :: l => match mergeS s t with
    | some b => mgo b l
    | none => s :: mgo t l
def mgL : List Sr → List Sr
  | [] => []
  | s :: l => mgo s l
theorem merge_some {φ : PM} {s t b : Sr} (hs : s.ok φ) (ht : t.ok φ) (e : t.lo = s.hi + 1) (h : mergeS s t = some b) : b.ok φ ∧ b.f = s.f ∧ b.lo = s.lo ∧ b.hi = t.hi ∧ b.lo < b.hi ∧ s.f = t.f := by
  unfold mergeS at h
  split at h
  · cases h
  rename_i z1
  split at h
  · cases h
  rename_i z2
  split at h
  · cases h
  rename_i z3
  have hb := Option.some.inj h
  subst hb
  have n1 := hs.ne
  have n2 := ht.ne
  refine ⟨⟨by show s.lo ≤ t.hi; omega, by show t.img t.lo - s.img s.hi = 1 ∨ t.img t.lo - s.img s.hi = -1; omega, fun r h1 h2 => ?_⟩, rfl, rfl, rfl, by show s.lo < t.hi; omega, by omega⟩
  have h1 : s.lo ≤ r := h1
  have h2 : r ≤ t.hi := h2
  show φ (r, s.f) = ((t.img t.lo - s.img s.hi) * r + (s.img s.lo - (t.img t.lo - s.img s.hi) * s.lo), s.to)
  have hd : t.img t.lo - s.img s.hi = 1 ∨ t.img t.lo - s.img s.hi = -1 := by omega
  by_cases q : r ≤ s.hi
  · rw [hs.ev r h1 q]
    simp only [Prod.mk.injEq, and_true]
    by_cases w : s.lo < s.hi
    · have es : s.sg = t.img t.lo - s.img s.hi := by
        by_cases y : s.sg = t.img t.lo - s.img s.hi
        · exact y
        · exact (z3 (.inl ⟨w, y⟩)).elim
      rw [← es]
      unfold Sr.img
      rcases hs.sg with y | y <;> rw [y] <;> omega
    · have : r = s.lo := by omega
      rw [this]
      omega
  · have ef : s.f = t.f := by omega
    have eto : s.to = t.to := by omega
    rw [ef, ht.ev r (by omega) h2, eto]
    simp only [Prod.mk.injEq, and_true]
    have k : t.img r = t.img t.lo + (t.img t.lo - s.img s.hi) * (r - t.lo) := by
      by_cases w : t.lo < t.hi
      · have es : t.sg = t.img t.lo - s.img s.hi := by
          by_cases y : t.sg = t.img t.lo - s.img s.hi
          · exact y
          · exact (z3 (.inr ⟨w, y⟩)).elim
        rw [← es]
        unfold Sr.img
        rcases ht.sg with y | y <;> rw [y] <;> omega
      · have : r = t.lo := by omega
        rw [this, Int.sub_self, Int.mul_zero, Int.add_zero]
    rw [k]
    have k2 : s.img s.hi = s.img s.lo + (t.img t.lo - s.img s.hi) * (s.hi - s.lo) := by
      by_cases w : s.lo < s.hi
      · have es : s.sg = t.img t.lo - s.img s.hi := by
          by_cases y : s.sg = t.img t.lo - s.img s.hi
          · exact y
          · exact (z3 (.inl ⟨w, y⟩)).elim
        rw [← es]
        unfold Sr.img
        rcases hs.sg with y | y <;> rw [y] <;> omega
      · have : s.hi = s.lo := by omega
        rw [this, Int.sub_self, Int.mul_zero, Int.add_zero]
    generalize t.img t.lo = A at *
    generalize s.img s.hi = B at *
    generalize s.img s.lo = C at *
    rcases hd with y | y <;> rw [y] at k2 ⊢ <;> omega
theorem merge_none {F R : Int} {φ : PM} (inj : ∀ p q, At F R p → At F R q → φ p = φ q → p = q) {s t : Sr} (hs : s.ok φ) (ht : t.ok φ) (hf : 0 ≤ s.f ∧ s.f < F) (h0 : 0 ≤ s.lo) (hR : t.hi < R) (ef : s.f = t.f) (e : t.lo = s.hi + 1) (h : mergeS s t = none) : ¬ Cont φ s := by
  intro c
  obtain ⟨c1, c2⟩ := c
  have n1 := hs.ne
  have n2 := ht.ne
  have ev := ht.ev t.lo (Int.le_refl _) n2
  rw [ef, ← e, ev] at c1 c2
  have c1 : t.to = s.to := c1
  have es := hs.ev s.hi n1 (Int.le_refl _)
  have hd : t.img t.lo - s.img s.hi = 1 ∨ t.img t.lo - s.img s.hi = -1 := by
    split at c2
    · exact c2
    · have c2 : t.img t.lo = s.img s.hi + s.sg := c2
      have := hs.sg
      omega
  unfold mergeS at h
  rw [if_neg (by omega), if_neg (by omega)] at h
  split at h
  · rename_i z
    rcases z with ⟨z1, z2⟩ | ⟨z1, z2⟩
    · rw [if_neg (by omega)] at c2
      have c2 : t.img t.lo = s.img s.hi + s.sg := c2
      omega
    · have g := ht.sg
      have ev2 := ht.ev (t.lo + 1) (by omega) (by omega)
      have k : t.img (t.lo + 1) = s.img s.hi := by
        have : t.img (t.lo + 1) = t.img t.lo + t.sg := by unfold Sr.img; rcases g with y | y <;> rw [y] <;> omega
        omega
      have same : φ (t.lo + 1, t.f) = φ (s.hi, s.f) := by rw [ev2, es, k, c1]
      have := inj _ _ (by refine ⟨?_, ?_, ?_, ?_⟩ <;> simp only <;> omega) (by refine ⟨?_, ?_, ?_, ?_⟩ <;> simp only <;> omega) same
      simp only [Prod.mk.injEq] at this
      omega
  · cases h
theorem merge_file {s t : Sr} (h : s.f ≠ t.f) : mergeS s t = none := by
  unfold mergeS
  rw [if_pos (.inl h)]
theorem mgo_can {F R : Int} {φ : PM} (inj : ∀ p q, At F R p → At F R q → φ p = φ q → p = q) : ∀ {l : List Sr} {s : Sr} {f r : Int}, 0 ≤ f → 0 ≤ r → Chn F R (s :: l) f r → (∀ t ∈ s :: l, t.ok φ) → (∀ t ∈ s :: l, t.lo = t.hi → t.sg = 1) → Can F R φ (mgo s l) f r
  | [], s, f, r, f0, r0, h, ok, one => by
    refine ⟨h, ok, one, fun t ht k => ?_⟩
    obtain ⟨a1, a2, a3, a4, a5, a6⟩ := h
    rw [List.mem_singleton.mp ht] at k
    rw [if_neg (by omega)] at a6
    unfold Chn at a6
    omega
  | t :: l, s, f, r, f0, r0, h, ok, one => by
    obtain ⟨a1, a2, a3, a4, a5, a6⟩ := h
    have os := ok s (List.mem_cons_self ..)
    have ot := ok t (List.mem_cons_of_mem _ (List.mem_cons_self ..))
    unfold mgo
    by_cases z : s.hi + 1 = R
    · rw [if_pos z] at a6
      have et : t.f = f + 1 := a6.1
      rw [merge_file (by omega)]
      have ih := mgo_can inj (l := l) (s := t) (by omega) (Int.le_refl _) a6 (fun x hx => ok x (List.mem_cons_of_mem _ hx)) fun x hx => one x (List.mem_cons_of_mem _ hx)
      refine ⟨⟨a1, a2, a3, a4, a5, by rw [if_pos z]; exact ih.chn⟩, fun x hx => ?_, fun x hx => ?_, fun x hx => ?_⟩
      · rcases List.mem_cons.mp hx with rfl | hx
        · exact os
        · exact ih.ok x hx
      · rcases List.mem_cons.mp hx with rfl | hx
        · exact one x (List.mem_cons_self ..)
        · exact ih.one x hx
      · rcases List.mem_cons.mp hx with rfl | hx
        · intro k; omega
        · exact ih.nc x hx
    · rw [if_neg z] at a6
      have b6 := a6
      obtain ⟨b1, b2, b3, b4, b5, b7⟩ := a6
      cases hm : mergeS s t with
      | some b =>
        obtain ⟨ob, c1, c2, c3, c4, c5⟩ := merge_some os ot b2 hm
        show Can F R φ (mgo b l) f r
        refine mgo_can inj f0 r0 ⟨by omega, by omega, by omega, by omega, a5, ?_⟩ (fun x hx => ?_) fun x hx => ?_
        · rw [c3]
          exact b7
        · rcases List.mem_cons.mp hx with rfl | hx
          · exact ob
          · exact ok x (List.mem_cons_of_mem _ (List.mem_cons_of_mem _ hx))
        · rcases List.mem_cons.mp hx with rfl | hx
          · intro k; omega
          · exact one x (List.mem_cons_of_mem _ (List.mem_cons_of_mem _ hx))
      | none =>
        have ih := mgo_can inj (l := l) (s := t) f0 (by omega) b6 (fun x hx => ok x (List.mem_cons_of_mem _ hx)) fun x hx => one x (List.mem_cons_of_mem _ hx)
        have nc := merge_none inj os ot (by omega) (by omega) b4 (by omega) b2 hm
        show Can F R φ (s :: mgo t l) f r
        refine ⟨⟨a1, a2, a3, a4, a5, by rw [if_neg z]; exact ih.chn⟩, fun x hx => ?_, fun x hx => ?_, fun x hx => ?_⟩
        · rcases List.mem_cons.mp hx with rfl | hx
          · exact os
          · exact ih.ok x hx
        · rcases List.mem_cons.mp hx with rfl | hx
          · exact one x (List.mem_cons_self ..)
          · exact ih.one x hx
        · rcases List.mem_cons.mp hx with rfl | hx
          · exact fun _ => nc
          · exact ih.nc x hx
theorem mgo_len : ∀ {l : List Sr} {s : Sr}, (mgo s l).length ≤ l.length + 1
  | [], _ => Nat.le_refl _
  | t :: l, s => by
    unfold mgo
    split
    · have := mgo_len (l := l) (s := ‹Sr›)
      rw [List.length_cons]
      omega
    · have := mgo_len (l := l) (s := t)
      rw [List.length_cons, List.length_cons]
      omega
theorem mgL_len {l : List Sr} : (mgL l).length ≤ l.length := by
  cases l with
  | nil => exact Nat.le_refl _
  | cons s l => exact mgo_len
theorem mgL_can {F R : Int} {φ : PM} (hF : 0 < F) (hR : 0 < R) (inj : ∀ p q, At F R p → At F R q → φ p = φ q → p = q) {l : List Sr} (h : Prt F R φ l) (one : ∀ t ∈ l, t.lo = t.hi → t.sg = 1) (so : l.Pairwise Sr.lt) : Can F R φ (mgL l) 0 0 := by
  have c := chn_of (l := l) (F := F) hR (Int.le_refl 0) (by omega) (Int.le_refl 0) hR (fun _ => rfl) (fun s hs => ⟨(h.ok s hs).ne, (h.inn s hs).1, (h.inn s hs).2.1, (h.inn s hs).2.2.1, (h.inn s hs).2.2.2⟩)
    (fun s hs => by
      have := h.inn s hs
      show (0 : Int) < s.f ∨ (s.f = 0 ∧ 0 ≤ s.lo)
      omega) so h.dj fun p hp _ => h.cov p hp
  cases l with
  | nil =>
    unfold Chn at c
    omega
  | cons s l => exact mgo_can inj (Int.le_refl 0) (Int.le_refl 0) c h.ok one
def thrX (e l : Sr) : Int := if e.sg * (l.lo - e.sh) ≤ e.sg * (l.hi - e.sh) then e.sg * (l.lo - e.sh) else e.sg * (l.hi - e.sh)
def thrY (e l : Sr) : Int := if e.sg * (l.lo - e.sh) ≤ e.sg * (l.hi - e.sh) then e.sg * (l.hi - e.sh) else e.sg * (l.lo - e.sh)
def thrA (e l : Sr) : Int := if e.lo < thrX e l then thrX e l else e.lo
def thrB (e l : Sr) : Int := if thrY e l < e.hi then thrY e l else e.hi
def thr (e l : Sr) : List Sr := if e.to ≠ l.f ∨ thrB e l < thrA e l then [] else [⟨e.f, thrA e l, thrB e l, l.to, e.sg * l.sg, l.sg * e.sh + l.sh⟩]
theorem thr_row {e l : Sr} (he : e.sg = 1 ∨ e.sg = -1) (hl : l.lo ≤ l.hi) (r : Int) : thrA e l ≤ r ∧ r ≤ thrB e l ↔ (e.lo ≤ r ∧ r ≤ e.hi ∧ l.lo ≤ e.img r ∧ e.img r ≤ l.hi) := by
  unfold thrA thrB thrX thrY Sr.img
  rcases he with q | q <;> rw [q] <;> (repeat' split) <;> omega
theorem thr_mem {e l x : Sr} (he : e.sg = 1 ∨ e.sg = -1) (hl : l.lo ≤ l.hi) (h : x ∈ thr e l) : e.to = l.f ∧ x.f = e.f ∧ x.to = l.to ∧ x.sg = e.sg * l.sg ∧ x.sh = l.sg * e.sh + l.sh ∧ x.lo ≤ x.hi ∧
    ∀ r, x.lo ≤ r ∧ r ≤ x.hi ↔ (e.lo ≤ r ∧ r ≤ e.hi ∧ l.lo ≤ e.img r ∧ e.img r ≤ l.hi) := by
  unfold thr at h
  by_cases z : e.to ≠ l.f ∨ thrB e l < thrA e l
  · rw [if_pos z] at h
    cases h
  rw [if_neg z] at h
  rw [List.mem_singleton.mp h]
  exact ⟨by omega, rfl, rfl, rfl, rfl, by show thrA e l ≤ thrB e l; omega, fun r => thr_row he hl r⟩
theorem thr_has {e l : Sr} (he : e.sg = 1 ∨ e.sg = -1) {r : Int} (h : e.to = l.f) (h1 : e.lo ≤ r) (h2 : r ≤ e.hi) (h3 : l.lo ≤ e.img r) (h4 : e.img r ≤ l.hi) : ∃ x ∈ thr e l, x.lo ≤ r ∧ r ≤ x.hi ∧ x.f = e.f := by
  have k := (thr_row he (by omega) r).mpr ⟨h1, h2, h3, h4⟩
  unfold thr
  rw [if_neg (by omega)]
  exact ⟨_, List.mem_singleton.mpr rfl, k.1, k.2, rfl⟩
theorem thr_len {e l : Sr} : (thr e l).length ≤ 1 := by
  unfold thr
  by_cases z : e.to ≠ l.f ∨ thrB e l < thrA e l
  · rw [if_pos z]
    exact Nat.zero_le _
  · rw [if_neg z]
    exact Nat.le_refl _
def joinL (xs ys : List Sr) : List Sr := xs.flatMap fun e => ys.flatMap (thr e)
theorem thr_ok {φ ψ : PM} {e l x : Sr} (he : e.ok φ) (hl : l.ok ψ) (h : x ∈ thr e l) : x.ok (ψ ∘ φ) := by
  obtain ⟨h1, h2, h3, h4, h5, h6, h7⟩ := thr_mem he.sg hl.ne h
  refine ⟨h6, ?_, fun r a b => ?_⟩
  · rw [h4]
    rcases he.sg with p | p <;> rcases hl.sg with q | q <;> rw [p, q] <;> omega
  · obtain ⟨b1, b2, b3, b4⟩ := (h7 r).mp ⟨a, b⟩
    show ψ (φ (r, x.f)) = _
    rw [h2, he.ev r b1 b2, h1, hl.ev _ b3 b4, h3]
    simp only [Prod.mk.injEq, and_true]
    unfold Sr.img
    rw [h4, h5]
    rcases he.sg with p | p <;> rcases hl.sg with q | q <;> rw [p, q] <;> omega
theorem prt_join {F R : Int} {φ ψ : PM} {xs ys : List Sr} (hin : ∀ p, At F R p → At F R (φ p)) (hx : Prt F R φ xs) (hy : Prt F R ψ ys) : Prt F R (ψ ∘ φ) (joinL xs ys) := by
  have mem : ∀ x ∈ joinL xs ys, ∃ e ∈ xs, ∃ l ∈ ys, x ∈ thr e l := fun x h => by
    obtain ⟨e, he, h⟩ := List.mem_flatMap.mp h
    obtain ⟨l, hl, h⟩ := List.mem_flatMap.mp h
    exact ⟨e, he, l, hl, h⟩
  refine ⟨fun x h => ?_, fun x h => ?_, ?_, fun p hp => ?_⟩
  · obtain ⟨e, he, l, hl, h⟩ := mem x h
    exact thr_ok (hx.ok e he) (hy.ok l hl) h
  · obtain ⟨e, he, l, hl, h⟩ := mem x h
    obtain ⟨h1, h2, h3, h4, h5, h6, h7⟩ := thr_mem (hx.ok e he).sg (hy.ok l hl).ne h
    have i := hx.inn e he
    have a := (h7 x.lo).mp ⟨Int.le_refl _, h6⟩
    have b := (h7 x.hi).mp ⟨h6, Int.le_refl _⟩
    rw [h2]
    omega
  · unfold joinL
    rw [List.pairwise_flatMap]
    refine ⟨fun e he => ?_, hx.dj.imp_of_mem fun {a b} ha hb k x hx1 y hy1 p c d => ?_⟩
    · rw [List.pairwise_flatMap]
      refine ⟨fun l hl => ?_, hy.dj.imp_of_mem fun {a b} ha hb k x hx1 y hy1 p c d => ?_⟩
      · have := thr_len (e := e) (l := l)
        match hq : thr e l with
        | [] => exact List.Pairwise.nil
        | [u] => exact List.pairwise_singleton _ _
        | u :: v :: w => rw [hq] at this; simp at this
      · obtain ⟨h1, h2, h3, h4, h5, h6, h7⟩ := thr_mem (hx.ok e he).sg (hy.ok a ha).ne hx1
        obtain ⟨g1, g2, g3, g4, g5, g6, g7⟩ := thr_mem (hx.ok e he).sg (hy.ok b hb).ne hy1
        have u := (h7 p.1).mp ⟨c.2.1, c.2.2⟩
        have v := (g7 p.1).mp ⟨d.2.1, d.2.2⟩
        exact k (e.img p.1, e.to) ⟨h1, u.2.2.1, u.2.2.2⟩ ⟨g1, v.2.2.1, v.2.2.2⟩
    · obtain ⟨l, hl, hx1⟩ := List.mem_flatMap.mp hx1
      obtain ⟨m, hm, hy1⟩ := List.mem_flatMap.mp hy1
      obtain ⟨h1, h2, h3, h4, h5, h6, h7⟩ := thr_mem (hx.ok a ha).sg (hy.ok l hl).ne hx1
      obtain ⟨g1, g2, g3, g4, g5, g6, g7⟩ := thr_mem (hx.ok b hb).sg (hy.ok m hm).ne hy1
      have u := (h7 p.1).mp ⟨c.2.1, c.2.2⟩
      have v := (g7 p.1).mp ⟨d.2.1, d.2.2⟩
      exact k p ⟨by rw [c.1, h2], u.1, u.2.1⟩ ⟨by rw [d.1, g2], v.1, v.2.1⟩
  · obtain ⟨e, he, k1, k2, k3⟩ := hx.cov p hp
    have ev := (hx.ok e he).ev p.1 k2 k3
    have hq := hin p hp
    have ep : (p.1, e.f) = p := by rw [← k1]
    rw [ep] at ev
    rw [ev] at hq
    obtain ⟨l, hl, m1, m2, m3⟩ := hy.cov _ hq
    obtain ⟨x, h1, h2, h3, h4⟩ := thr_has (hx.ok e he).sg (r := p.1) m1 k2 k3 m2 m3
    exact ⟨x, List.mem_flatMap.mpr ⟨e, he, List.mem_flatMap.mpr ⟨l, hl, h1⟩⟩, by rw [h4]; exact k1, h2, h3⟩
theorem nodup_len {α : Type} [DecidableEq α] : ∀ {l m : List α}, l.Nodup → (∀ x ∈ l, x ∈ m) → l.length ≤ m.length
  | [], _, _, _ => Nat.zero_le _
  | x :: l, m, h, k => by
    rw [List.nodup_cons] at h
    have hx := k x (List.mem_cons_self ..)
    have := nodup_len (l := l) (m := m.erase x) h.2 fun y hy => by
      rw [List.mem_erase_of_ne (fun e => by subst e; exact h.1 hy)]
      exact k y (List.mem_cons_of_mem _ hy)
    rw [List.length_erase_of_mem hx] at this
    have := List.length_pos_of_mem hx
    rw [List.length_cons]
    omega
/-- there are not many -/
theorem join_len {F R : Int} {φ ψ : PM} {xs ys : List Sr} (hin : ∀ p, At F R p → At F R (φ p)) (inj : ∀ p q, At F R p → At F R q → φ p = φ q → p = q) (hx : Prt F R φ xs) (hy : Prt F R ψ ys) : (joinL xs ys).length ≤ xs.length + 2 * ys.length := by
  have P := prt_join hin hx hy
  have low : ∀ x ∈ joinL xs ys, At F R (x.lo, x.f) ∧ x.has (x.lo, x.f) := fun x h => by
    have i := P.inn x h
    have n := (P.ok x h).ne
    exact ⟨⟨i.2.2.1, by show x.lo < R; omega, i.1, i.2.1⟩, rfl, Int.le_refl _, n⟩
  have nd : ((joinL xs ys).map fun x => φ (x.lo, x.f)).Nodup := by
    unfold List.Nodup
    rw [List.pairwise_map]
    refine P.dj.imp_of_mem fun {a b} ha hb k e => ?_
    have := inj _ _ (low a ha).1 (low b hb).1 e
    exact k _ (low a ha).2 (this ▸ (low b hb).2)
  have sub : ∀ z ∈ (joinL xs ys).map fun x => φ (x.lo, x.f), z ∈ (xs.map fun e => φ (e.lo, e.f)) ++ ((ys.map fun l => (l.lo, l.f)) ++ ys.map fun l => (l.hi, l.f)) := fun z hz => by
    obtain ⟨x, h, rfl⟩ := List.mem_map.mp hz
    obtain ⟨e, he, h⟩ := List.mem_flatMap.mp h
    obtain ⟨l, hl, h⟩ := List.mem_flatMap.mp h
    have oe := hx.ok e he
    have ol := hy.ok l hl
    obtain ⟨h1, h2, h3, h4, h5, h6, h7⟩ := thr_mem oe.sg ol.ne h
    have a := (h7 x.lo).mp ⟨Int.le_refl _, h6⟩
    have b := mt (h7 (x.lo - 1)).mpr (by omega)
    by_cases q : x.lo = e.lo
    · exact List.mem_append_left _ (List.mem_map.mpr ⟨e, he, by rw [q, h2]⟩)
    · refine List.mem_append_right _ ?_
      rw [h2, oe.ev x.lo a.1 a.2.1, h1]
      have : e.img x.lo = l.lo ∨ e.img x.lo = l.hi := by
        unfold Sr.img at a b ⊢
        rcases oe.sg with p | p <;> rw [p] at a b ⊢ <;> omega
      rcases this with p | p
      · exact List.mem_append_left _ (List.mem_map.mpr ⟨l, hl, by rw [p]⟩)
      · exact List.mem_append_right _ (List.mem_map.mpr ⟨l, hl, by rw [p]⟩)
  have := nodup_len nd sub
  rw [List.length_map, List.length_append, List.length_append, List.length_map, List.length_map, List.length_map] at this
  omega
structure PrtF (R : Int) (φ : PM) (f : Int) (l : List Sr) : Prop where
  ok : ∀ s ∈ l, s.ok φ
  inn : ∀ s ∈ l, s.f = f ∧ 0 ≤ s.lo ∧ s.hi < R
  dj : l.Pairwise fun s t => ∀ p, s.has p → ¬ t.has p
  cov : ∀ r, 0 ≤ r → r < R → ∃ s ∈ l, s.has (r, f)
theorem prt_files {F R : Int} {φ : PM} {L : List (Int × List Sr)} (nd : (L.map (·.1)).Nodup) (hc : ∀ f, 0 ≤ f → f < F → f ∈ L.map (·.1)) (hf : ∀ x ∈ L, 0 ≤ x.1 ∧ x.1 < F ∧ PrtF R φ x.1 x.2) : Prt F R φ (L.flatMap (·.2)) := by
  refine ⟨fun s hs => ?_, fun s hs => ?_, ?_, fun p hp => ?_⟩
  · obtain ⟨x, hx, hs⟩ := List.mem_flatMap.mp hs
    exact (hf x hx).2.2.ok s hs
  · obtain ⟨x, hx, hs⟩ := List.mem_flatMap.mp hs
    obtain ⟨a, b, c⟩ := hf x hx
    obtain ⟨d, e, g⟩ := c.inn s hs
    exact ⟨by omega, by omega, e, g⟩
  · rw [List.pairwise_flatMap]
    refine ⟨fun x hx => (hf x hx).2.2.dj, ?_⟩
    unfold List.Nodup at nd
    rw [List.pairwise_map] at nd
    refine nd.imp_of_mem fun {a b} ha hb ne s hs t ht p h1 h2 => ne ?_
    rw [← ((hf a ha).2.2.inn s hs).1, ← ((hf b hb).2.2.inn t ht).1, ← h1.1, ← h2.1]
  · obtain ⟨x, hx, e⟩ := List.mem_map.mp (hc p.2 hp.2.2.1 hp.2.2.2)
    obtain ⟨s, hs, k⟩ := (hf x hx).2.2.cov p.1 hp.1 hp.2.1
    rw [e] at k
    exact ⟨s, List.mem_flatMap.mpr ⟨x, hx, hs⟩, k⟩
/-- rows by a rule -/
structure Kp where
  a : Int
  b : Int
  to : Int
  sg : Int
  sh : Int
def kinL (R f : Int) (k : Kp) : List Sr :=
  if (if 0 < k.a then k.a else 0) ≤ (if k.b < R - 1 then k.b else R - 1) then [⟨f, if 0 < k.a then k.a else 0, if k.b < R - 1 then k.b else R - 1, k.to, k.sg, k.sh⟩] else []
theorem kin_mem {R f : Int} {k : Kp} {s : Sr} (h : s ∈ kinL R f k) : s.f = f ∧ s.to = k.to ∧ s.sg = k.sg ∧ s.sh = k.sh ∧ s.lo ≤ s.hi ∧ 0 ≤ s.lo ∧ s.hi < R ∧ ∀ r, s.lo ≤ r ∧ r ≤ s.hi → (0 ≤ r ∧ r < R ∧ k.a ≤ r ∧ r ≤ k.b) := by
  unfold kinL at h
  by_cases z : (if 0 < k.a then k.a else 0) ≤ (if k.b < R - 1 then k.b else R - 1)
  · rw [if_pos z] at h
    rw [List.mem_singleton.mp h]
    refine ⟨rfl, rfl, rfl, rfl, z, ?_, ?_, fun r hr => ?_⟩
    · show 0 ≤ (if 0 < k.a then k.a else 0)
      split <;> omega
    · show (if k.b < R - 1 then k.b else R - 1) < R
      split <;> omega
    · have h1 : (if 0 < k.a then k.a else 0) ≤ r := hr.1
      have h2 : r ≤ (if k.b < R - 1 then k.b else R - 1) := hr.2
      split at h1 <;> split at h2 <;> omega
  · rw [if_neg z] at h
    cases h
theorem kin_has {R f : Int} {k : Kp} {r : Int} (h0 : 0 ≤ r) (h1 : r < R) (h2 : k.a ≤ r) (h3 : r ≤ k.b) : ∃ s ∈ kinL R f k, s.has (r, f) := by
  have e1 : (if 0 < k.a then k.a else 0) ≤ r := by split <;> omega
  have e2 : r ≤ (if k.b < R - 1 then k.b else R - 1) := by split <;> omega
  unfold kinL
  rw [if_pos (Int.le_trans e1 e2)]
  exact ⟨_, List.mem_singleton.mpr rfl, rfl, e1, e2⟩
theorem kin_len {R f : Int} {k : Kp} : (kinL R f k).length ≤ 1 := by
  unfold kinL
  by_cases z : (if 0 < k.a then k.a else 0) ≤ (if k.b < R - 1 then k.b else R - 1)
  · rw [if_pos z]
    exact Nat.le_refl _
  · rw [if_neg z]
    exact Nat.zero_le _
theorem kin_one {R f a b to sg sh : Int} (h0 : 0 ≤ a) (h1 : a ≤ b) (h2 : b ≤ R - 1) : kinL R f ⟨a, b, to, sg, sh⟩ = [⟨f, a, b, to, sg, sh⟩] := by
  unfold kinL
  have e1 : (if 0 < a then a else 0) = a := by split <;> omega
  have e2 : (if b < R - 1 then b else R - 1) = b := by split <;> omega
  simp only [e1, e2]
  rw [if_pos h1]
theorem prtF_kins {R f : Int} {φ : PM} {ks : List Kp} (h1 : ∀ k ∈ ks, (k.sg = 1 ∨ k.sg = -1) ∧ ∀ r, 0 ≤ r → r < R → k.a ≤ r → r ≤ k.b → φ (r, f) = (k.sg * r + k.sh, k.to))
    (h2 : ks.Pairwise fun k m => ∀ r, 0 ≤ r → r < R → k.a ≤ r → r ≤ k.b → m.a ≤ r → r ≤ m.b → False) (h3 : ∀ r, 0 ≤ r → r < R → ∃ k ∈ ks, k.a ≤ r ∧ r ≤ k.b) : PrtF R φ f (ks.flatMap (kinL R f)) := by
  refine ⟨fun s hs => ?_, fun s hs => ?_, ?_, fun r r0 r1 => ?_⟩
  · obtain ⟨k, hk, hs⟩ := List.mem_flatMap.mp hs
    obtain ⟨a1, a2, a3, a4, a5, a6, a7, a8⟩ := kin_mem hs
    obtain ⟨b1, b2⟩ := h1 k hk
    refine ⟨a5, by rw [a3]; exact b1, fun r c1 c2 => ?_⟩
    obtain ⟨d1, d2, d3, d4⟩ := a8 r ⟨c1, c2⟩
    rw [a1, b2 r d1 d2 d3 d4, a2]
    unfold Sr.img
    rw [a3, a4]
  · obtain ⟨k, hk, hs⟩ := List.mem_flatMap.mp hs
    obtain ⟨a1, a2, a3, a4, a5, a6, a7, a8⟩ := kin_mem hs
    exact ⟨a1, a6, a7⟩
  · rw [List.pairwise_flatMap]
    refine ⟨fun k hk => ?_, h2.imp_of_mem fun {a b} ha hb z s hs t ht p c d => ?_⟩
    · have := kin_len (R := R) (f := f) (k := k)
      match hq : kinL R f k with
      | [] => exact List.Pairwise.nil
      | [u] => exact List.pairwise_singleton _ _
      | u :: v :: w => rw [hq] at this; simp at this
    · obtain ⟨a1, a2, a3, a4, a5, a6, a7, a8⟩ := kin_mem hs
      obtain ⟨b1, b2, b3, b4, b5, b6, b7, b8⟩ := kin_mem ht
      obtain ⟨x1, x2, x3, x4⟩ := a8 p.1 c.2
      obtain ⟨y1, y2, y3, y4⟩ := b8 p.1 d.2
      exact z p.1 x1 x2 x3 x4 y3 y4
  · obtain ⟨k, hk, a, b⟩ := h3 r r0 r1
    obtain ⟨s, hs, h⟩ := kin_has (f := f) r0 r1 a b
    exact ⟨s, List.mem_flatMap.mpr ⟨k, hk, hs⟩, h⟩
def upsK (R f n : Int) : List Kp := if n = 0 then [⟨0, R - 1, f, 1, 0⟩] else [⟨0, n - 1, f, 1, R - n⟩, ⟨n, R - 1, f, 1, -n⟩]
def oneK (F R : Int) (c : Call) (f : Int) : List Kp := match c with
  | .all k => upsK R f (k % R)
  | .up g k => if f = g then upsK R f (k % R) else [⟨0, R - 1, f, 1, 0⟩]
  | .about => [⟨0, R - 1, F - 1 - f, -1, R - 1⟩]
  | .swap g h => if f ≠ g ∧ f ≠ h then [⟨0, R - 1, f, 1, 0⟩] else [⟨0, R - 1, if f = g then h else g, 1, 0⟩]
  | .front g h => if f ≠ g ∧ f ≠ h then [⟨0, R - 1, f, 1, 0⟩] else [⟨0, 0, if f = g then h else g, 1, 0⟩, ⟨1, R - 1, f, 1, 0⟩]
  | _ => [⟨0, R - 1, f, 1, 0⟩]
def whG (R g h n : Int) : List Kp := [⟨n, R - 1, g, 1, -n⟩, ⟨n - R, n - 1, h, -1, n - 1⟩, ⟨0, n - R - 1, g, 1, 2 * R - n⟩]
def whH (R g h n : Int) : List Kp := [⟨0, R - 1 - n, h, 1, n⟩, ⟨R - n, 2 * R - 1 - n, g, -1, 2 * R - 1 - n⟩, ⟨2 * R - n, R - 1, h, 1, n - 2 * R⟩]
def files (F : Int) : List Int := (List.range F.toNat).map fun (i : Nat) => (i : Int)
def byK (F R : Int) (c : Call) : List (Int × List Kp) := match c with
  | .wheel g h k => [(g, whG R g h (k % (2 * R))), (h, whH R g h (k % (2 * R)))] ++ ((files F).filter fun f => !(f == g || f == h)).map fun f => (f, [⟨0, R - 1, f, 1, 0⟩])
  | c => (files F).map fun f => (f, oneK F R c f)
def kinsL (R : Int) (x : Int × List Kp) : List Sr := x.2.flatMap (kinL R x.1)
def byL (F R : Int) (c : Call) : List Sr := (byK F R c).flatMap (kinsL R)
theorem mem_files {F f : Int} : f ∈ files F ↔ 0 ≤ f ∧ f < F := by
  unfold files
  rw [List.mem_map]
  constructor
  · rintro ⟨i, hi, rfl⟩
    have := List.mem_range.mp hi
    omega
  · rintro ⟨h0, h1⟩
    exact ⟨f.toNat, List.mem_range.mpr (by omega), by omega⟩
theorem files_nodup {F : Int} : (files F).Nodup := by
  unfold files List.Nodup
  rw [List.pairwise_map]
  exact List.nodup_range.imp fun h e => h (by omega)
theorem prtF_whole {R f to : Int} {φ : PM} {sg sh : Int} (hsg : sg = 1 ∨ sg = -1) (h : ∀ r, 0 ≤ r → r < R → φ (r, f) = (sg * r + sh, to)) : PrtF R φ f (kinsL R (f, [⟨0, R - 1, to, sg, sh⟩])) := by
  refine prtF_kins (fun k hk => ?_) (List.pairwise_singleton _ _) fun r r0 r1 => ⟨_, List.mem_singleton.mpr rfl, r0, by show r ≤ R - 1; omega⟩
  rw [List.mem_singleton.mp hk]
  exact ⟨hsg, fun r r0 r1 _ _ => h r r0 r1⟩
theorem em_lo {x m : Int} (h0 : 0 ≤ x) (h1 : x < m) : x % m = x := Int.emod_eq_of_lt h0 h1
theorem em_hi {x m : Int} (h0 : m ≤ x) (h1 : x < 2 * m) : x % m = x - m := by
  rw [← em_lo (x := x - m) (m := m) (by omega) (by omega), Int.sub_emod_right]
theorem em_neg {x m : Int} (h0 : -m ≤ x) (h1 : x < 0) : x % m = x + m := by
  rw [← em_lo (x := x + m) (m := m) (by omega) (by omega), Int.add_emod_right]
theorem prtF_ups {R f k : Int} {φ : PM} (hR : 0 < R) (h : ∀ r, 0 ≤ r → r < R → φ (r, f) = ((r - k) % R, f)) : PrtF R φ f (kinsL R (f, upsK R f (k % R))) := by
  have n0 := Int.emod_nonneg k (show R ≠ 0 by omega)
  have n1 := Int.emod_lt_of_pos k hR
  have e : ∀ r, (r - k) % R = (r - k % R) % R := fun r => by rw [Int.sub_emod_emod]
  generalize k % R = n at *
  unfold upsK
  split
  · rename_i z
    refine prtF_whole (.inl rfl) fun r r0 r1 => ?_
    rw [h r r0 r1, e, z, em_lo (by omega) (by omega)]
    simp only [Prod.mk.injEq, and_true]
    omega
  · rename_i z
    refine prtF_kins (fun x hx => ?_) ?_ fun r r0 r1 => ?_
    · simp only [List.mem_cons, List.not_mem_nil, or_false] at hx
      rcases hx with rfl | rfl
      · refine ⟨.inl rfl, fun r r0 r1 a b => ?_⟩
        have b : r ≤ n - 1 := b
        rw [h r r0 r1, e, em_neg (by omega) (by omega)]
        simp only [Prod.mk.injEq, and_true]
        omega
      · refine ⟨.inl rfl, fun r r0 r1 a b => ?_⟩
        have a : n ≤ r := a
        rw [h r r0 r1, e, em_lo (by omega) (by omega)]
        simp only [Prod.mk.injEq, and_true]
        omega
    · refine List.Pairwise.cons (fun y hy r r0 r1 a b c d => ?_) (List.pairwise_singleton _ _)
      rw [List.mem_singleton.mp hy] at c d
      have b : r ≤ n - 1 := b
      have c : n ≤ r := c
      omega
    · by_cases q : r < n
      · exact ⟨_, List.mem_cons_self .., r0, by show r ≤ n - 1; omega⟩
      · exact ⟨_, List.mem_cons_of_mem _ (List.mem_cons_self ..), by show n ≤ r; omega, by show r ≤ R - 1; omega⟩
theorem prtF_one {F R : Int} {c : Call} {f : Int} (hR : 0 < R) (ho : c.opn = false) (hw : ∀ g h k, c ≠ .wheel g h k) : PrtF R (mv F R c) f (kinsL R (f, oneK F R c f)) := by
  cases c with
  | all k => exact prtF_ups hR fun r _ _ => rfl
  | up g k =>
    unfold oneK
    simp only
    split
    · rename_i z
      exact prtF_ups hR fun r _ _ => by simp only [mv]; rw [if_pos z]
    · rename_i z
      refine prtF_whole (.inl rfl) fun r _ _ => ?_
      simp only [mv]
      rw [if_neg z]
      simp only [Prod.mk.injEq, and_true]
      omega
  | about =>
    refine prtF_whole (.inr rfl) fun r _ _ => ?_
    simp only [mv, Prod.mk.injEq, and_true]
    omega
  | swap g h =>
    unfold oneK
    simp only
    split
    · rename_i z
      refine prtF_whole (.inl rfl) fun r _ _ => ?_
      simp only [mv]
      rw [if_pos z]
      simp only [Prod.mk.injEq, and_true]
      omega
    · rename_i z
      refine prtF_whole (.inl rfl) fun r _ _ => ?_
      simp only [mv]
      rw [if_neg z]
      simp only [Prod.mk.injEq, and_true]
      omega
  | front g h =>
    unfold oneK
    simp only
    split
    · rename_i z
      refine prtF_whole (.inl rfl) fun r _ _ => ?_
      simp only [mv]
      rw [if_pos (.inl z)]
      simp only [Prod.mk.injEq, and_true]
      omega
    · rename_i z
      refine prtF_kins (fun x hx => ?_) ?_ fun r r0 r1 => ?_
      · simp only [List.mem_cons, List.not_mem_nil, or_false] at hx
        rcases hx with rfl | rfl
        · refine ⟨.inl rfl, fun r r0 r1 a b => ?_⟩
          have b : r ≤ 0 := b
          simp only [mv]
          rw [if_neg (by omega)]
          simp only [Prod.mk.injEq, and_true]
          omega
        · refine ⟨.inl rfl, fun r r0 r1 a b => ?_⟩
          have a : 1 ≤ r := a
          simp only [mv]
          rw [if_pos (.inr (by omega))]
          simp only [Prod.mk.injEq, and_true]
          omega
      · refine List.Pairwise.cons (fun y hy r r0 r1 a b c d => ?_) (List.pairwise_singleton _ _)
        rw [List.mem_singleton.mp hy] at c d
        have b : r ≤ 0 := b
        have c : 1 ≤ r := c
        omega
      · by_cases q : r < 1
        · exact ⟨_, List.mem_cons_self .., r0, by show r ≤ 0; omega⟩
        · exact ⟨_, List.mem_cons_of_mem _ (List.mem_cons_self ..), by show 1 ≤ r; omega, by show r ≤ R - 1; omega⟩
  | wheel g h k => exact (hw g h k rfl).elim
  | halve => cases ho
  | pair => cases ho
  | others => cases ho
  | fill => cases ho
theorem prtF_whG {F R g h k : Int} (hR : 0 < R) (hgh : g ≠ h) : PrtF R (mv F R (.wheel g h k)) g (kinsL R (g, whG R g h (k % (2 * R)))) := by
  have n0 := Int.emod_nonneg k (show 2 * R ≠ 0 by omega)
  have n1 := Int.emod_lt_of_pos k (show 0 < 2 * R by omega)
  have e : ∀ r, (r + k) % (2 * R) = (r + k % (2 * R)) % (2 * R) := fun r => by rw [Int.add_emod_emod]
  have ev : ∀ r, mv F R (.wheel g h k) (r, g) = (let s := (R - 1 - r + k % (2 * R)) % (2 * R); if s < R then (R - 1 - s, g) else (s - R, h)) := fun r => by
    simp only [mv, whl]
    rw [if_neg (by omega)]
    simp only [if_true]
    rw [e]
  generalize k % (2 * R) = n at *
  refine prtF_kins (fun x hx => ?_) ?_ fun r r0 r1 => ?_
  · simp only [whG, List.mem_cons, List.not_mem_nil, or_false] at hx
    rcases hx with rfl | rfl | rfl
    · refine ⟨.inl rfl, fun r r0 r1 a b => ?_⟩
      have a : n ≤ r := a
      rw [ev]
      simp only
      rw [em_lo (by omega) (by omega), if_pos (by omega)]
      simp only [Prod.mk.injEq, and_true]
      omega
    · refine ⟨.inr rfl, fun r r0 r1 a b => ?_⟩
      have a : n - R ≤ r := a
      have b : r ≤ n - 1 := b
      rw [ev]
      simp only
      rw [em_lo (by omega) (by omega), if_neg (by omega)]
      simp only [Prod.mk.injEq, and_true]
      omega
    · refine ⟨.inl rfl, fun r r0 r1 a b => ?_⟩
      have b : r ≤ n - R - 1 := b
      rw [ev]
      simp only
      rw [em_hi (by omega) (by omega), if_pos (by omega)]
      simp only [Prod.mk.injEq, and_true]
      omega
  · unfold whG
    refine List.Pairwise.cons (fun y hy r r0 r1 a b c d => ?_) (List.Pairwise.cons (fun y hy r r0 r1 a b c d => ?_) (List.pairwise_singleton _ _))
    · have a : n ≤ r := a
      simp only [List.mem_cons, List.not_mem_nil, or_false] at hy
      rcases hy with rfl | rfl <;> simp only at c d <;> omega
    · have a : n - R ≤ r := a
      rw [List.mem_singleton.mp hy] at c d
      simp only at c d
      omega
  · unfold whG
    by_cases q : n ≤ r
    · exact ⟨_, List.mem_cons_self .., q, by show r ≤ R - 1; omega⟩
    · by_cases q2 : n - R ≤ r
      · exact ⟨_, List.mem_cons_of_mem _ (List.mem_cons_self ..), q2, by show r ≤ n - 1; omega⟩
      · exact ⟨_, List.mem_cons_of_mem _ (List.mem_cons_of_mem _ (List.mem_cons_self ..)), r0, by show r ≤ n - R - 1; omega⟩
theorem prtF_whH {F R g h k : Int} (hR : 0 < R) (hgh : g ≠ h) : PrtF R (mv F R (.wheel g h k)) h (kinsL R (h, whH R g h (k % (2 * R)))) := by
  have n0 := Int.emod_nonneg k (show 2 * R ≠ 0 by omega)
  have n1 := Int.emod_lt_of_pos k (show 0 < 2 * R by omega)
  have e : ∀ r, (r + k) % (2 * R) = (r + k % (2 * R)) % (2 * R) := fun r => by rw [Int.add_emod_emod]
  have ev : ∀ r, mv F R (.wheel g h k) (r, h) = (let s := (R + r + k % (2 * R)) % (2 * R); if s < R then (R - 1 - s, g) else (s - R, h)) := fun r => by
    simp only [mv, whl]
    rw [if_neg (by omega), if_neg (show ¬ h = g by omega)]
    rw [e]
  generalize k % (2 * R) = n at *
  refine prtF_kins (fun x hx => ?_) ?_ fun r r0 r1 => ?_
  · simp only [whH, List.mem_cons, List.not_mem_nil, or_false] at hx
    rcases hx with rfl | rfl | rfl
    · refine ⟨.inl rfl, fun r r0 r1 a b => ?_⟩
      have b : r ≤ R - 1 - n := b
      rw [ev]
      simp only
      rw [em_lo (by omega) (by omega), if_neg (by omega)]
      simp only [Prod.mk.injEq, and_true]
      omega
    · refine ⟨.inr rfl, fun r r0 r1 a b => ?_⟩
      have a : R - n ≤ r := a
      have b : r ≤ 2 * R - 1 - n := b
      rw [ev]
      simp only
      rw [em_hi (by omega) (by omega), if_pos (by omega)]
      simp only [Prod.mk.injEq, and_true]
      omega
    · refine ⟨.inl rfl, fun r r0 r1 a b => ?_⟩
      have a : 2 * R - n ≤ r := a
      rw [ev]
      simp only
      rw [em_hi (by omega) (by omega), if_neg (by omega)]
      simp only [Prod.mk.injEq, and_true]
      omega
  · unfold whH
    refine List.Pairwise.cons (fun y hy r r0 r1 a b c d => ?_) (List.Pairwise.cons (fun y hy r r0 r1 a b c d => ?_) (List.pairwise_singleton _ _))
    · have b : r ≤ R - 1 - n := b
      simp only [List.mem_cons, List.not_mem_nil, or_false] at hy
      rcases hy with rfl | rfl <;> simp only at c d <;> omega
    · have b : r ≤ 2 * R - 1 - n := b
      rw [List.mem_singleton.mp hy] at c d
      simp only at c d
      omega
  · unfold whH
    by_cases q : r ≤ R - 1 - n
    · exact ⟨_, List.mem_cons_self .., r0, q⟩
    · by_cases q2 : r ≤ 2 * R - 1 - n
      · exact ⟨_, List.mem_cons_of_mem _ (List.mem_cons_self ..), by show R - n ≤ r; omega, q2⟩
      · exact ⟨_, List.mem_cons_of_mem _ (List.mem_cons_of_mem _ (List.mem_cons_self ..)), by show 2 * R - n ≤ r; omega, by show r ≤ R - 1; omega⟩
theorem prt_pairs {F R : Int} {φ : PM} {L : List (Int × List Kp)} (nd : (L.map (·.1)).Nodup) (hc : ∀ f, 0 ≤ f → f < F → f ∈ L.map (·.1)) (hf : ∀ x ∈ L, 0 ≤ x.1 ∧ x.1 < F ∧ PrtF R φ x.1 (kinsL R x)) : Prt F R φ (L.flatMap (kinsL R)) := by
  have e : L.flatMap (kinsL R) = (L.map fun x => (x.1, kinsL R x)).flatMap (·.2) := by rw [List.flatMap_map]
  rw [e]
  refine prt_files ?_ (fun f h0 h1 => ?_) fun x hx => ?_
  · rw [List.map_map]
    exact nd
  · rw [List.map_map]
    exact hc f h0 h1
  · obtain ⟨y, hy, rfl⟩ := List.mem_map.mp hx
    exact hf y hy
theorem prt_by {F R : Int} {c : Call} (hR : 0 < R) (hc : c.ok F) (ho : c.opn = false) : Prt F R (mv F R c) (byL F R c) := by
  have plain : (∀ g h k, c ≠ .wheel g h k) → Prt F R (mv F R c) (((files F).map fun f => (f, oneK F R c f)).flatMap (kinsL R)) := fun hw => by
    have em : ((files F).map fun f => (f, oneK F R c f)).map (·.1) = files F := by
      rw [List.map_map]
      exact List.map_id _
    refine prt_pairs (by rw [em]; exact files_nodup) (fun f h0 h1 => by rw [em]; exact mem_files.mpr ⟨h0, h1⟩) fun x hx => ?_
    obtain ⟨f, hf, rfl⟩ := List.mem_map.mp hx
    obtain ⟨f0, f1⟩ := mem_files.mp hf
    exact ⟨f0, f1, prtF_one hR ho hw⟩
  cases c with
  | wheel g h k =>
    obtain ⟨g0, g1, h0, h1, hgh⟩ := (show Two F g h from hc)
    unfold byL byK
    refine prt_pairs ?_ (fun f f0 f1 => ?_) fun x hx => ?_
    · rw [List.map_append, List.map_map]
      show (g :: h :: List.map _ _).Nodup
      have em : (((files F).filter fun f => !(f == g || f == h)).map ((fun x : Int × List Kp => x.1) ∘ fun f => (f, [⟨0, R - 1, f, 1, 0⟩]))) = (files F).filter fun f => !(f == g || f == h) := List.map_id _
      rw [em]
      have nd := (files_nodup (F := F)).filter fun f => !(f == g || f == h)
      rw [List.nodup_cons, List.nodup_cons]
      refine ⟨fun z => ?_, fun z => ?_, nd⟩
      · rcases List.mem_cons.mp z with z | z
        · exact hgh z
        · have := (List.mem_filter.mp z).2
          simp at this
      · have := (List.mem_filter.mp z).2
        simp at this
    · by_cases q1 : f = g
      · subst q1; exact List.mem_map.mpr ⟨_, List.mem_append_left _ (List.mem_cons_self ..), rfl⟩
      · by_cases q2 : f = h
        · subst q2; exact List.mem_map.mpr ⟨_, List.mem_append_left _ (List.mem_cons_of_mem _ (List.mem_cons_self ..)), rfl⟩
        · exact List.mem_map.mpr ⟨_, List.mem_append_right _ (List.mem_map.mpr ⟨f, List.mem_filter.mpr ⟨mem_files.mpr ⟨f0, f1⟩, by simp [q1, q2]⟩, rfl⟩), rfl⟩
    · rcases List.mem_append.mp hx with hx | hx
      · simp only [List.mem_cons, List.not_mem_nil, or_false] at hx
        rcases hx with rfl | rfl
        · exact ⟨g0, g1, prtF_whG hR hgh⟩
        · exact ⟨h0, h1, prtF_whH hR hgh⟩
      · obtain ⟨f, hf, rfl⟩ := List.mem_map.mp hx
        obtain ⟨hf, q⟩ := List.mem_filter.mp hf
        obtain ⟨f0, f1⟩ := mem_files.mp hf
        simp at q
        refine ⟨f0, f1, prtF_whole (.inl rfl) fun r _ _ => ?_⟩
        simp only [mv, whl]
        rw [if_pos q]
        simp only [Prod.mk.injEq, and_true]
        omega
  | all k => exact plain fun _ _ _ z => nomatch z
  | up g k => exact plain fun _ _ _ z => nomatch z
  | swap g h => exact plain fun _ _ _ z => nomatch z
  | about => exact plain fun _ _ _ z => nomatch z
  | front g h => exact plain fun _ _ _ z => nomatch z
  | halve => cases ho
  | pair => cases ho
  | others => cases ho
  | fill => cases ho
theorem len_flat {α β : Type} {g : α → List β} {n : Nat} : ∀ {l : List α}, (∀ x ∈ l, (g x).length ≤ n) → (l.flatMap g).length ≤ l.length * n
  | [], _ => by simp
  | x :: l, h => by
    have a := h x (List.mem_cons_self ..)
    have b := len_flat (g := g) (n := n) (l := l) fun y hy => h y (List.mem_cons_of_mem _ hy)
    rw [List.flatMap_cons, List.length_append, List.length_cons, Nat.succ_mul]
    omega
theorem kins_len {R : Int} {x : Int × List Kp} : (kinsL R x).length ≤ x.2.length := by
  have := len_flat (g := kinL R x.1) (n := 1) (l := x.2) fun _ _ => kin_len
  rw [Nat.mul_one] at this
  exact this
theorem oneK_len {F R : Int} {c : Call} {f : Int} : (oneK F R c f).length ≤ 2 := by
  unfold oneK
  split <;> (try unfold upsK) <;> (try split) <;> (try split) <;> simp
theorem files_len {F : Int} : (files F).length = F.toNat := by
  unfold files
  rw [List.length_map, List.length_range]
theorem byL_len {F R : Int} {c : Call} (hF : F ≤ 3) : (byL F R c).length ≤ 9 := by
  have plain : (((files F).map fun f => (f, oneK F R c f)).flatMap (kinsL R)).length ≤ 9 := by
    have := len_flat (g := kinsL R) (n := 2) (l := (files F).map fun f => (f, oneK F R c f)) fun x hx => by
      obtain ⟨f, _, rfl⟩ := List.mem_map.mp hx
      exact Nat.le_trans kins_len oneK_len
    rw [List.length_map, files_len] at this
    omega
  cases c with
  | wheel g h k =>
    unfold byL byK
    rw [List.flatMap_append, List.length_append]
    have a := kins_len (R := R) (x := (g, whG R g h (k % (2 * R))))
    have b := kins_len (R := R) (x := (h, whH R g h (k % (2 * R))))
    have d := len_flat (g := kinsL R) (n := 1) (l := ((files F).filter fun f => !(f == g || f == h)).map fun f => (f, [⟨0, R - 1, f, 1, 0⟩])) fun x hx => by
      obtain ⟨f, _, rfl⟩ := List.mem_map.mp hx
      exact kins_len
    have e := List.length_filter_le (fun f => !(f == g || f == h)) (files F)
    rw [List.length_map] at d
    rw [files_len] at e
    rw [List.flatMap_cons, List.flatMap_cons, List.flatMap_nil, List.length_append, List.length_append, List.length_nil]
    unfold whG at a
    unfold whH at b
    simp only [List.length_cons, List.length_nil] at a b
    unfold whG whH
    omega
  | _ => exact plain
theorem prt_id {F R : Int} (hR : 0 < R) : Prt F R id ((files F).map fun f => ⟨f, 0, R - 1, f, 1, 0⟩) := by
  have e : ((files F).map fun f => (⟨f, 0, R - 1, f, 1, 0⟩ : Sr)) = ((files F).map fun f => (f, [(⟨0, R - 1, f, 1, 0⟩ : Kp)])).flatMap (kinsL R) := by
    rw [List.flatMap_map]
    have : ∀ f, kinsL R (f, [(⟨0, R - 1, f, 1, 0⟩ : Kp)]) = [⟨f, 0, R - 1, f, 1, 0⟩] := fun f => by
      unfold kinsL
      rw [List.flatMap_cons, List.flatMap_nil, List.append_nil, kin_one (by omega) (by omega) (by omega)]
    rw [show (fun a => kinsL R (a, [(⟨0, R - 1, a, 1, 0⟩ : Kp)])) = fun f => [⟨f, 0, R - 1, f, 1, 0⟩] from funext this]
    induction files F with
    | nil => rfl
    | cons x l ih => rw [List.map_cons, List.flatMap_cons, ih]; rfl
  rw [e]
  have em : ((files F).map fun f => (f, [(⟨0, R - 1, f, 1, 0⟩ : Kp)])).map (·.1) = files F := by
    rw [List.map_map]
    exact List.map_id _
  refine prt_pairs (by rw [em]; exact files_nodup) (fun f h0 h1 => by rw [em]; exact mem_files.mpr ⟨h0, h1⟩) fun x hx => ?_
  obtain ⟨f, hf, rfl⟩ := List.mem_map.mp hx
  obtain ⟨f0, f1⟩ := mem_files.mp hf
  refine ⟨f0, f1, prtF_whole (.inl rfl) fun r _ _ => ?_⟩
  show (r, f) = _
  simp only [Prod.mk.injEq, and_true]
  omega
local macro_rules | `(tactic| walk_at "rSr_w") => `(tactic| simp (decide := true) only [bodyI, start0, sSeq, sNext, sNever, sCont, sBreak, sDrop, sRet, sRetN, sRet0, sRetO, sIf, sSet, sSetN, sSetP, sPar, sParEN, sParNE, sPar3, sAsg, gNm, gsNil, gsCons, gTp, sAugI, sIxO, sIxS, sAugS, stoL, setW, iVar, iC, iNil, iCons, iTup, iLst, nLst, iFz, iB, gAdd, gI, gIC, gSub, gMul, gDiv, gMod, gPow, gLt, gLe, gGt, gGe, gEq, gNe, gIn, gIsN, isN, iNeg, tTru', gTru, tBl, iChain, tAnd', tOr', tNot', tYes', iIf, iAnd, iOr, iNot, iIx, gIx, atW, iIxO, ownL, oNone, oSome, iSl, gSl, iRevL, iCall, nCall, iFn, Stt.put, Stt.puts, iMtO, gAppend, gInsert, gExtend, gLen, iLenO, gAbs, gInt, gMinMax, gList, gTuple, iListRg, gIsi, tyN, gRepr, cut_13, cut_1_2, cut_1_3, cut_m2, cut_m3, cut_m4, atI_m2, atI_m3, atI_m4, iOfT, tKdIn, iKdIx, atI_0, atI_1, atI_2, atI_3, ixN_4_0, ixN_4_1, ixN_4_2, ixN_4_3, Sto.put_same, Sto.put_put, toNat_2, List.map, List.replicate, List.length_cons, List.length_nil, List.getElem?_cons_zero, List.getElem?_cons_succ, List.getElem?_nil, List.set_cons_zero, List.set_cons_succ, List.set_nil, List.cons_append, List.nil_append, List.append_nil, if_true, if_false, fz_val, fz_new, so_lst, so_dct, so_ins, eqW_ii, eqW_ss, eqW_tt, eqW_ll, eqW_nn, eqW_bb, eqW_ni, eqW_in, eqW_nt, eqW_tn, eqW_nl, eqW_ln, eqW_is, eqW_si, eqWs_nil, eqWs_cons, eqWs_nc, eqWs_cn, okD_int, okD_str, okD_bl, okD_non, okD_tup, okD_lst, eqOk_ii, eqOk_ss, eqOk_nn, eqOk_bb, eqOk_in, eqOk_ni, eqOk_tt, eqOk_ll, flatW_int, flatW_str, flatW_bl, flatW_non, inW, List.any_cons, List.any_nil, List.all_cons, List.all_nil, Bool.or_false, Bool.or_true, Bool.true_or, Bool.false_or, Bool.and_true, Bool.true_and, Bool.and_false, Bool.false_and, Bool.not_true, Bool.not_false, Bool.false_eq_true, true_and, and_true, beq_self_eq_true, List.isEmpty_cons, List.isEmpty_nil, Int.reduceNeg, eq_self, forall_const, iFld, objOf, iProp, iMeth, nMake, iInv, iMulM, iLenM, iIsi, sAtt, iRevT, lIter, nRep, lEnum, lZip, iEqM, gOwn, iDGet2, iAddO, nDisp, nDNew, iPairs, keysW, keyW, nFn, gListN, nListRg, iTupRg, nIf, sParM, iItems, putsR, Sh.R.slot, gIsB, isB, iPeek, tPeek, iPeekS, Stt.ps, noOwn, gInD, nPeek, Stt.pk, frzS, plainW, plainWs, tyS, tyIn, cOk, isAny, isOne, Option.map_some, lk_ne, List.lookup_nil, putW, lk_self, iXf, iIsE, Hnd.w, sRaise1, sRaise0, sTryE, gMax3, gEqN, gReprN, iIdxT, iIdxL, iInRg, nListM, iBR, iFnR, iPub, iMtR, drW, drWs, nOwn, nMeth, nSl, nAdd, nAddO, iMtN, sAugL, gSortedG, tTruO, refW_tup, refW_lst, refW_dct, refW_int, refW_str, refW_bl, refW_non, Sr.w])
local macro_rules | `(tactic| walk_at "rsFor_lSeq_nLc_gItems") => `(tactic| simp (decide := true) only [bodyI, start0, sSeq, sNext, sNever, sCont, sBreak, sDrop, sRet, sRetN, sRet0, sRetO, sIf, sSet, sSetN, sSetP, sPar, sParEN, sParNE, sPar3, sAsg, gNm, gsNil, gsCons, gTp, sAugI, sIxO, sIxS, sAugS, stoL, setW, iVar, iC, iNil, iCons, iTup, iLst, nLst, iFz, iB, gAdd, gI, gIC, gSub, gMul, gDiv, gMod, gPow, gLt, gLe, gGt, gGe, gEq, gNe, gIn, gIsN, isN, iNeg, tTru', gTru, tBl, iChain, tAnd', tOr', tNot', tYes', iIf, iAnd, iOr, iNot, iIx, gIx, atW, iIxO, ownL, oNone, oSome, iSl, gSl, iRevL, iCall, nCall, iFn, Stt.put, Stt.puts, iMtO, gAppend, gInsert, gExtend, gLen, iLenO, gAbs, gInt, gMinMax, gList, gTuple, iListRg, gIsi, tyN, gRepr, cut_13, cut_1_2, cut_1_3, cut_m2, cut_m3, cut_m4, atI_m2, atI_m3, atI_m4, iOfT, tKdIn, iKdIx, atI_0, atI_1, atI_2, atI_3, ixN_4_0, ixN_4_1, ixN_4_2, ixN_4_3, Sto.put_same, Sto.put_put, toNat_2, List.map, List.replicate, List.length_cons, List.length_nil, List.getElem?_cons_zero, List.getElem?_cons_succ, List.getElem?_nil, List.set_cons_zero, List.set_cons_succ, List.set_nil, List.cons_append, List.nil_append, List.append_nil, if_true, if_false, fz_val, fz_new, so_lst, so_dct, so_ins, eqW_ii, eqW_ss, eqW_tt, eqW_ll, eqW_nn, eqW_bb, eqW_ni, eqW_in, eqW_nt, eqW_tn, eqW_nl, eqW_ln, eqW_is, eqW_si, eqWs_nil, eqWs_cons, eqWs_nc, eqWs_cn, okD_int, okD_str, okD_bl, okD_non, okD_tup, okD_lst, eqOk_ii, eqOk_ss, eqOk_nn, eqOk_bb, eqOk_in, eqOk_ni, eqOk_tt, eqOk_ll, flatW_int, flatW_str, flatW_bl, flatW_non, inW, List.any_cons, List.any_nil, List.all_cons, List.all_nil, Bool.or_false, Bool.or_true, Bool.true_or, Bool.false_or, Bool.and_true, Bool.true_and, Bool.and_false, Bool.false_and, Bool.not_true, Bool.not_false, Bool.false_eq_true, true_and, and_true, beq_self_eq_true, List.isEmpty_cons, List.isEmpty_nil, Int.reduceNeg, eq_self, forall_const, iFld, objOf, iProp, iMeth, nMake, iInv, iMulM, iLenM, iIsi, sAtt, iRevT, lIter, nRep, lEnum, lZip, iEqM, gOwn, iDGet2, iAddO, nDisp, nDNew, iPairs, keysW, keyW, nFn, gListN, nListRg, iTupRg, nIf, sParM, iItems, putsR, Sh.R.slot, gIsB, isB, iPeek, tPeek, iPeekS, Stt.ps, noOwn, gInD, nPeek, Stt.pk, frzS, plainW, plainWs, tyS, tyIn, cOk, isAny, isOne, Option.map_some, lk_ne, List.lookup_nil, putW, lk_self, iXf, iIsE, Hnd.w, sRaise1, sRaise0, sTryE, gMax3, gEqN, gReprN, iIdxT, iIdxL, iInRg, nListM, iBR, iFnR, iPub, iMtR, drW, drWs, nOwn, nMeth, nSl, nAdd, nAddO, iMtN, sAugL, gSortedG, tTruO, refW_tup, refW_lst, refW_dct, refW_int, refW_str, refW_bl, refW_non, sFor, lSeq, nLc, gItems])
theorem atI_4 {α : Type} {a b c d e : α} {xs : List α} : atI (a :: b :: c :: d :: e :: xs) 4 = some e := by
  unfold atI ixN
  rw [if_pos (by omega), if_pos (by simp only [List.length_cons]; omega)]
  rfl
theorem atI_5 {α : Type} {a b c d e f : α} {xs : List α} : atI (a :: b :: c :: d :: e :: f :: xs) 5 = some f := by
  unfold atI ixN
  rw [if_pos (by omega), if_pos (by simp only [List.length_cons]; omega)]
  rfl
theorem cut6_4 {α : Type} {a b c d e f : α} : cutW [a, b, c, d, e, f] none (some 4) = [a, b, c, d] := rfl
theorem two_sorted {x y : Int} {ns : List Int} (pm : ns.Perm [x, y]) (pw : ns.Pairwise (· ≤ ·)) : ns = [if x ≤ y then x else y, if x ≤ y then y else x] := by
  have e2 : [if x ≤ y then x else y, if x ≤ y then y else x].Perm [x, y] := by
    by_cases h : x ≤ y
    · rw [if_pos h, if_pos h]
    · rw [if_neg h, if_neg h]
      exact List.Perm.swap ..
  exact List.Perm.eq_of_pairwise (le := (· ≤ ·)) (fun _ _ _ _ h k => Int.le_antisymm h k) pw (by
    refine List.Pairwise.cons (fun z hz => ?_) (List.pairwise_singleton _ _)
    rw [List.mem_singleton.mp hz]
    split <;> omega) (pm.trans e2.symm)
theorem sgm {s r : Int} (h : s = 1 ∨ s = -1) : MulOk s r := small_l (by omega) (by omega)
def ib_p_image : IS := (sRet (iB gAdd (iB gMul (iIx (iVar 0) (iC (.int 4))) (iVar 1)) (iIx (iVar 0) (iC (.int 5)))))
def sp_p_image : ISp := fun ws S Q E => ∃ (s : Sr) (r : Int), ws = [s.w, .int r] ∧ (s.sg = 1 ∨ s.sg = -1) ∧ Q (.val (.int (s.img r))) S
theorem ok_p_image (ws : List W) (S : Sto) (Q : R → Sto → Prop) (E : Exn → Sto → Prop) (h : sp_p_image ws S Q E) : bodyI 2 ib_p_image ws S Q E := by
  obtain ⟨s, r, rfl, hs, q⟩ := h
  unfold ib_p_image
  simp! only [Sr.w, atI_4, atI_5]
  exact ⟨sgm hs, q⟩
def ib_p_through : IS := (sSeq (sAsg (iVar 0) (gTp 6 (gsCons (gNm 2) (gsCons (gNm 3) (gsCons (gNm 4) (gsCons (gNm 5) (gsCons (gNm 6) (gsCons (gNm 7) gsNil))))))))
  (sSeq (sSet 8 (iFn gSorted (iCons (iLst (iCons (iB gMul (iVar 6) (iB gSub (iIx (iVar 1) (iC (.int 1))) (iVar 7))) (iCons (iB gMul (iVar 6) (iB gSub (iIx (iVar 1) (iC (.int 2))) (iVar 7))) iNil))) iNil)))
  (sSeq (sPar 9 10 (iFn (gMinMax (fun i j => if i < j then j else i)) (iCons (iVar 3) (iCons (iIx (iVar 8) (iC (.int 0))) iNil))) (iFn (gMinMax (fun i j => if j < i then j else i)) (iCons (iVar 4) (iCons (iIx (iVar 8) (iC (.int 1))) iNil))))
  (sSeq (sIf (tOr' (tBl (iB gNe (iVar 5) (iIx (iVar 1) (iC (.int 0))))) (tBl (iB gGt (iVar 9) (iVar 10)))) (sRet (iLst iNil)) sNext)
  (sRet (iLst (iCons (iTup (iCons (iVar 2) (iCons (iVar 9) (iCons (iVar 10) (iCons (iIx (iVar 1) (iC (.int 3))) (iCons (iB gMul (iVar 6) (iIx (iVar 1) (iC (.int 4)))) (iCons (iB gAdd (iB gMul (iIx (iVar 1) (iC (.int 4))) (iVar 7)) (iIx (iVar 1) (iC (.int 5)))) iNil))))))) iNil)))))))
def ib_p_plain : IS := (sSeq (sIf (tBl (iB gLt (iIx (iVar 0) (iC (.int 1))) (iIx (iVar 0) (iC (.int 2))))) (sRet (iVar 0)) sNext)
  (sRet (iB gAdd (iSl (iVar 0) oNone (oSome (iC (.int 4)))) (iTup (iCons (iC (.int 1)) (iCons (iB gSub (iCall sp_p_image (iCons (iVar 0) (iCons (iIx (iVar 0) (iC (.int 1))) iNil))) (iIx (iVar 0) (iC (.int 1)))) iNil))))))
def ib_p_merged : IS := (sSeq (sIf (tOr' (tBl (iB gNe (iIx (iVar 0) (iC (.int 0))) (iIx (iVar 1) (iC (.int 0))))) (tBl (iB gNe (iIx (iVar 0) (iC (.int 3))) (iIx (iVar 1) (iC (.int 3)))))) (sRet (iC .non)) sNext)
  (sSeq (sSet 2 (iB gSub (iCall sp_p_image (iCons (iVar 1) (iCons (iIx (iVar 1) (iC (.int 1))) iNil))) (iCall sp_p_image (iCons (iVar 0) (iCons (iIx (iVar 0) (iC (.int 2))) iNil)))))
  (sSeq (sIf (tBl (iB (gIn true) (iVar 2) (iTup (iCons (iC (.int 1)) (iCons (iNeg (iC (.int 1))) iNil))))) (sRet (iC .non)) sNext)
  (sSeq (sIf (tOr' (tAnd' (tBl (iB gLt (iIx (iVar 0) (iC (.int 1))) (iIx (iVar 0) (iC (.int 2))))) (tBl (iB gNe (iIx (iVar 0) (iC (.int 4))) (iVar 2)))) (tAnd' (tBl (iB gLt (iIx (iVar 1) (iC (.int 1))) (iIx (iVar 1) (iC (.int 2))))) (tBl (iB gNe (iIx (iVar 1) (iC (.int 4))) (iVar 2))))) (sRet (iC .non)) sNext)
  (sRet (iTup (iCons (iIx (iVar 0) (iC (.int 0))) (iCons (iIx (iVar 0) (iC (.int 1))) (iCons (iIx (iVar 1) (iC (.int 2))) (iCons (iIx (iVar 0) (iC (.int 3))) (iCons (iVar 2) (iCons (iB gSub (iCall sp_p_image (iCons (iVar 0) (iCons (iIx (iVar 0) (iC (.int 1))) iNil))) (iB gMul (iVar 2) (iIx (iVar 0) (iC (.int 1))))) iNil))))))))))))
def sp_p_plain : ISp := fun ws S Q E => ∃ (s : Sr), ws = [s.w] ∧ (s.sg = 1 ∨ s.sg = -1) ∧ Q (.val s.plain.w) S
theorem ok_p_plain (ws : List W) (S : Sto) (Q : R → Sto → Prop) (E : Exn → Sto → Prop) (h : sp_p_plain ws S Q E) : bodyI 1 ib_p_plain ws S Q E := by
  obtain ⟨s, rfl, hs, q⟩ := h
  unfold ib_p_plain
  refine seq_go fun nx e => ?_
  walk_at "rSr_w"
  unfold Sr.plain at q
  refine ifb (fun z => ?_) (fun z => ?_)
  · rw [if_pos (of_decide_eq_true z)] at q
    exact q
  · rw [if_neg (of_decide_eq_false z)] at q
    subst e
    simp! only [Sr.w, cut6_4]
    refine ⟨s, s.lo, rfl, hs, ?_⟩
    walk_at "r"
    exact q
def sp_p_merged : ISp := fun ws S Q E => ∃ (s t : Sr), ws = [s.w, t.w] ∧ (s.sg = 1 ∨ s.sg = -1) ∧ (t.sg = 1 ∨ t.sg = -1) ∧ Q (.val (match mergeS s t with | some b => b.w | none => .non)) S
theorem ok_p_merged (ws : List W) (S : Sto) (Q : R → Sto → Prop) (E : Exn → Sto → Prop) (h : sp_p_merged ws S Q E) : bodyI 3 ib_p_merged ws S Q E := by
  obtain ⟨s, t, rfl, hs, ht, q⟩ := h
  unfold ib_p_merged
  refine seq_go fun nx e => ?_
  walk_at "rSr_w"
  have hn : mergeS s t = none → Q (.val .non) S := fun z => by rw [z] at q; exact q
  refine ifb (fun z => hn ?_) (fun z => ifb (fun z2 => hn ?_) fun z2 => ?_)
  · unfold mergeS; rw [if_pos (.inl (by simpa using z))]
  · unfold mergeS; rw [if_pos (.inr (by simpa using z2))]
  have h1 : s.f = t.f := by simpa using z
  have h2 : s.to = t.to := by simpa using z2
  have h12 : ¬ (s.f ≠ t.f ∨ s.to ≠ t.to) := by omega
  subst e
  refine seq_go fun nx e => ?_
  walk_at "r"
  refine ⟨t, t.lo, rfl, ht, ?_⟩
  walk_at "r"
  refine ⟨s, s.hi, rfl, hs, ?_⟩
  walk_at "r"
  subst e
  refine seq_go fun nx e => ?_
  walk_at "r"
  refine ifb (fun z => hn ?_) fun z => ?_
  · unfold mergeS
    simp at z
    rw [if_neg h12, if_pos (by omega)]
  have h3 : ¬ (t.img t.lo - s.img s.hi ≠ 1 ∧ t.img t.lo - s.img s.hi ≠ -1) := by
    simp at z
    omega
  subst e
  refine seq_go fun nx e => ?_
  simp! only [atI_4]
  have fin : ¬ ((s.lo < s.hi ∧ s.sg ≠ t.img t.lo - s.img s.hi) ∨ (t.lo < t.hi ∧ t.sg ≠ t.img t.lo - s.img s.hi)) → nx ⟨[.val (.tup [.int s.f, .int s.lo, .int s.hi, .int s.to, .int s.sg, .int s.sh]), .val (.tup [.int t.f, .int t.lo, .int t.hi, .int t.to, .int t.sg, .int t.sh]), .val (.int (t.img t.lo - s.img s.hi))], S⟩ := fun h4 => by
    subst e
    walk_at "r"
    refine ⟨s, s.lo, rfl, hs, ?_⟩
    walk_at "r"
    refine ⟨sgm (by omega), ?_⟩
    unfold mergeS at q
    rw [if_neg h12, if_neg h3, if_neg h4] at q
    exact q
  have bad : ((s.lo < s.hi ∧ s.sg ≠ t.img t.lo - s.img s.hi) ∨ (t.lo < t.hi ∧ t.sg ≠ t.img t.lo - s.img s.hi)) → Q (.val .non) S := fun h4 => hn (by
    unfold mergeS
    rw [if_neg h12, if_neg h3, if_pos h4])
  refine ifb (fun a => ifb (fun b => bad (.inl ⟨of_decide_eq_true a, by simpa using b⟩)) fun b => ifb (fun c => ifb (fun d => bad (.inr ⟨of_decide_eq_true c, by simpa using d⟩)) fun d => fin fun z => ?_) fun c => fin fun z => ?_) fun a => ifb (fun c => ifb (fun d => bad (.inr ⟨of_decide_eq_true c, by simpa using d⟩)) fun d => fin fun z => ?_) fun c => fin fun z => ?_
  all_goals
    try simp at a
    try simp at b
    try simp at c
    try simp at d
    omega
def sp_p_through : ISp := fun ws S Q E => ∃ (s t : Sr), ws = [s.w, t.w] ∧ (s.sg = 1 ∨ s.sg = -1) ∧ (t.sg = 1 ∨ t.sg = -1) ∧ Q (.val (.lst ((thr s t).map Sr.w))) S
theorem ok_p_through (ws : List W) (S : Sto) (Q : R → Sto → Prop) (E : Exn → Sto → Prop) (h : sp_p_through ws S Q E) : bodyI 11 ib_p_through ws S Q E := by
  obtain ⟨s, t, rfl, hs, ht, q⟩ := h
  unfold ib_p_through
  refine seq_go fun nx e => ?_
  walk_at "rSr_w"
  subst e
  refine seq_go fun nx e => ?_
  walk_at "r"
  refine ⟨sgm hs, sgm hs, ?_⟩
  refine .inl ⟨[s.sg * (t.lo - s.sh), s.sg * (t.hi - s.sh)], rfl, fun ns pm pw => ?_⟩
  rw [two_sorted pm pw]
  walk_at "r"
  subst e
  refine seq_go fun nx e => ?_
  walk_at "r"
  subst e
  refine seq_go fun nx e => ?_
  walk_at "r"
  refine ifb (fun a => ?_) (fun a => ifb (fun b => ?_) fun b => ?_)
  · have : thr s t = [] := by
      unfold thr
      rw [if_pos (.inl (by simpa using a))]
    rw [this] at q
    exact q
  · have : thr s t = [] := by
      unfold thr
      rw [if_pos (.inr (of_decide_eq_true b))]
    rw [this] at q
    exact q
  · subst e
    simp! only [atI_4, atI_5]
    refine ⟨sgm hs, sgm ht, ?_⟩
    have : thr s t = [⟨s.f, thrA s t, thrB s t, t.to, s.sg * t.sg, t.sg * s.sh + t.sh⟩] := by
      unfold thr
      rw [if_neg]
      rintro (z | z)
      · simp at a; exact z a
      · have := of_decide_eq_false b
        exact this z
    rw [this] at q
    exact q
def ib_p_longest_1 : IS := (sSeq (sSet 3 (iIf (tTruO 1) (iCall sp_p_merged (iCons (iIxO 1 (iNeg (iC (.int 1)))) (iCons (iVar 2) iNil))) (iC .non)))
    (sIf (tBl (iB (gIsN false) (iVar 3) (iC .non))) (sDrop (iMtO 1 gAppend (iCons (iVar 2) iNil))) (sIxO 1 (iNeg (iC (.int 1))) (iVar 3))))
def ib_p_longest : IS := (sSeq (sSetN 1 (nLst iNil))
  (sSeq (sFor (lSeq (iFn gSortedG (iCons (iFz (nLc (lSeq (iVar 0)) (gNm 4) tYes' (iCall sp_p_plain (iCons (iVar 4) iNil)) [4])) iNil))) (gNm 2) ib_p_longest_1)
  (sRetO 1)))
def leS (s t : Sr) : Prop := ([s.f, s.lo, s.hi, s.to, s.sg, s.sh] : List Int) ≤ [t.f, t.lo, t.hi, t.to, t.sg, t.sh]
def mrg (m : List Sr) (s : Sr) : List Sr := match m.getLast? with
  | none => [s]
  | some t => match mergeS t s with
    | some b => m.dropLast ++ [b]
    | none => m ++ [s]
theorem mrg_go : ∀ (l : List Sr) (pre : List Sr) (cur : Sr), l.foldl mrg (pre ++ [cur]) = pre ++ mgo cur l
  | [], pre, cur => rfl
  | t :: l, pre, cur => by
    rw [List.foldl_cons]
    unfold mgo
    have e : mrg (pre ++ [cur]) t = match mergeS cur t with | some b => pre ++ [b] | none => pre ++ [cur] ++ [t] := by
      unfold mrg
      rw [List.getLast?_concat, List.dropLast_concat]
    rw [e]
    cases mergeS cur t with
    | some b => exact mrg_go l pre b
    | none =>
      have := mrg_go l (pre ++ [cur]) t
      rw [this]
      simp
theorem mrg_cat {pre : List Sr} {cur t : Sr} : mrg (pre ++ [cur]) t = match mergeS cur t with | some b => pre ++ [b] | none => pre ++ [cur] ++ [t] := by
  unfold mrg
  rw [List.getLast?_concat, List.dropLast_concat]
theorem mrg_L (l : List Sr) : l.foldl mrg [] = mgL l := by
  cases l with
  | nil => rfl
  | cons s l => exact mrg_go l [] s
theorem mrg_len {m : List Sr} {s : Sr} : (mrg m s).length ≤ m.length + 1 := by
  unfold mrg
  split
  · simp
  · split
    · rw [List.length_append, List.length_dropLast, List.length_singleton]; omega
    · rw [List.length_append, List.length_singleton]
      exact Nat.le_refl _
theorem merge_sg {s t b : Sr} (h : mergeS s t = some b) : b.sg = 1 ∨ b.sg = -1 := by
  unfold mergeS at h
  by_cases z1 : s.f ≠ t.f ∨ s.to ≠ t.to
  · rw [if_pos z1] at h; cases h
  rw [if_neg z1] at h
  by_cases z2 : t.img t.lo - s.img s.hi ≠ 1 ∧ t.img t.lo - s.img s.hi ≠ -1
  · rw [if_pos z2] at h; cases h
  rw [if_neg z2] at h
  split at h
  · cases h
  · have hb := Option.some.inj h
    subst hb
    show t.img t.lo - s.img s.hi = 1 ∨ t.img t.lo - s.img s.hi = -1
    omega
theorem mrg_sg {m : List Sr} {t : Sr} (h : ∀ s ∈ m, s.sg = 1 ∨ s.sg = -1) (ht : t.sg = 1 ∨ t.sg = -1) : ∀ s ∈ mrg m t, s.sg = 1 ∨ s.sg = -1 := fun s hs => by
  unfold mrg at hs
  split at hs
  · rw [List.mem_singleton.mp hs]; exact ht
  · split at hs
    · rename_i e
      rcases List.mem_append.mp hs with z | z
      · exact h s ((List.dropLast_sublist _).subset z)
      · rw [List.mem_singleton.mp z]; exact merge_sg e
    · rcases List.mem_append.mp hs with z | z
      · exact h s z
      · rw [List.mem_singleton.mp z]; exact ht
def sp_p_longest0 : ISp := fun ws S Q E => ∃ (l : List Sr), ws = [.lst (l.map Sr.w)] ∧ (∀ s ∈ l, s.sg = 1 ∨ s.sg = -1) ∧ l.length ≤ 1000000 ∧ ∀ m : List Sr, m.Perm (l.map Sr.plain) → m.Pairwise leS → Q (.new (.lst ((mgL m).map Sr.w))) S
def Sr.code (s : Sr) : List Int := [s.f, s.lo, s.hi, s.to, s.sg, s.sh]
theorem perm_code : ∀ {l : List Sr} {cs : List (List Int)}, cs.Perm (l.map Sr.code) → ∃ m : List Sr, m.Perm l ∧ cs = m.map Sr.code := fun {l cs} h => by
  have key : ∀ (cs : List (List Int)), (∀ c ∈ cs, ∃ s : Sr, s.code = c) → ∃ m : List Sr, cs = m.map Sr.code := fun cs => by
    induction cs with
    | nil => exact fun _ => ⟨[], rfl⟩
    | cons c cs ih =>
      intro hc
      obtain ⟨s, hs⟩ := hc c (List.mem_cons_self ..)
      obtain ⟨m, hm⟩ := ih fun d hd => hc d (List.mem_cons_of_mem _ hd)
      exact ⟨s :: m, by rw [List.map_cons, hs, hm]⟩
  obtain ⟨m, hm⟩ := key cs fun c hc => by
    obtain ⟨s, _, e⟩ := List.mem_map.mp (h.mem_iff.mp hc)
    exact ⟨s, e⟩
  refine ⟨m, ?_, hm⟩
  rw [hm] at h
  have dec : ∀ c : List Int, (match c with | [a, b, d, e, f, g] => (⟨a, b, d, e, f, g⟩ : Sr) | _ => ⟨0, 0, 0, 0, 0, 0⟩) = (match c with | [a, b, d, e, f, g] => (⟨a, b, d, e, f, g⟩ : Sr) | _ => ⟨0, 0, 0, 0, 0, 0⟩) := fun _ => rfl
  have := h.map fun c => (match c with | [a, b, d, e, f, g] => (⟨a, b, d, e, f, g⟩ : Sr) | _ => ⟨0, 0, 0, 0, 0, 0⟩)
  rw [List.map_map, List.map_map] at this
  have e : ((fun c : List Int => (match c with | [a, b, d, e, f, g] => (⟨a, b, d, e, f, g⟩ : Sr) | _ => ⟨0, 0, 0, 0, 0, 0⟩)) ∘ Sr.code) = id := rfl
  rw [e, List.map_id, List.map_id] at this
  exact this
theorem ok_p_longest0 (ws : List W) (S : Sto) (Q : R → Sto → Prop) (E : Exn → Sto → Prop) (h : sp_p_longest0 ws S Q E) : bodyI 5 ib_p_longest ws S Q E := by
  obtain ⟨l, rfl, hg, hl, q⟩ := h
  unfold ib_p_longest
  refine seq_go fun nx e => ?_
  walk_at "r"
  subst e
  refine seq_cut (fun st => ∃ (x2 x3 x4 : Slot) (m : List Sr), m.Perm (l.map Sr.plain) ∧ m.Pairwise leS ∧ st = ⟨[.val (.lst (l.map Sr.w)), .own (.lst ((mgL m).map Sr.w)), x2, x3, x4], S⟩) (fun nx k => ?_) (fun st ⟨x2, x3, x4, m, h1, h2, es⟩ => by subst es; exact q m h1 h2)
  walk_at "rsFor_lSeq_nLc_gItems"
  refine lc_fn ⟨[.val (.lst (l.map Sr.w)), .own (.lst []), .none, .none, .none], S⟩ Sr.w (fun s => s.plain.w) l _ (fun c hc Y hY => ?_) rfl (by rw [sizeLine_eq]; omega) fun st' es => ?_
  · walk_at "r"
    exact ⟨c, rfl, hg c hc, hY _ rfl⟩
  rw [es]
  refine ⟨(l.map Sr.plain).map Sr.code, ?_, fun is hi => ?_, fun ss pm pw => ?_⟩
  · rw [List.map_map, List.map_map]; rfl
  · obtain ⟨s, _, rfl⟩ := List.mem_map.mp hi
    exact fun z => nomatch z
  obtain ⟨m, hm, rfl⟩ := perm_code pm
  have ew : (m.map Sr.code).map tupW = m.map Sr.w := by rw [List.map_map]; rfl
  rw [ew]
  have og : ∀ s ∈ m, s.sg = 1 ∨ s.sg = -1 := fun s hs => by
    obtain ⟨t, ht, rfl⟩ := List.mem_map.mp (hm.mem_iff.mp hs)
    unfold Sr.plain
    split
    · exact hg t ht
    · exact .inl rfl
  refine for_inv (fun zs st => ∃ (x2 x3 x4 : Slot) (a b : List Sr), m = a ++ b ∧ zs = b.map Sr.w ∧ (∀ s ∈ a.foldl mrg [], s.sg = 1 ∨ s.sg = -1) ∧ (a.foldl mrg []).length ≤ a.length ∧ st = ⟨[.val (.lst (l.map Sr.w)), .own (.lst ((a.foldl mrg []).map Sr.w)), x2, x3, x4], S⟩) _ _ ⟨_, _, _, [], m, rfl, rfl, fun _ z => (nomatch z), Nat.le_refl _, rfl⟩ (fun st ⟨x2, x3, x4, a, b, e1, e2, _, _, es⟩ => ?_) ?_
  · have : b = [] := by cases b with | nil => rfl | cons _ _ => cases e2
    rw [this, List.append_nil] at e1
    rw [← e1, mrg_L] at es
    exact k st ⟨x2, x3, x4, m, hm, (List.pairwise_map (f := Sr.code)).mp pw, es⟩
  rintro z zs st nx ⟨x2, x3, x4, a, b, e1, e2, h1, h2, es⟩ hn
  obtain ⟨t, b, rfl⟩ : ∃ t c, b = t :: c := by cases b with | nil => cases e2 | cons t c => exact ⟨t, c, rfl⟩
  simp only [List.map_cons, List.cons.injEq] at e2
  obtain ⟨rfl, rfl⟩ := e2
  subst es
  have ot := og t (by rw [e1]; simp)
  have nxt : ∀ (x2 x3 : Slot), nx ⟨[.val (.lst (l.map Sr.w)), .own (.lst ((mrg (a.foldl mrg []) t).map Sr.w)), x2, x3, x4], S⟩ := fun x2 x3 => hn _ ⟨x2, x3, x4, a ++ [t], b, by simp [e1], rfl, fun s hs => by
    rw [List.foldl_append] at hs
    exact mrg_sg h1 ot s hs, by
    rw [List.foldl_append, List.length_append]
    have := mrg_len (m := a.foldl mrg []) (s := t)
    show (mrg (a.foldl mrg []) t).length ≤ a.length + 1
    omega, by rw [List.foldl_append]; rfl⟩
  have la : a.length ≤ 1000000 := by
    have := congrArg List.length e1
    rw [hm.length_eq, List.length_map, List.length_append] at this
    omega
  generalize a.foldl mrg [] = M at *
  unfold ib_p_longest_1
  refine seq_go fun ny e => ?_
  obtain rfl | ⟨pre, cur, rfl⟩ : M = [] ∨ ∃ pre cur, M = pre ++ [cur] := by
    rcases List.eq_nil_or_concat M with h | ⟨p, c, h⟩
    · exact .inl h
    · exact .inr ⟨p, c, by rw [h, List.concat_eq_append]⟩
  · walk_at "r"
    subst e
    walk_at "r"
    exact nxt _ _
  have ie : ((pre ++ [cur]).map Sr.w).isEmpty = false := by simp
  have al : atI ((pre ++ [cur]).map Sr.w) (-1) = some cur.w := by rw [List.map_append]; exact atI_last
  simp! only [ie, al]
  refine ⟨cur, t, rfl, h1 cur (by simp), ot, ?_⟩
  walk_at "r"
  cases hg2 : mergeS cur t with
  | none =>
    have : mrg (pre ++ [cur]) t = pre ++ [cur] ++ [t] := by rw [mrg_cat, hg2]
    rw [this] at nxt
    subst e
    walk_at "r"
    refine ⟨by rw [sizeLine_eq, List.length_map]; omega, ?_⟩
    have := nxt (.val t.w) (.val .non)
    rw [List.map_append (l₂ := [t])] at this
    exact this
  | some b2 =>
    have : mrg (pre ++ [cur]) t = pre ++ [b2] := by rw [mrg_cat, hg2]
    rw [this] at nxt
    subst e
    have i1 : ixN ((pre ++ [cur]).map Sr.w).length (-1) = some pre.length := by
      rw [List.length_map, List.length_append, List.length_singleton]
      unfold ixN
      rw [if_neg (by omega), if_pos (by omega)]
      exact congrArg some (by omega)
    simp! only [show isN b2.w = false from rfl, i1]
    have := nxt (.val t.w) (.val b2.w)
    rw [List.map_append] at this
    rw [List.map_append, List.set_append_right _ _ (by rw [List.length_map]; exact Nat.le_refl _), List.length_map, Nat.sub_self]
    exact this
local macro_rules | `(tactic| walk_at "rnIf") => `(tactic| simp (decide := true) only [bodyI, start0, sSeq, sNext, sNever, sCont, sBreak, sDrop, sRet, sRetN, sRet0, sRetO, sIf, sSet, sSetN, sSetP, sPar, sParEN, sParNE, sPar3, sAsg, gNm, gsNil, gsCons, gTp, sAugI, sIxO, sIxS, sAugS, stoL, setW, iVar, iC, iNil, iCons, iTup, iLst, nLst, iFz, iB, gAdd, gI, gIC, gSub, gMul, gDiv, gMod, gPow, gLt, gLe, gGt, gGe, gEq, gNe, gIn, gIsN, isN, iNeg, tTru', gTru, tBl, iChain, tAnd', tOr', tNot', tYes', iIf, iAnd, iOr, iNot, iIx, gIx, atW, iIxO, ownL, oNone, oSome, iSl, gSl, iRevL, iCall, nCall, iFn, Stt.put, Stt.puts, iMtO, gAppend, gInsert, gExtend, gLen, iLenO, gAbs, gInt, gMinMax, gList, gTuple, iListRg, gIsi, tyN, gRepr, cut_13, cut_1_2, cut_1_3, cut_m2, cut_m3, cut_m4, atI_m2, atI_m3, atI_m4, iOfT, tKdIn, iKdIx, atI_0, atI_1, atI_2, atI_3, ixN_4_0, ixN_4_1, ixN_4_2, ixN_4_3, Sto.put_same, Sto.put_put, toNat_2, List.map, List.replicate, List.length_cons, List.length_nil, List.getElem?_cons_zero, List.getElem?_cons_succ, List.getElem?_nil, List.set_cons_zero, List.set_cons_succ, List.set_nil, List.cons_append, List.nil_append, List.append_nil, if_true, if_false, fz_val, fz_new, so_lst, so_dct, so_ins, eqW_ii, eqW_ss, eqW_tt, eqW_ll, eqW_nn, eqW_bb, eqW_ni, eqW_in, eqW_nt, eqW_tn, eqW_nl, eqW_ln, eqW_is, eqW_si, eqWs_nil, eqWs_cons, eqWs_nc, eqWs_cn, okD_int, okD_str, okD_bl, okD_non, okD_tup, okD_lst, eqOk_ii, eqOk_ss, eqOk_nn, eqOk_bb, eqOk_in, eqOk_ni, eqOk_tt, eqOk_ll, flatW_int, flatW_str, flatW_bl, flatW_non, inW, List.any_cons, List.any_nil, List.all_cons, List.all_nil, Bool.or_false, Bool.or_true, Bool.true_or, Bool.false_or, Bool.and_true, Bool.true_and, Bool.and_false, Bool.false_and, Bool.not_true, Bool.not_false, Bool.false_eq_true, true_and, and_true, beq_self_eq_true, List.isEmpty_cons, List.isEmpty_nil, Int.reduceNeg, eq_self, forall_const, iFld, objOf, iProp, iMeth, nMake, iInv, iMulM, iLenM, iIsi, sAtt, iRevT, lIter, nRep, lEnum, lZip, iEqM, gOwn, iDGet2, iAddO, nDisp, nDNew, iPairs, keysW, keyW, nFn, gListN, nListRg, iTupRg, nIf, sParM, iItems, putsR, Sh.R.slot, gIsB, isB, iPeek, tPeek, iPeekS, Stt.ps, noOwn, gInD, nPeek, Stt.pk, frzS, plainW, plainWs, tyS, tyIn, cOk, isAny, isOne, Option.map_some, lk_ne, List.lookup_nil, putW, lk_self, iXf, iIsE, Hnd.w, sRaise1, sRaise0, sTryE, gMax3, gEqN, gReprN, iIdxT, iIdxL, iInRg, nListM, iBR, iFnR, iPub, iMtR, drW, drWs, nOwn, nMeth, nSl, nAdd, nAddO, iMtN, sAugL, gSortedG, tTruO, refW_tup, refW_lst, refW_dct, refW_int, refW_str, refW_bl, refW_non, nIf])
local macro_rules | `(tactic| walk_at "rCall_w_nIf") => `(tactic| simp (decide := true) only [bodyI, start0, sSeq, sNext, sNever, sCont, sBreak, sDrop, sRet, sRetN, sRet0, sRetO, sIf, sSet, sSetN, sSetP, sPar, sParEN, sParNE, sPar3, sAsg, gNm, gsNil, gsCons, gTp, sAugI, sIxO, sIxS, sAugS, stoL, setW, iVar, iC, iNil, iCons, iTup, iLst, nLst, iFz, iB, gAdd, gI, gIC, gSub, gMul, gDiv, gMod, gPow, gLt, gLe, gGt, gGe, gEq, gNe, gIn, gIsN, isN, iNeg, tTru', gTru, tBl, iChain, tAnd', tOr', tNot', tYes', iIf, iAnd, iOr, iNot, iIx, gIx, atW, iIxO, ownL, oNone, oSome, iSl, gSl, iRevL, iCall, nCall, iFn, Stt.put, Stt.puts, iMtO, gAppend, gInsert, gExtend, gLen, iLenO, gAbs, gInt, gMinMax, gList, gTuple, iListRg, gIsi, tyN, gRepr, cut_13, cut_1_2, cut_1_3, cut_m2, cut_m3, cut_m4, atI_m2, atI_m3, atI_m4, iOfT, tKdIn, iKdIx, atI_0, atI_1, atI_2, atI_3, ixN_4_0, ixN_4_1, ixN_4_2, ixN_4_3, Sto.put_same, Sto.put_put, toNat_2, List.map, List.replicate, List.length_cons, List.length_nil, List.getElem?_cons_zero, List.getElem?_cons_succ, List.getElem?_nil, List.set_cons_zero, List.set_cons_succ, List.set_nil, List.cons_append, List.nil_append, List.append_nil, if_true, if_false, fz_val, fz_new, so_lst, so_dct, so_ins, eqW_ii, eqW_ss, eqW_tt, eqW_ll, eqW_nn, eqW_bb, eqW_ni, eqW_in, eqW_nt, eqW_tn, eqW_nl, eqW_ln, eqW_is, eqW_si, eqWs_nil, eqWs_cons, eqWs_nc, eqWs_cn, okD_int, okD_str, okD_bl, okD_non, okD_tup, okD_lst, eqOk_ii, eqOk_ss, eqOk_nn, eqOk_bb, eqOk_in, eqOk_ni, eqOk_tt, eqOk_ll, flatW_int, flatW_str, flatW_bl, flatW_non, inW, List.any_cons, List.any_nil, List.all_cons, List.all_nil, Bool.or_false, Bool.or_true, Bool.true_or, Bool.false_or, Bool.and_true, Bool.true_and, Bool.and_false, Bool.false_and, Bool.not_true, Bool.not_false, Bool.false_eq_true, true_and, and_true, beq_self_eq_true, List.isEmpty_cons, List.isEmpty_nil, Int.reduceNeg, eq_self, forall_const, iFld, objOf, iProp, iMeth, nMake, iInv, iMulM, iLenM, iIsi, sAtt, iRevT, lIter, nRep, lEnum, lZip, iEqM, gOwn, iDGet2, iAddO, nDisp, nDNew, iPairs, keysW, keyW, nFn, gListN, nListRg, iTupRg, nIf, sParM, iItems, putsR, Sh.R.slot, gIsB, isB, iPeek, tPeek, iPeekS, Stt.ps, noOwn, gInD, nPeek, Stt.pk, frzS, plainW, plainWs, tyS, tyIn, cOk, isAny, isOne, Option.map_some, lk_ne, List.lookup_nil, putW, lk_self, iXf, iIsE, Hnd.w, sRaise1, sRaise0, sTryE, gMax3, gEqN, gReprN, iIdxT, iIdxL, iInRg, nListM, iBR, iFnR, iPub, iMtR, drW, drWs, nOwn, nMeth, nSl, nAdd, nAddO, iMtN, sAugL, gSortedG, tTruO, refW_tup, refW_lst, refW_dct, refW_int, refW_str, refW_bl, refW_non, Call.w, nIf])
local macro_rules | `(tactic| walk_at "rsFor_lIter") => `(tactic| simp (decide := true) only [bodyI, start0, sSeq, sNext, sNever, sCont, sBreak, sDrop, sRet, sRetN, sRet0, sRetO, sIf, sSet, sSetN, sSetP, sPar, sParEN, sParNE, sPar3, sAsg, gNm, gsNil, gsCons, gTp, sAugI, sIxO, sIxS, sAugS, stoL, setW, iVar, iC, iNil, iCons, iTup, iLst, nLst, iFz, iB, gAdd, gI, gIC, gSub, gMul, gDiv, gMod, gPow, gLt, gLe, gGt, gGe, gEq, gNe, gIn, gIsN, isN, iNeg, tTru', gTru, tBl, iChain, tAnd', tOr', tNot', tYes', iIf, iAnd, iOr, iNot, iIx, gIx, atW, iIxO, ownL, oNone, oSome, iSl, gSl, iRevL, iCall, nCall, iFn, Stt.put, Stt.puts, iMtO, gAppend, gInsert, gExtend, gLen, iLenO, gAbs, gInt, gMinMax, gList, gTuple, iListRg, gIsi, tyN, gRepr, cut_13, cut_1_2, cut_1_3, cut_m2, cut_m3, cut_m4, atI_m2, atI_m3, atI_m4, iOfT, tKdIn, iKdIx, atI_0, atI_1, atI_2, atI_3, ixN_4_0, ixN_4_1, ixN_4_2, ixN_4_3, Sto.put_same, Sto.put_put, toNat_2, List.map, List.replicate, List.length_cons, List.length_nil, List.getElem?_cons_zero, List.getElem?_cons_succ, List.getElem?_nil, List.set_cons_zero, List.set_cons_succ, List.set_nil, List.cons_append, List.nil_append, List.append_nil, if_true, if_false, fz_val, fz_new, so_lst, so_dct, so_ins, eqW_ii, eqW_ss, eqW_tt, eqW_ll, eqW_nn, eqW_bb, eqW_ni, eqW_in, eqW_nt, eqW_tn, eqW_nl, eqW_ln, eqW_is, eqW_si, eqWs_nil, eqWs_cons, eqWs_nc, eqWs_cn, okD_int, okD_str, okD_bl, okD_non, okD_tup, okD_lst, eqOk_ii, eqOk_ss, eqOk_nn, eqOk_bb, eqOk_in, eqOk_ni, eqOk_tt, eqOk_ll, flatW_int, flatW_str, flatW_bl, flatW_non, inW, List.any_cons, List.any_nil, List.all_cons, List.all_nil, Bool.or_false, Bool.or_true, Bool.true_or, Bool.false_or, Bool.and_true, Bool.true_and, Bool.and_false, Bool.false_and, Bool.not_true, Bool.not_false, Bool.false_eq_true, true_and, and_true, beq_self_eq_true, List.isEmpty_cons, List.isEmpty_nil, Int.reduceNeg, eq_self, forall_const, iFld, objOf, iProp, iMeth, nMake, iInv, iMulM, iLenM, iIsi, sAtt, iRevT, lIter, nRep, lEnum, lZip, iEqM, gOwn, iDGet2, iAddO, nDisp, nDNew, iPairs, keysW, keyW, nFn, gListN, nListRg, iTupRg, nIf, sParM, iItems, putsR, Sh.R.slot, gIsB, isB, iPeek, tPeek, iPeekS, Stt.ps, noOwn, gInD, nPeek, Stt.pk, frzS, plainW, plainWs, tyS, tyIn, cOk, isAny, isOne, Option.map_some, lk_ne, List.lookup_nil, putW, lk_self, iXf, iIsE, Hnd.w, sRaise1, sRaise0, sTryE, gMax3, gEqN, gReprN, iIdxT, iIdxL, iInRg, nListM, iBR, iFnR, iPub, iMtR, drW, drWs, nOwn, nMeth, nSl, nAdd, nAddO, iMtN, sAugL, gSortedG, tTruO, refW_tup, refW_lst, refW_dct, refW_int, refW_str, refW_bl, refW_non, sFor, lIter])
abbrev Inj (F R : Int) (φ : PM) : Prop := ∀ p q, At F R p → At F R q → φ p = φ q → p = q
theorem lt_of_leS {s t : Sr} (hs : s.lo ≤ s.hi) (ht : t.lo ≤ t.hi) (h : leS s t) (dj : ∀ p, s.has p → ¬ t.has p) : s.lt t := by
  have h := List.not_lt.mpr h
  unfold Sr.lt
  by_cases c : s.f < t.f ∨ (s.f = t.f ∧ s.lo < t.lo)
  · exact c
  · by_cases d : t.f < s.f
    · exact (h (List.cons_lt_cons_iff.mpr (.inl d))).elim
    · have e : t.f = s.f := by omega
      by_cases g : t.lo < s.lo
      · exact (h (List.cons_lt_cons_iff.mpr (.inr ⟨e, List.cons_lt_cons_iff.mpr (.inl g)⟩))).elim
      · exact (dj (s.lo, s.f) ⟨rfl, Int.le_refl _, hs⟩ ⟨by show s.f = t.f; omega, by show t.lo ≤ s.lo; omega, by show s.lo ≤ t.hi; omega⟩).elim
def sp_p_longest : ISp := fun ws S Q E => ∃ (F R : Int) (φ : PM) (l : List Sr), ws = [.lst (l.map Sr.w)] ∧ 0 < F ∧ 0 < R ∧ Inj F R φ ∧ Prt F R φ l ∧ l.length ≤ 1000000 ∧ ∀ m, Can F R φ m 0 0 → m.length ≤ l.length → Q (.new (.lst (m.map Sr.w))) S
theorem ok_p_longest (ws : List W) (S : Sto) (Q : R → Sto → Prop) (E : Exn → Sto → Prop) (h : sp_p_longest ws S Q E) : bodyI 5 ib_p_longest ws S Q E := by
  obtain ⟨F, R, φ, l, rfl, hF, hR, inj, P, hl, q⟩ := h
  refine ok_p_longest0 _ S Q E ⟨l, rfl, fun s hs => (P.ok s hs).sg, hl, fun m hm pw => ?_⟩
  have P2 := P.plain.perm hm.symm
  refine q _ (mgL_can hF hR inj P2 (fun t ht => ?_) ?_) ?_
  · obtain ⟨s, _, rfl⟩ := List.mem_map.mp (hm.mem_iff.mp ht)
    exact plain_one
  · refine (pw.and P2.dj).imp_of_mem fun {a b} ha hb h => lt_of_leS (P2.ok a ha).ne (P2.ok b hb).ne h.1 h.2
  · have := mgL_len (l := m)
    rw [hm.length_eq, List.length_map] at this
    exact this
def ib_p_joined_1 : IS := (sDrop (iMtO 2 gExtend (iCons (iCall sp_p_through (iCons (iVar 3) (iCons (iVar 4) iNil))) iNil)))
def ib_p_joined_2 : IS := (sFor (lSeq (iVar 1)) (gNm 4) ib_p_joined_1)
def ib_p_joined : IS := (sSeq (sSetN 2 (nLst iNil))
  (sSeq (sFor (lSeq (iVar 0)) (gNm 3) ib_p_joined_2)
  (sRetN (nPeek (nCall sp_p_longest (iCons (iVar 2) iNil))))))
def ib_p_kept_in : IS := (sSeq (sPar 5 6 (iFn (gMinMax (fun i j => if i < j then j else i)) (iCons (iC (.int 0)) (iCons (iVar 1) iNil))) (iFn (gMinMax (fun i j => if j < i then j else i)) (iCons (iB gSub (iVar 3) (iC (.int 1))) (iCons (iVar 2) iNil))))
  (sRetN (nIf (tBl (iB gLe (iVar 5) (iVar 6))) (nLst (iCons (iB gAdd (iTup (iCons (iVar 0) (iCons (iVar 5) (iCons (iVar 6) iNil)))) (iVar 4)) iNil)) (nLst iNil))))
theorem plain_srs : ∀ (m : List Sr), plainWs (m.map Sr.w) = true
  | [] => rfl
  | s :: m => by
    rw [List.map_cons]
    show (plainW s.w && plainWs (m.map Sr.w)) = true
    rw [plain_srs m, Bool.and_true]
    rfl
theorem joinL_cut {xs ys : List Sr} {e : Sr} {zs : List Sr} : joinL (xs ++ e :: zs) ys = joinL xs ys ++ (ys.flatMap (thr e) ++ joinL zs ys) := by
  unfold joinL
  rw [List.flatMap_append, List.flatMap_cons]
theorem split_map {b : List Sr} {z : W} {zs : List W} (h : z :: zs = b.map Sr.w) : ∃ t c, b = t :: c ∧ z = t.w ∧ zs = c.map Sr.w := by
  cases b with
  | nil => cases h
  | cons t c =>
    simp only [List.map_cons, List.cons.injEq] at h
    exact ⟨t, c, rfl, h.1, h.2⟩
theorem nil_map {b : List Sr} (h : [] = b.map Sr.w) : b = [] := by
  cases b with
  | nil => rfl
  | cons t c => cases h
def sp_p_joined : ISp := fun ws S Q E => ∃ (F R : Int) (φ ψ : PM) (xs ys : List Sr), ws = [.lst (xs.map Sr.w), .lst (ys.map Sr.w)] ∧ 0 < F ∧ 0 < R ∧ Inj F R φ ∧ (∀ p, At F R p → At F R (φ p)) ∧ Inj F R ψ ∧ Prt F R φ xs ∧ Prt F R ψ ys ∧ xs.length + 2 * ys.length ≤ 1000000 ∧
  ∀ m, Can F R (ψ ∘ φ) m 0 0 → m.length ≤ xs.length + 2 * ys.length → Q (.new (.lst (m.map Sr.w))) S
theorem ok_p_joined (ws : List W) (S : Sto) (Q : R → Sto → Prop) (E : Exn → Sto → Prop) (h : sp_p_joined ws S Q E) : bodyI 5 ib_p_joined ws S Q E := by
  obtain ⟨F, R, φ, ψ, xs, ys, rfl, hF, hR, inj, hin, inj2, hx, hy, hl, q⟩ := h
  have P := prt_join hin hx hy
  have pl := join_len hin inj hx hy
  unfold ib_p_joined
  refine seq_go fun nx e => ?_
  walk_at "r"
  subst e
  refine seq_cut (fun st => ∃ (x3 x4 : Slot), st = ⟨[.val (.lst (xs.map Sr.w)), .val (.lst (ys.map Sr.w)), .own (.lst ((joinL xs ys).map Sr.w)), x3, x4], S⟩) (fun nx k => ?_) (fun st ⟨x3, x4, es⟩ => ?_)
  · walk_at "rsFor_lSeq_gItems"
    refine for_inv (fun zs st => ∃ (x3 x4 : Slot) (a b : List Sr), xs = a ++ b ∧ zs = b.map Sr.w ∧ st = ⟨[.val (.lst (xs.map Sr.w)), .val (.lst (ys.map Sr.w)), .own (.lst ((joinL a ys).map Sr.w)), x3, x4], S⟩) _ _ ⟨_, _, [], xs, rfl, rfl, rfl⟩ (fun st ⟨x3, x4, a, b, e1, e2, es⟩ => ?_) ?_
    · rw [nil_map e2, List.append_nil] at e1
      exact k st ⟨x3, x4, by rw [es, e1]⟩
    rintro z zs st ny ⟨x3, x4, a, b, e1, e2, es⟩ hn
    obtain ⟨t, c, rfl, rfl, rfl⟩ := split_map e2
    subst es
    unfold ib_p_joined_2
    walk_at "rsFor_lSeq_gItems"
    have tot : (joinL a ys).length + (ys.flatMap (thr t)).length ≤ 1000000 := by
      have : (joinL xs ys).length = (joinL a ys ++ (ys.flatMap (thr t) ++ joinL c ys)).length := by rw [e1, joinL_cut]
      rw [List.length_append, List.length_append] at this
      omega
    refine for_inv (fun zs st => ∃ (x4 : Slot) (a2 b2 : List Sr), ys = a2 ++ b2 ∧ zs = b2.map Sr.w ∧ st = ⟨[.val (.lst (xs.map Sr.w)), .val (.lst (ys.map Sr.w)), .own (.lst ((joinL a ys ++ a2.flatMap (thr t)).map Sr.w)), .val t.w, x4], S⟩) _ _ ⟨_, [], ys, rfl, rfl, by rw [List.flatMap_nil, List.append_nil]⟩ (fun st ⟨x4, a2, b2, f1, f2, es⟩ => ?_) ?_
    · rw [nil_map f2, List.append_nil] at f1
      subst f1
      refine hn st ⟨.val t.w, x4, a ++ [t], c, by simp [e1], rfl, ?_⟩
      rw [es, joinL_cut]
      simp [joinL]
    rintro z zs st nz ⟨x4, a2, b2, f1, f2, es⟩ hn2
    obtain ⟨u, d, rfl, rfl, rfl⟩ := split_map f2
    subst es
    unfold ib_p_joined_1
    walk_at "r"
    refine ⟨t, u, rfl, (hx.ok t (by rw [e1]; simp)).sg, (hy.ok u (by rw [f1]; simp)).sg, ?_⟩
    walk_at "r"
    refine ⟨?_, hn2 _ ⟨.val u.w, a2 ++ [u], d, by simp [f1], rfl, ?_⟩⟩
    · have e5 : ys.flatMap (thr t) = a2.flatMap (thr t) ++ (thr t u ++ d.flatMap (thr t)) := by rw [f1, List.flatMap_append, List.flatMap_cons]
      rw [e5, List.length_append, List.length_append] at tot
      rw [List.length_map, List.length_map, List.length_append, sizeLine_eq]
      omega
    · rw [List.flatMap_append, List.flatMap_cons, List.flatMap_nil, List.append_nil]
      simp
  subst es
  walk_at "r"
  refine ⟨F, R, ψ ∘ φ, joinL xs ys, rfl, hF, hR, fun p r hp hr h => inj _ _ hp hr (inj2 _ _ (hin p hp) (hin r hr) h), P, by omega, fun m hm hml => ?_⟩
  simp! only [plain_srs]
  exact q m hm (by omega)
def sp_p_kept_in : ISp := fun ws S Q E => ∃ (R f : Int) (k : Kp), ws = [.int f, .int k.a, .int k.b, .int R, .tup [.int k.to, .int k.sg, .int k.sh]] ∧ Q (.new (.lst ((kinL R f k).map Sr.w))) S
theorem ok_p_kept_in (ws : List W) (S : Sto) (Q : R → Sto → Prop) (E : Exn → Sto → Prop) (h : sp_p_kept_in ws S Q E) : bodyI 7 ib_p_kept_in ws S Q E := by
  obtain ⟨R, f, k, rfl, q⟩ := h
  unfold ib_p_kept_in
  refine seq_go fun nx e => ?_
  walk_at "r"
  subst e
  walk_at "rnIf"
  unfold kinL at q
  refine ifb (fun z => ?_) (fun z => ?_)
  · rw [if_pos (of_decide_eq_true z)] at q
    exact q
  · rw [if_neg (of_decide_eq_false z)] at q
    exact q
def ib_p_wheels : IS := (sSeq (sPar3 2 3 4 (iIx (iVar 0) (iC (.int 1))) (iIx (iVar 0) (iC (.int 2))) (iB gMod (iIx (iVar 0) (iC (.int 3))) (iB gMul (iC (.int 2)) (iVar 1))))
  (sSeq (sSetN 5 (nCall sp_p_kept_in (iCons (iVar 2) (iCons (iVar 4) (iCons (iB gSub (iVar 1) (iC (.int 1))) (iCons (iVar 1) (iCons (iTup (iCons (iVar 2) (iCons (iC (.int 1)) (iCons (iNeg (iVar 4)) iNil)))) iNil)))))))
  (sSeq (sAugL 5 (iCall sp_p_kept_in (iCons (iVar 2) (iCons (iB gSub (iVar 4) (iVar 1)) (iCons (iB gSub (iVar 4) (iC (.int 1))) (iCons (iVar 1) (iCons (iTup (iCons (iVar 3) (iCons (iNeg (iC (.int 1))) (iCons (iB gSub (iVar 4) (iC (.int 1))) iNil)))) iNil)))))))
  (sSeq (sAugL 5 (iCall sp_p_kept_in (iCons (iVar 2) (iCons (iC (.int 0)) (iCons (iB gSub (iB gSub (iVar 4) (iVar 1)) (iC (.int 1))) (iCons (iVar 1) (iCons (iTup (iCons (iVar 2) (iCons (iC (.int 1)) (iCons (iB gSub (iB gMul (iC (.int 2)) (iVar 1)) (iVar 4)) iNil)))) iNil)))))))
  (sSeq (sAugL 5 (iCall sp_p_kept_in (iCons (iVar 3) (iCons (iC (.int 0)) (iCons (iB gSub (iB gSub (iVar 1) (iC (.int 1))) (iVar 4)) (iCons (iVar 1) (iCons (iTup (iCons (iVar 3) (iCons (iC (.int 1)) (iCons (iVar 4) iNil)))) iNil)))))))
  (sSeq (sAugL 5 (iCall sp_p_kept_in (iCons (iVar 3) (iCons (iB gSub (iVar 1) (iVar 4)) (iCons (iB gSub (iB gSub (iB gMul (iC (.int 2)) (iVar 1)) (iC (.int 1))) (iVar 4)) (iCons (iVar 1) (iCons (iTup (iCons (iVar 2) (iCons (iNeg (iC (.int 1))) (iCons (iB gSub (iB gSub (iB gMul (iC (.int 2)) (iVar 1)) (iC (.int 1))) (iVar 4)) iNil)))) iNil)))))))
  (sRetN (nAddO 5 (iCall sp_p_kept_in (iCons (iVar 3) (iCons (iB gSub (iB gMul (iC (.int 2)) (iVar 1)) (iVar 4)) (iCons (iB gSub (iVar 1) (iC (.int 1))) (iCons (iVar 1) (iCons (iTup (iCons (iVar 3) (iCons (iC (.int 1)) (iCons (iB gSub (iVar 4) (iB gMul (iC (.int 2)) (iVar 1))) iNil)))) iNil))))))))))))))
def ib_p_ups : IS := (sSeq (sIf (tBl (iB gEq (iVar 2) (iC (.int 0)))) (sRet (iLst (iCons (iTup (iCons (iVar 0) (iCons (iC (.int 0)) (iCons (iB gSub (iVar 1) (iC (.int 1))) (iCons (iVar 0) (iCons (iC (.int 1)) (iCons (iC (.int 0)) iNil))))))) iNil))) sNext)
  (sRet (iLst (iCons (iTup (iCons (iVar 0) (iCons (iC (.int 0)) (iCons (iB gSub (iVar 2) (iC (.int 1))) (iCons (iVar 0) (iCons (iC (.int 1)) (iCons (iB gSub (iVar 1) (iVar 2)) iNil))))))) (iCons (iTup (iCons (iVar 0) (iCons (iVar 2) (iCons (iB gSub (iVar 1) (iC (.int 1))) (iCons (iVar 0) (iCons (iC (.int 1)) (iCons (iNeg (iVar 2)) iNil))))))) iNil)))))
theorem lp {xs ys : List W} {n m : Nat} (h : xs.length ≤ n) (k : ys.length ≤ m) (l : n + m ≤ 10 := by decide) : xs.length + ys.length ≤ sizeLine := by
  rw [sizeLine_eq]
  omega
theorem la {xs ys : List W} {n m : Nat} (h : xs.length ≤ n) (k : ys.length ≤ m) : (xs ++ ys).length ≤ n + m := by
  rw [List.length_append]
  omega
def sp_p_wheels : ISp := fun ws S Q E => ∃ (R g h k : Int), ws = [(Call.wheel g h k).w, .int R] ∧ 0 < R ∧ Q (.new (.lst ((kinsL R (g, whG R g h (k % (2 * R))) ++ kinsL R (h, whH R g h (k % (2 * R)))).map Sr.w))) S
theorem ok_p_wheels (ws : List W) (S : Sto) (Q : R → Sto → Prop) (E : Exn → Sto → Prop) (h : sp_p_wheels ws S Q E) : bodyI 6 ib_p_wheels ws S Q E := by
  obtain ⟨R, g, h, k, rfl, hR, q⟩ := h
  unfold ib_p_wheels
  refine seq_go fun nx e => ?_
  walk_at "rCall_w"
  refine ⟨small_l (by omega) (by omega), by omega, ?_⟩
  subst e
  have kl : ∀ {f : Int} {x : Kp}, ((kinL R f x).map Sr.w).length ≤ 1 := by intro f x; rw [List.length_map]; exact kin_len
  refine seq_go fun nx e => ?_
  walk_at "r"
  refine ⟨R, g, ⟨k % (2 * R), R - 1, g, 1, -(k % (2 * R))⟩, rfl, ?_⟩
  walk_at "r"
  subst e
  refine seq_go fun nx e => ?_
  walk_at "r"
  refine ⟨R, g, ⟨k % (2 * R) - R, k % (2 * R) - 1, h, -1, k % (2 * R) - 1⟩, rfl, ?_⟩
  walk_at "r"
  refine ⟨lp kl kl, ?_⟩
  subst e
  refine seq_go fun nx e => ?_
  walk_at "r"
  refine ⟨small_l (by omega) (by omega), ?_⟩
  refine ⟨R, g, ⟨0, k % (2 * R) - R - 1, g, 1, 2 * R - k % (2 * R)⟩, rfl, ?_⟩
  walk_at "r"
  refine ⟨lp (la kl kl) kl, ?_⟩
  subst e
  refine seq_go fun nx e => ?_
  walk_at "r"
  refine ⟨R, h, ⟨0, R - 1 - k % (2 * R), h, 1, k % (2 * R)⟩, rfl, ?_⟩
  walk_at "r"
  refine ⟨lp (la (la kl kl) kl) kl, ?_⟩
  subst e
  refine seq_go fun nx e => ?_
  walk_at "r"
  refine ⟨small_l (by omega) (by omega), small_l (by omega) (by omega), ?_⟩
  refine ⟨R, h, ⟨R - k % (2 * R), 2 * R - 1 - k % (2 * R), g, -1, 2 * R - 1 - k % (2 * R)⟩, rfl, ?_⟩
  walk_at "r"
  refine ⟨lp (la (la (la kl kl) kl) kl) kl, ?_⟩
  subst e
  walk_at "r"
  refine ⟨small_l (by omega) (by omega), small_l (by omega) (by omega), ?_⟩
  refine ⟨R, h, ⟨2 * R - k % (2 * R), R - 1, h, 1, k % (2 * R) - 2 * R⟩, rfl, ?_⟩
  walk_at "r"
  refine ⟨lp (la (la (la (la kl kl) kl) kl) kl) kl, ?_⟩
  unfold kinsL whG whH at q
  simp only [List.flatMap_cons, List.flatMap_nil, List.append_nil, List.map_append, ← List.append_assoc] at q
  exact q
def sp_p_ups : ISp := fun ws S Q E => ∃ (R f n : Int), ws = [.int f, .int R, .int n] ∧ 0 < R ∧ 0 ≤ n ∧ n < R ∧ Q (.val (.lst ((kinsL R (f, upsK R f n)).map Sr.w))) S
theorem ok_p_ups (ws : List W) (S : Sto) (Q : R → Sto → Prop) (E : Exn → Sto → Prop) (h : sp_p_ups ws S Q E) : bodyI 3 ib_p_ups ws S Q E := by
  obtain ⟨R, f, n, rfl, hR, n0, n1, q⟩ := h
  unfold ib_p_ups
  refine seq_go fun nx e => ?_
  walk_at "r"
  unfold upsK kinsL at q
  refine ifb (fun z => ?_) (fun z => ?_)
  · rw [if_pos (by simpa using z)] at q
    simp only [List.flatMap_cons, List.flatMap_nil, List.append_nil] at q
    rw [kin_one (by omega) (by omega) (by omega)] at q
    exact q
  · have z : ¬ n = 0 := by simpa using z
    rw [if_neg z] at q
    simp only [List.flatMap_cons, List.flatMap_nil, List.append_nil] at q
    rw [kin_one (by omega) (by omega) (by omega), kin_one (by omega) (by omega) (by omega)] at q
    subst e
    walk_at "r"
    exact q
def ib_p_one_file : IS := (sSeq (sIf (tBl (iB gEq (iIx (iVar 0) (iC (.int 0))) (iC (.str "all")))) (sRet (iCall sp_p_ups (iCons (iVar 3) (iCons (iVar 2) (iCons (iB gMod (iIx (iVar 0) (iC (.int 1))) (iVar 2)) iNil))))) sNext)
  (sSeq (sIf (tAnd' (tBl (iB gEq (iIx (iVar 0) (iC (.int 0))) (iC (.str "up")))) (tBl (iB gEq (iVar 3) (iIx (iVar 0) (iC (.int 1)))))) (sRet (iCall sp_p_ups (iCons (iVar 3) (iCons (iVar 2) (iCons (iB gMod (iIx (iVar 0) (iC (.int 2))) (iVar 2)) iNil))))) sNext)
  (sSeq (sIf (tBl (iB gEq (iIx (iVar 0) (iC (.int 0))) (iC (.str "about")))) (sRet (iLst (iCons (iTup (iCons (iVar 3) (iCons (iC (.int 0)) (iCons (iB gSub (iVar 2) (iC (.int 1))) (iCons (iB gSub (iB gSub (iVar 1) (iC (.int 1))) (iVar 3)) (iCons (iNeg (iC (.int 1))) (iCons (iB gSub (iVar 2) (iC (.int 1))) iNil))))))) iNil))) sNext)
  (sSeq (sIf (tAnd' (tBl (iB (gIn false) (iIx (iVar 0) (iC (.int 0))) (iTup (iCons (iC (.str "swap")) (iCons (iC (.str "front")) iNil))))) (tBl (iB (gIn false) (iVar 3) (iSl (iVar 0) (oSome (iC (.int 1))) oNone)))) (sSeq (sSet 4 (iIf (tBl (iB gEq (iVar 3) (iIx (iVar 0) (iC (.int 1))))) (iIx (iVar 0) (iC (.int 2))) (iIx (iVar 0) (iC (.int 1)))))
    (sSeq (sIf (tBl (iB gEq (iIx (iVar 0) (iC (.int 0))) (iC (.str "swap")))) (sRet (iLst (iCons (iTup (iCons (iVar 3) (iCons (iC (.int 0)) (iCons (iB gSub (iVar 2) (iC (.int 1))) (iCons (iVar 4) (iCons (iC (.int 1)) (iCons (iC (.int 0)) iNil))))))) iNil))) sNext)
    (sRet (iB gAdd (iLst (iCons (iTup (iCons (iVar 3) (iCons (iC (.int 0)) (iCons (iC (.int 0)) (iCons (iVar 4) (iCons (iC (.int 1)) (iCons (iC (.int 0)) iNil))))))) iNil)) (iCall sp_p_kept_in (iCons (iVar 3) (iCons (iC (.int 1)) (iCons (iB gSub (iVar 2) (iC (.int 1))) (iCons (iVar 2) (iCons (iTup (iCons (iVar 3) (iCons (iC (.int 1)) (iCons (iC (.int 0)) iNil)))) iNil)))))))))) sNext)
  (sRet (iLst (iCons (iTup (iCons (iVar 3) (iCons (iC (.int 0)) (iCons (iB gSub (iVar 2) (iC (.int 1))) (iCons (iVar 3) (iCons (iC (.int 1)) (iCons (iC (.int 0)) iNil))))))) iNil)))))))
theorem kins_whole {R f to sg sh : Int} (hR : 0 < R) : kinsL R (f, [⟨0, R - 1, to, sg, sh⟩]) = [⟨f, 0, R - 1, to, sg, sh⟩] := by
  unfold kinsL
  simp only [List.flatMap_cons, List.flatMap_nil, List.append_nil]
  exact kin_one (by omega) (by omega) (by omega)
def sp_p_one_file : ISp := fun ws S Q E => ∃ (F R f : Int) (c : Call), ws = [c.w, .int F, .int R, .int f] ∧ 0 < R ∧ c.opn = false ∧ Q (.val (.lst ((kinsL R (f, oneK F R c f)).map Sr.w))) S
theorem ok_p_one_file (ws : List W) (S : Sto) (Q : R → Sto → Prop) (E : Exn → Sto → Prop) (h : sp_p_one_file ws S Q E) : bodyI 5 ib_p_one_file ws S Q E := by
  obtain ⟨F, R, f, c, rfl, hR, ho, q⟩ := h
  unfold ib_p_one_file
  have e1 : ∀ k : Int, 0 ≤ k % R ∧ k % R < R := fun k => ⟨Int.emod_nonneg k (by omega), Int.emod_lt_of_pos k hR⟩
  cases c with
  | all k =>
    refine seq_go fun nx e => ?_
    walk_at "rCall_w"
    exact ⟨hR, R, f, k % R, rfl, hR, (e1 k).1, (e1 k).2, q⟩
  | up g k =>
    refine seq_go fun nx e => ?_
    walk_at "rCall_w"
    subst e
    refine seq_go fun nx e => ?_
    walk_at "r"
    have last : f ≠ g → nx ⟨[.val (Call.up g k).w, .val (.int F), .val (.int R), .val (.int f), .none], S⟩ := fun z => by
      subst e
      refine seq_go fun nx e => ?_
      walk_at "rCall_w"
      subst e
      refine seq_go fun nx e => ?_
      walk_at "r"
      subst e
      walk_at "r"
      unfold oneK at q
      simp only [if_neg z] at q
      rw [kins_whole hR] at q
      exact q
    refine ifb (fun z => ?_) (fun z => last (by simpa using z))
    have z : f = g := by simpa using z
    unfold oneK at q
    simp only [if_pos z] at q
    exact ⟨hR, R, f, k % R, rfl, hR, (e1 k).1, (e1 k).2, q⟩
  | about =>
    refine seq_go fun nx e => ?_
    walk_at "rCall_w"
    subst e
    refine seq_go fun nx e => ?_
    walk_at "r"
    subst e
    refine seq_go fun nx e => ?_
    walk_at "r"
    unfold oneK at q
    simp only at q
    rw [kins_whole hR] at q
    exact q
  | swap g h =>
    refine seq_go fun nx e => ?_
    walk_at "rCall_w"
    subst e
    refine seq_go fun nx e => ?_
    walk_at "r"
    subst e
    refine seq_go fun nx e => ?_
    walk_at "r"
    subst e
    refine seq_go fun nx e => ?_
    walk_at "r"
    rw [two_eq]
    unfold oneK at q
    simp only at q
    refine ifb (fun z => ?_) (fun z => ?_)
    · have z := of_decide_eq_true z
      rw [if_neg (by omega), kins_whole hR] at q
      refine ifb (fun y => ?_) (fun y => ?_)
      · rw [if_pos (by simpa using y)] at q
        exact q
      · rw [if_neg (by simpa using y)] at q
        exact q
    · have z := of_decide_eq_false z
      rw [if_pos (by omega), kins_whole hR] at q
      subst e
      walk_at "r"
      exact q
  | front g h =>
    refine seq_go fun nx e => ?_
    walk_at "rCall_w"
    subst e
    refine seq_go fun nx e => ?_
    walk_at "r"
    subst e
    refine seq_go fun nx e => ?_
    walk_at "r"
    subst e
    refine seq_go fun nx e => ?_
    walk_at "r"
    rw [two_eq]
    unfold oneK at q
    simp only at q
    have fr : ∀ to, (kinsL R (f, [⟨0, 0, to, 1, 0⟩, ⟨1, R - 1, f, 1, 0⟩])).map Sr.w = .tup [.int f, .int 0, .int 0, .int to, .int 1, .int 0] :: (kinL R f ⟨1, R - 1, f, 1, 0⟩).map Sr.w := fun to => by
      unfold kinsL
      simp only [List.flatMap_cons, List.flatMap_nil, List.append_nil]
      rw [kin_one (by omega) (by omega) (by omega)]
      rfl
    have kl : ((kinL R f ⟨1, R - 1, f, 1, 0⟩).map Sr.w).length ≤ 1 := by rw [List.length_map]; exact kin_len
    refine ifb (fun z => ?_) (fun z => ?_)
    · have z := of_decide_eq_true z
      rw [if_neg (by omega), fr] at q
      refine ifb (fun y => ?_) (fun y => ?_)
      · rw [if_pos (by simpa using y)] at q
        refine ⟨R, f, ⟨1, R - 1, f, 1, 0⟩, rfl, ?_⟩
        walk_at "r"
        exact ⟨by rw [sizeLine_eq]; omega, q⟩
      · rw [if_neg (by simpa using y)] at q
        refine ⟨R, f, ⟨1, R - 1, f, 1, 0⟩, rfl, ?_⟩
        walk_at "r"
        exact ⟨by rw [sizeLine_eq]; omega, q⟩
    · have z := of_decide_eq_false z
      rw [if_pos (by omega), kins_whole hR] at q
      subst e
      walk_at "r"
      exact q
  | wheel g h k =>
    refine seq_go fun nx e => ?_
    walk_at "rCall_w"
    subst e
    refine seq_go fun nx e => ?_
    walk_at "r"
    subst e
    refine seq_go fun nx e => ?_
    walk_at "r"
    subst e
    refine seq_go fun nx e => ?_
    walk_at "r"
    subst e
    walk_at "r"
    unfold oneK at q
    simp only at q
    rw [kins_whole hR] at q
    exact q
  | halve => cases ho
  | pair => cases ho
  | others => cases ho
  | fill => cases ho
def ib_p_by_call_1 : IS := (sIf (tOr' (tBl (iB gNe (iIx (iVar 0) (iC (.int 0))) (iC (.str "wheel")))) (tBl (iB (gIn true) (iVar 4) (iSl (iVar 0) (oSome (iC (.int 1))) (oSome (iC (.int 3))))))) (sDrop (iMtO 3 gExtend (iCons (iCall sp_p_one_file (iCons (iVar 0) (iCons (iVar 1) (iCons (iVar 2) (iCons (iVar 4) iNil))))) iNil))) sNext)
def ib_p_by_call : IS := (sSeq (sSetN 3 (nIf (tBl (iB gEq (iIx (iVar 0) (iC (.int 0))) (iC (.str "wheel")))) (nCall sp_p_wheels (iCons (iVar 0) (iCons (iVar 2) iNil))) (nLst iNil)))
  (sSeq (sFor (lRange1 (iVar 1)) (gNm 4) ib_p_by_call_1)
  (sRetO 3)))
theorem cut4_134 {α : Type} {a b c d : α} : cutW [a, b, c, d] (some 1) (some 3) = [b, c] := rfl
def sp_p_by_call : ISp := fun ws S Q E => ∃ (F R : Int) (c : Call), ws = [c.w, .int F, .int R] ∧ Fil F ∧ 0 < R ∧ c.ok F ∧ c.opn = false ∧ Q (.new (.lst ((byL F R c).map Sr.w))) S
def Call.sep : Call → Int → Bool
  | .wheel g h _, f => !(f == g || f == h)
  | _, _ => true
def whP (R : Int) : Call → List Sr
  | .wheel g h k => kinsL R (g, whG R g h (k % (2 * R))) ++ kinsL R (h, whH R g h (k % (2 * R)))
  | _ => []
def flt (c : Call) (n : Nat) : List Int := ((List.range n).map fun (i : Nat) => (i : Int)).filter c.sep
def byA (F R : Int) (c : Call) (n : Nat) : List Sr := whP R c ++ (flt c n).flatMap fun f => kinsL R (f, oneK F R c f)
theorem byA_all {F R : Int} {c : Call} : byA F R c F.toNat = byL F R c := by
  have pl : (∀ f, c.sep f = true) → flt c F.toNat = files F := fun h => by
    unfold flt files
    exact List.filter_eq_self.mpr fun f _ => h f
  cases c with
  | wheel g h k =>
    unfold byA byL byK flt files whP
    simp only [List.flatMap_append, List.flatMap_cons, List.flatMap_nil, List.append_nil, List.flatMap_map]
    rfl
  | _ =>
    unfold byA byL byK
    rw [pl fun _ => rfl, List.flatMap_map]
    rfl
theorem byA_succ {F R : Int} {c : Call} {n : Nat} : byA F R c (n + 1) = byA F R c n ++ (if c.sep n = true then kinsL R ((n : Int), oneK F R c n) else []) := by
  unfold byA flt
  rw [List.range_succ, List.map_append, List.filter_append, List.flatMap_append, List.append_assoc]
  congr 2
  rw [List.map_cons, List.map_nil, List.filter_cons]
  by_cases z : c.sep n = true
  · rw [if_pos z, if_pos z, List.filter_nil, List.flatMap_cons, List.flatMap_nil, List.append_nil]
  · rw [if_neg z, if_neg z, List.filter_nil, List.flatMap_nil]
theorem whP_len {R : Int} {c : Call} : (whP R c).length ≤ 6 := by
  cases c with
  | wheel g h k =>
    have a := kins_len (R := R) (x := (g, whG R g h (k % (2 * R))))
    have b := kins_len (R := R) (x := (h, whH R g h (k % (2 * R))))
    unfold whG at a
    unfold whH at b
    simp only [List.length_cons, List.length_nil] at a b
    unfold whP
    rw [List.length_append]
    unfold whG whH
    omega
  | _ => exact Nat.zero_le _
theorem byA_len {F R : Int} {c : Call} {n : Nat} (hn : n ≤ 3) : (byA F R c n).length ≤ 12 := by
  unfold byA
  rw [List.length_append]
  have a : ((flt c n).flatMap fun f => kinsL R (f, oneK F R c f)).length ≤ (flt c n).length * 2 := len_flat fun f _ => Nat.le_trans kins_len oneK_len
  have b : (flt c n).length ≤ 3 := by
    unfold flt
    have := List.length_filter_le c.sep ((List.range n).map fun (i : Nat) => (i : Int))
    rw [List.length_map, List.length_range] at this
    omega
  have d := whP_len (R := R) (c := c)
  omega
theorem ok_p_by_call (ws : List W) (S : Sto) (Q : R → Sto → Prop) (E : Exn → Sto → Prop) (h : sp_p_by_call ws S Q E) : bodyI 5 ib_p_by_call ws S Q E := by
  obtain ⟨F, R, c, rfl, hF, hR, hc, ho, q⟩ := h
  have hF := hF
  unfold Fil at hF
  unfold ib_p_by_call
  refine seq_step ⟨[.val c.w, .val (.int F), .val (.int R), .own (.lst ((byA F R c 0).map Sr.w)), .none], S⟩ (fun nx k => ?_) ?_
  · cases c with
    | wheel g h' k' =>
      walk_at "rCall_w_nIf"
      refine ⟨R, g, h', k', rfl, hR, ?_⟩
      walk_at "r"
      unfold byA flt whP at k
      simp only [List.range_zero, List.map_nil, List.filter_nil, List.flatMap_nil, List.append_nil] at k
      exact k
    | _ =>
      walk_at "rCall_w_nIf"
      exact k
  refine seq_cut (fun st => ∃ x4 : Slot, st = ⟨[.val c.w, .val (.int F), .val (.int R), .own (.lst ((byL F R c).map Sr.w)), x4], S⟩) (fun nx k => ?_) (fun st ⟨x4, es⟩ => by subst es; exact q)
  walk_at "rsFor_lRange1"
  refine ⟨by unfold i62; omega, for_rng (fun i st => ∃ x4 : Slot, st = ⟨[.val c.w, .val (.int F), .val (.int R), .own (.lst ((byA F R c i).map Sr.w)), x4], S⟩) _ _ ⟨_, rfl⟩ (fun st ⟨x4, es⟩ => k st ⟨x4, by rw [es, byA_all]⟩) fun i hi st ny ⟨x4, es⟩ hn => ?_⟩
  subst es
  unfold ib_p_by_call_1
  walk_at "r"
  rw [Int.zero_add]
  have yes : c.sep i = true → sp_p_one_file [c.w, .int F, .int R, .int i] S (fun r S' => match [r.fz] with
      | [.lst ys] => ((byA F R c i).map Sr.w).length + ys.length ≤ sizeLine ∧ ny ⟨[.val c.w, .val (.int F), .val (.int R), .own (.lst ((byA F R c i).map Sr.w ++ ys)), .val (.int i)], S'⟩
      | _ => False) fun x S' => E x S' := fun z => ⟨F, R, i, c, rfl, hR, ho, by
    have a := byA_len (F := F) (R := R) (c := c) (n := i) (by omega)
    have b : (kinsL R ((i : Int), oneK F R c i)).length ≤ 2 := Nat.le_trans kins_len oneK_len
    refine ⟨?_, hn _ ⟨.val (.int i), ?_⟩⟩
    · rw [List.length_map, List.length_map, sizeLine_eq]; omega
    · rw [byA_succ, if_pos z, List.map_append]⟩
  have no : c.sep i = false → ny ⟨[.val c.w, .val (.int F), .val (.int R), .own (.lst ((byA F R c i).map Sr.w)), .val (.int i)], S⟩ := fun z => hn _ ⟨.val (.int i), by rw [byA_succ, if_neg (by rw [z]; decide), List.append_nil]⟩
  cases c with
  | wheel g h k =>
    simp! only [Call.w, cut4_134]
    rw [two_eq]
    refine ifb (fun z => yes ?_) (fun z => no ?_)
    · unfold Call.sep
      simp at z ⊢
      exact z
    · unfold Call.sep
      simp at z ⊢
      exact z
  | halve => cases ho
  | pair => cases ho
  | others => cases ho
  | fill => cases ho
  | _ =>
    walk_at "rCall_w"
    exact yes rfl
def ib_p_check_straight : IS := (sIf (tNot' (tTru' (iMeth [("Script", sp_m_Script_is_straight)] "is_straight" (iVar 0) iNil))) (sRaise0 "Open") sNext)
def sp_p_check_straight : ISp := fun ws S Q E => ∃ F cs, ws = [scrW F cs] ∧ Gd F cs ∧ (strB cs = true → Q (.val .non) S) ∧ (strB cs = false → E ⟨"Open", []⟩ S)
theorem ok_p_check_straight (ws : List W) (S : Sto) (Q : R → Sto → Prop) (E : Exn → Sto → Prop) (h : sp_p_check_straight ws S Q E) : bodyI 1 ib_p_check_straight ws S Q E := by
  obtain ⟨F, cs, rfl, g, h1, h2⟩ := h
  unfold ib_p_check_straight
  walk_at "r"
  refine ⟨F, cs, rfl, g, ?_⟩
  walk_at "r"
  cases e : strB cs with
  | true => exact ifF rfl (h1 e)
  | false => exact ifT rfl (h2 e)
def ib_p_stretches_1 : IS := (sSetN 2 (nPeek (nCall sp_p_joined (iCons (iVar 2) (iCons (iCall sp_p_by_call (iCons (iVar 3) (iCons (iProp [("Script", sp_m_Script_files)] "files" (iVar 0)) (iCons (iVar 1) iNil)))) iNil)))))
def ib_p_stretches : IS := (sSeq (sDrop (iCall sp_p_check_straight (iCons (iVar 0) iNil)))
  (sSeq (sSetN 2 (nLc (lRange1 (iProp [("Script", sp_m_Script_files)] "files" (iVar 0))) (gNm 4) tYes' (iTup (iCons (iVar 4) (iCons (iC (.int 0)) (iCons (iB gSub (iVar 1) (iC (.int 1))) (iCons (iVar 4) (iCons (iC (.int 1)) (iCons (iC (.int 0)) iNil))))))) [4]))
  (sSeq (sFor (lIter [("Script", "steps")] (iVar 0)) (gNm 3) ib_p_stretches_1)
  (sRetN (nPeek (nCall sp_p_longest (iCons (iVar 2) iNil)))))))
theorem run_inj {F R : Int} {cs : List Call} (hF : 0 < F) (hR : 0 < R) (hc : ∀ c ∈ cs, c.ok F) : Inj F R (run F R cs) := fun p q hp hq h => by
  rw [← run_inv hF hR hc hp, ← run_inv hF hR hc hq, h]
theorem chn_inn {F R : Int} (hR : 0 < R) : ∀ {l : List Sr} {f r : Int}, 0 ≤ f → 0 ≤ r → Chn F R l f r → ∀ s ∈ l, 0 ≤ s.f ∧ s.f < F ∧ 0 ≤ s.lo ∧ s.hi < R ∧ (f < s.f ∨ (s.f = f ∧ r ≤ s.lo)) ∧ s.lo ≤ s.hi
  | [], _, _, _, _, _, s, hs => nomatch hs
  | t :: l, f, r, f0, r0, h, s, hs => by
    obtain ⟨a1, a2, a3, a4, a5, a6⟩ := h
    rcases List.mem_cons.mp hs with rfl | hs
    · omega
    · split at a6
      · have := chn_inn hR (by omega) (Int.le_refl _) a6 s hs
        omega
      · have := chn_inn hR f0 (by omega) a6 s hs
        omega
theorem chn_dj {F R : Int} (hR : 0 < R) : ∀ {l : List Sr} {f r : Int}, 0 ≤ f → 0 ≤ r → Chn F R l f r → l.Pairwise fun s t => ∀ p, s.has p → ¬ t.has p
  | [], _, _, _, _, _ => List.Pairwise.nil
  | s :: l, f, r, f0, r0, h => by
    obtain ⟨a1, a2, a3, a4, a5, a6⟩ := h
    rw [List.pairwise_cons]
    split at a6
    · refine ⟨fun t ht p k1 k2 => ?_, chn_dj hR (by omega) (Int.le_refl _) a6⟩
      have i := chn_inn hR (by omega) (Int.le_refl _) a6 t ht
      obtain ⟨k11, k12, k13⟩ := k1
      obtain ⟨k21, k22, k23⟩ := k2
      omega
    · refine ⟨fun t ht p k1 k2 => ?_, chn_dj hR f0 (by omega) a6⟩
      have i := chn_inn hR f0 (by omega) a6 t ht
      obtain ⟨k11, k12, k13⟩ := k1
      obtain ⟨k21, k22, k23⟩ := k2
      omega
theorem chn_cov {F R : Int} : ∀ {l : List Sr} {f r : Int}, Chn F R l f r → ∀ p, At F R p → (f < p.2 ∨ (p.2 = f ∧ r ≤ p.1)) → ∃ s ∈ l, s.has p
  | [], f, r, h, p, hp, k => by
    obtain ⟨h1, h2⟩ := h
    obtain ⟨p1, p2, p3, p4⟩ := hp
    omega
  | s :: l, f, r, h, p, hp, k => by
    obtain ⟨a1, a2, a3, a4, a5, a6⟩ := h
    have hp2 := hp
    obtain ⟨p1, p2, p3, p4⟩ := hp2
    by_cases z : p.2 = f ∧ p.1 ≤ s.hi
    · exact ⟨s, List.mem_cons_self .., by omega, by omega, z.2⟩
    · split at a6
      · obtain ⟨t, ht, h⟩ := chn_cov a6 p hp (by omega)
        exact ⟨t, List.mem_cons_of_mem _ ht, h⟩
      · obtain ⟨t, ht, h⟩ := chn_cov a6 p hp (by omega)
        exact ⟨t, List.mem_cons_of_mem _ ht, h⟩
theorem can_prt {F R : Int} {φ : PM} {m : List Sr} (hR : 0 < R) (h : Can F R φ m 0 0) : Prt F R φ m :=
  ⟨h.ok, fun s hs => by
    have := chn_inn hR (Int.le_refl 0) (Int.le_refl 0) h.chn s hs
    omega, chn_dj hR (Int.le_refl 0) (Int.le_refl 0) h.chn, fun p hp => chn_cov h.chn p hp (by
    obtain ⟨p1, p2, p3, p4⟩ := hp
    omega)⟩
theorem rng_map0 {n : Nat} : rng 0 n = (List.range n).map fun (i : Nat) => W.int (0 + (i : Int)) := rfl
def sp_p_stretches : ISp := fun ws S Q E => ∃ (F R : Int) (cs : List Call), ws = [scrW F cs, .int R] ∧ Gd F cs ∧ 0 < R ∧ cs.length ≤ 10000 ∧ (strB cs = true → ∀ m, Can F R (run F R cs) m 0 0 → m.length ≤ 3 + 18 * cs.length → Q (.new (.lst (m.map Sr.w))) S) ∧ (strB cs = false → E ⟨"Open", []⟩ S)
theorem ok_p_stretches (ws : List W) (S : Sto) (Q : R → Sto → Prop) (E : Exn → Sto → Prop) (h : sp_p_stretches ws S Q E) : bodyI 5 ib_p_stretches ws S Q E := by
  obtain ⟨F, R, cs, rfl, g, hR, hl, h1, h2⟩ := h
  have hF := g.fil
  unfold Fil at hF
  unfold ib_p_stretches
  refine seq_go fun nx e => ?_
  walk_at "r"
  refine ⟨F, cs, rfl, g, fun z => ?_, h2⟩
  have q := h1 z
  have st : ∀ c ∈ cs, c.ok F ∧ c.opn = false := fun c hc => ⟨(g.gd c hc).ok, by
    have := List.all_eq_true.mp z c hc
    simpa using this⟩
  subst e
  refine seq_go fun nx e => ?_
  walk_at "rnLc_lRange1"
  refine ⟨F, cs, rfl, ?_⟩
  walk_at "r"
  refine ⟨by unfold i62; omega, ?_⟩
  rw [rng_map0]
  refine lc_fn ⟨[.val (scrW F cs), .val (.int R), .none, .none, .none], S⟩ (fun (i : Nat) => W.int (0 + (i : Int))) (fun i => (⟨(i : Int), 0, R - 1, (i : Int), 1, 0⟩ : Sr).w) (List.range F.toNat) _ (fun i hi Y hY => ?_) rfl (by rw [List.length_range, sizeLine_eq]; omega) fun st' es => ?_
  · walk_at "r"
    rw [Int.zero_add]
    exact hY _ rfl
  have e0 : (List.range F.toNat).map (fun (i : Nat) => (⟨(i : Int), 0, R - 1, (i : Int), 1, 0⟩ : Sr).w) = ((files F).map fun f => (⟨f, 0, R - 1, f, 1, 0⟩ : Sr)).map Sr.w := by
    unfold files
    rw [List.map_map, List.map_map]
    rfl
  rw [es, e0]
  walk_at "r"
  subst e
  refine seq_cut (fun st => ∃ (x3 x4 : Slot) (l : List Sr), Prt F R (run F R cs) l ∧ l.length ≤ 3 + 18 * cs.length ∧ st = ⟨[.val (scrW F cs), .val (.int R), .own (.lst (l.map Sr.w)), x3, x4], S⟩) (fun nx k => ?_) (fun st ⟨x3, x4, l, P, pl, es⟩ => ?_)
  · walk_at "rsFor_lIter"
    refine for_inv (fun zs st => ∃ (x3 x4 : Slot) (a b : List Call) (l : List Sr), cs = a ++ b ∧ zs = b.map Call.w ∧ Prt F R (run F R a) l ∧ l.length ≤ 3 + 18 * a.length ∧ st = ⟨[.val (scrW F cs), .val (.int R), .own (.lst (l.map Sr.w)), x3, x4], S⟩) _ _ ⟨_, _, [], cs, _, rfl, rfl, prt_id hR, by rw [List.length_map, files_len]; simp; omega, rfl⟩ (fun st ⟨x3, x4, a, b, l, e1, e2, P, pl, es⟩ => ?_) ?_
    · have eb : b = [] := by cases b with | nil => rfl | cons _ _ => cases e2
      rw [eb, List.append_nil] at e1
      subst e1
      exact k st ⟨x3, x4, l, P, pl, es⟩
    rintro z zs st ny ⟨x3, x4, a, b, l, e1, e2, P, pl, es⟩ hn
    obtain ⟨c, b, rfl⟩ : ∃ t c, b = t :: c := by cases b with | nil => cases e2 | cons t c => exact ⟨t, c, rfl⟩
    simp only [List.map_cons, List.cons.injEq] at e2
    obtain ⟨rfl, rfl⟩ := e2
    subst es
    have sc := st c (by rw [e1]; simp)
    have oa : ∀ c ∈ a, c.ok F := fun d hd => (st d (by rw [e1]; exact List.mem_append_left _ hd)).1
    have hla : a.length + 1 ≤ cs.length := by
      have := congrArg List.length e1
      rw [List.length_append, List.length_cons] at this
      omega
    have bl := byL_len (F := F) (R := R) (c := c) (by omega)
    unfold ib_p_stretches_1
    walk_at "r"
    refine ⟨F, cs, rfl, F, R, c, rfl, g.fil, hR, sc.1, sc.2, ?_⟩
    refine ⟨F, R, run F R a, mv F R c, l, byL F R c, rfl, by omega, hR, run_inj (by omega) hR oa, fun p hp => run_in (by omega) hR oa hp, fun p q hp hq h => ?_, P, prt_by hR sc.1 sc.2, by omega, fun m hm hml => ?_⟩
    · rw [← mv_tn (by omega) hR sc.1 hp, ← mv_tn (by omega) hR sc.1 hq, h]
    simp! only [plain_srs]
    have er : mv F R c ∘ run F R a = run F R (a ++ [c]) := by
      funext p
      rw [run_app]
      rfl
    rw [er] at hm
    refine hn _ ⟨.val c.w, x4, a ++ [c], b, m, by simp [e1], rfl, ?_, ?_, rfl⟩
    · exact can_prt hR hm
    · rw [List.length_append, List.length_singleton]
      omega
  subst es
  walk_at "r"
  refine ⟨F, R, run F R cs, l, rfl, by omega, hR, run_inj (by omega) hR fun c hc => (st c hc).1, P, by omega, fun m hm hml => ?_⟩
  simp! only [plain_srs]
  exact q m hm (by omega)
theorem sr_bd {F R : Int} {φ : PM} {m : List Sr} (hF : F ≤ 3) (hR : 0 < R) (hin : ∀ p, At F R p → At F R (φ p)) (P : Prt F R φ m) {s : Sr} (hs : s ∈ m) : ∀ i ∈ s.code, -(2 * R + 3) ≤ i ∧ i ≤ 2 * R + 3 := fun i hi => by
  have n := P.inn s hs
  have o := P.ok s hs
  have ne := o.ne
  have e := o.ev s.lo (Int.le_refl _) ne
  have a := hin (s.lo, s.f) ⟨n.2.2.1, by show s.lo < R; omega, n.1, n.2.1⟩
  rw [e] at a
  obtain ⟨a1, a2, a3, a4⟩ := a
  simp only [Sr.img] at a1 a2 a3 a4
  have g := o.sg
  unfold Sr.code at hi
  simp only [List.mem_cons, List.not_mem_nil, or_false] at hi
  rcases g with g | g <;> rw [g] at a1 a2 <;> rcases hi with rfl | rfl | rfl | rfl | rfl | rfl <;> omega
/-- all up to a place, whatever comes -/
def Upto (F R : Int) (φ : PM) (l : List Sr) (f r : Int) : Prop := ∀ m, Can F R φ m f r → Can F R φ (l ++ m) 0 0
theorem Upto.add {F R : Int} {φ : PM} {l : List Sr} {f r : Int} {s : Sr} (h : Upto F R φ l f r) (hf : f < F) (e1 : s.f = f) (e2 : s.lo = r) (ok : s.ok φ) (hR : s.hi < R) (one : s.lo = s.hi → s.sg = 1) (nc : s.hi + 1 < R → ¬ Cont φ s) :
    (s.hi + 1 = R → Upto F R φ (l ++ [s]) (f + 1) 0) ∧ (s.hi + 1 < R → Upto F R φ (l ++ [s]) f (s.hi + 1)) := by
  have key : ∀ m f' r', Can F R φ m f' r' → Chn F R (s :: m) f r → Can F R φ (l ++ [s] ++ m) 0 0 := fun m f' r' c ch => by
    rw [List.append_assoc]
    refine h _ ⟨ch, fun x hx => ?_, fun x hx => ?_, fun x hx => ?_⟩
    · rcases List.mem_cons.mp hx with rfl | hx
      · exact ok
      · exact c.ok x hx
    · rcases List.mem_cons.mp hx with rfl | hx
      · exact one
      · exact c.one x hx
    · rcases List.mem_cons.mp hx with rfl | hx
      · exact nc
      · exact c.nc x hx
  have ne := ok.ne
  exact ⟨fun z m c => key m _ _ c ⟨e1, e2, ne, hR, hf, by rw [if_pos z]; exact c.chn⟩, fun z m c => key m _ _ c ⟨e1, e2, ne, hR, hf, by rw [if_neg (by omega)]; exact c.chn⟩⟩
theorem Upto.nil {F R : Int} {φ : PM} : Upto F R φ [] 0 0 := fun _ c => c
theorem Upto.done {F R : Int} {φ : PM} {l : List Sr} (h : Upto F R φ l F 0) : Can F R φ l 0 0 := by
  have := h [] ⟨⟨rfl, rfl⟩, fun _ z => (nomatch z), fun _ z => (nomatch z), fun _ z => nomatch z⟩
  rw [List.append_nil] at this
  exact this
def ib_l_straight_kinds : IS := (sRet (iLst (iCons (iC (.str "all")) (iCons (iC (.str "up")) (iCons (iC (.str "up")) (iCons (iC (.str "swap")) (iCons (iC (.str "wheel")) (iCons (iC (.str "wheel")) (iCons (iC (.str "about")) (iCons (iC (.str "front")) (iCons (iC (.str "front")) iNil)))))))))))
def ib_l_stretches_1 : IS := (sAugI 7 (· + ·) (iC (.int 1)))
def ib_l_stretches_2 : IS := (sSeq (sPar3 7 8 9 (iVar 6) (iC (.int 1)) (iIx (iIx (iVar 5) (iVar 6)) (iC (.int 1))))
      (sSeq (sIf (tAnd' (tBl (iB gLt (iB gAdd (iVar 6) (iC (.int 1))) (iVar 2))) (tAnd' (tBl (iB gEq (iIx (iIx (iVar 5) (iB gAdd (iVar 6) (iC (.int 1)))) (iC (.int 1))) (iVar 9))) (tBl (iB gEq (iFn gAbs (iCons (iB gSub (iIx (iIx (iVar 5) (iB gAdd (iVar 6) (iC (.int 1)))) (iC (.int 0))) (iIx (iIx (iVar 5) (iVar 6)) (iC (.int 0)))) iNil)) (iC (.int 1)))))) (sSeq (sSet 8 (iB gSub (iIx (iIx (iVar 5) (iB gAdd (iVar 6) (iC (.int 1)))) (iC (.int 0))) (iIx (iIx (iVar 5) (iVar 6)) (iC (.int 0)))))
        (sWhile (tAnd' (tBl (iB gLt (iB gAdd (iVar 7) (iC (.int 1))) (iVar 2))) (tBl (iB gEq (iIx (iVar 5) (iB gAdd (iVar 7) (iC (.int 1)))) (iTup (iCons (iB gAdd (iIx (iIx (iVar 5) (iVar 7)) (iC (.int 0))) (iVar 8)) (iCons (iVar 9) iNil)))))) ib_l_stretches_1)) sNext)
      (sSeq (sDrop (iMtO 3 gAppend (iCons (iTup (iCons (iVar 4) (iCons (iVar 6) (iCons (iVar 7) (iCons (iVar 9) (iCons (iVar 8) (iCons (iB gSub (iIx (iIx (iVar 5) (iVar 6)) (iC (.int 0))) (iB gMul (iVar 8) (iVar 6))) iNil))))))) iNil)))
      (sSet 6 (iB gAdd (iVar 7) (iC (.int 1)))))))
def ib_l_stretches_3 : IS := (sSeq (sSetN 5 (nLc (lRange1 (iVar 2)) (gNm 10) tYes' (iCall sp_l_led (iCons (iVar 0) (iCons (iVar 1) (iCons (iVar 2) (iCons (iTup (iCons (iVar 10) (iCons (iVar 4) iNil))) iNil))))) [10]))
    (sSeq (sSet 6 (iC (.int 0)))
    (sWhile (tBl (iB gLt (iVar 6) (iVar 2))) ib_l_stretches_2)))
def ib_l_stretches : IS := (sSeq (sSetN 3 (nLst iNil))
  (sSeq (sFor (lRange1 (iVar 1)) (gNm 4) ib_l_stretches_3)
  (sRetO 3)))
def gls (φ : PM) (R f : Int) : List W := (List.range R.toNat).map fun (i : Nat) => pairW (φ ((i : Int), f))
theorem gls_at {φ : PM} {R f r : Int} (h0 : 0 ≤ r) (h1 : r < R) : atI (gls φ R f) r = some (pairW (φ (r, f))) := by
  unfold gls
  rw [atI_pos h0 (by rw [List.length_map, List.length_range]; omega)]
  rw [List.getElem_map, List.getElem_range, Int.toNat_of_nonneg h0]
def sp_l_straight_kinds : ISp := fun ws S Q E => ws = [] ∧ Q (.val (.lst ((["all", "up", "up", "swap", "wheel", "wheel", "about", "front", "front"] : List Str).map .str))) S
theorem ok_l_straight_kinds (ws : List W) (S : Sto) (Q : R → Sto → Prop) (E : Exn → Sto → Prop) (h : sp_l_straight_kinds ws S Q E) : bodyI 0 ib_l_straight_kinds ws S Q E := by
  obtain ⟨rfl, q⟩ := h
  unfold ib_l_straight_kinds
  walk_at "r"
  exact q
def sp_l_stretches : ISp := fun ws S Q E => ∃ (F R : Int) (cs : List Call), ws = [.lst (cs.map Call.w), .int F, .int R] ∧ Fil F ∧ Oks F cs ∧ 1 ≤ R ∧ R ≤ 10000 ∧ ∀ m, Can F R (run F R cs) m 0 0 → Q (.new (.lst (m.map Sr.w))) S
theorem ls_2 {EI : XI} {D : IEnds} {S : Sto} {F R f r : Int} {cs : List Call} {l : List Sr} {x5 : Slot} {x_last x_rise x_to x_row : Slot} (hF : Fil F) (hc : Oks F cs) (R1 : 1 ≤ R) (R2 : R ≤ 10000) (f0 : 0 ≤ f) (f1 : f < F) (r0 : 0 ≤ r) (r1 : r < R)
    (hx5 : x5 = .own (.lst (gls (run F R cs) R f)) ∨ x5 = .val (.lst (gls (run F R cs) R f))) (hl : (l.length : Int) ≤ 10000 * f + r)
    (q : ∀ (s : Sr) (x_last x_rise x_to x_row : Slot), s.f = f → s.lo = r → s.ok (run F R cs) → s.hi < R → (s.lo = s.hi → s.sg = 1) → (s.hi + 1 < R → ¬ Cont (run F R cs) s) →
      D.nx ⟨[.val (.lst (cs.map Call.w)), .val (.int F), .val (.int R), .own (.lst ((l ++ [s]).map Sr.w)), .val (.int f), .val (.lst (gls (run F R cs) R f)), .val (.int (s.hi + 1)), x_last, x_rise, x_to, x_row], S⟩) :
    ib_l_stretches_2 EI D ⟨[.val (.lst (cs.map Call.w)), .val (.int F), .val (.int R), .own (.lst (l.map Sr.w)), .val (.int f), x5, .val (.int r), x_last, x_rise, x_to, x_row], S⟩ := by
  unfold ib_l_stretches_2
  refine seq_step ⟨[.val (.lst (cs.map Call.w)), .val (.int F), .val (.int R), .own (.lst (l.map Sr.w)), .val (.int f), .val (.lst (gls (run F R cs) R f)), .val (.int r), .val (.int r), .val (.int 1), .val (.int (run F R cs (r, f)).2), x_row], S⟩ (fun nx k => ?_) ?_
  · rcases hx5 with rfl | rfl
    all_goals
      simp! only [gls_at r0 r1]
      exact k
  generalize hφ : run F R cs = φ at *
  refine seq_cut (fun st => ∃ s : Sr, s.f = f ∧ s.lo = r ∧ s.to = (φ (r, f)).2 ∧ s.sh = (φ (r, f)).1 - s.sg * r ∧ s.ok φ ∧ s.hi < R ∧ (s.lo = s.hi → s.sg = 1) ∧ (s.hi + 1 < R → ¬ Cont φ s) ∧
    st = ⟨[.val (.lst (cs.map Call.w)), .val (.int F), .val (.int R), .own (.lst (l.map Sr.w)), .val (.int f), .val (.lst (gls φ R f)), .val (.int r), .val (.int s.hi), .val (.int s.sg), .val (.int (φ (r, f)).2), x_row], S⟩) (fun nx k => ?_) (fun st ⟨s, h1, h2, h3, h4, h5, h6, h7, h8, es⟩ => ?_)
  · have single : ¬ (r + 1 < R ∧ (φ (r + 1, f)).2 = (φ (r, f)).2 ∧ ((φ (r + 1, f)).1 - (φ (r, f)).1 = 1 ∨ (φ (r + 1, f)).1 - (φ (r, f)).1 = -1)) → nx ⟨[.val (.lst (cs.map Call.w)), .val (.int F), .val (.int R), .own (.lst (l.map Sr.w)), .val (.int f), .val (.lst (gls φ R f)), .val (.int r), .val (.int r), .val (.int 1), .val (.int (φ (r, f)).2), x_row], S⟩ := fun z => by
      refine k _ ⟨⟨f, r, r, (φ (r, f)).2, 1, (φ (r, f)).1 - 1 * r⟩, rfl, rfl, rfl, rfl, ⟨Int.le_refl _, .inl rfl, fun i h1 h2 => ?_⟩, r1, fun _ => rfl, fun h c => z ⟨h, c.1, ?_⟩, rfl⟩
      · have : i = r := Int.le_antisymm h2 h1
        subst this
        unfold Sr.img
        exact Prod.ext (by show (φ (i, f)).1 = 1 * i + ((φ (i, f)).1 - 1 * i); omega) rfl
      · have c2 := c.2
        rw [if_pos rfl] at c2
        unfold Sr.img at c2
        simp only at c2
        omega
    walk_at "r"
    refine ifb (fun z => ?_) (fun z => single fun y => by have := of_decide_eq_false z; omega)
    have z := of_decide_eq_true z
    simp! only [gls_at (show 0 ≤ r + 1 by omega) z, gls_at r0 r1]
    have sg := single
    refine ifb (fun y => ?_) (fun y => sg fun x => by simp at y; exact y x.2.1)
    have y : (φ (r + 1, f)).2 = (φ (r, f)).2 := by simpa using y
    refine ifb (fun w => ?_) (fun w => sg fun x => by
      have w := beq_eq_false_iff_ne.mp w
      split at w <;> omega)
    have w : (φ (r + 1, f)).1 - (φ (r, f)).1 = 1 ∨ (φ (r + 1, f)).1 - (φ (r, f)).1 = -1 := by
      have w := eq_of_beq w
      split at w <;> omega
    generalize hg : (φ (r + 1, f)).1 - (φ (r, f)).1 = g at *
    refine ⟨fun m st => ∃ j, r ≤ j ∧ j < R ∧ m = (R - j).toNat ∧ (∀ i, r ≤ i → i ≤ j → φ (i, f) = ((φ (r, f)).1 + g * (i - r), (φ (r, f)).2)) ∧ st = ⟨[.val (.lst (cs.map Call.w)), .val (.int F), .val (.int R), .own (.lst (l.map Sr.w)), .val (.int f), .val (.lst (gls φ R f)), .val (.int r), .val (.int j), .val (.int g), .val (.int (φ (r, f)).2), x_row], S⟩, ⟨_, r, Int.le_refl _, r1, rfl, fun i h1 h2 => ?_, rfl⟩, fun m st ⟨j, j0, j1, em, hj, es⟩ => ?_⟩
    · have : i = r := Int.le_antisymm h2 h1
      rw [this, Int.sub_self, Int.mul_zero, Int.add_zero]
    subst es
    have fin : (j + 1 < R → ¬ φ (j + 1, f) = ((φ (j, f)).1 + g, (φ (r, f)).2)) → nx ⟨[.val (.lst (cs.map Call.w)), .val (.int F), .val (.int R), .own (.lst (l.map Sr.w)), .val (.int f), .val (.lst (gls φ R f)), .val (.int r), .val (.int j), .val (.int g), .val (.int (φ (r, f)).2), x_row], S⟩ := fun h => by
      have hjr : r < j := by
        by_cases q : j = r
        · subst q
          exact (h z (Prod.ext (by show (φ (j + 1, f)).1 = (φ (j, f)).1 + g; omega) y)).elim
        · omega
      have im : ∀ i, g * i + ((φ (r, f)).1 - g * r) = (φ (r, f)).1 + g * (i - r) := fun i => by rw [Int.mul_sub]; omega
      refine k _ ⟨⟨f, r, j, (φ (r, f)).2, g, (φ (r, f)).1 - g * r⟩, rfl, rfl, rfl, rfl, ⟨j0, w, fun i h1 h2 => ?_⟩, j1, fun z => by have z : r = j := z; omega, fun hh c => h hh ?_, rfl⟩
      · rw [hj i h1 h2]
        exact Prod.ext (im i).symm rfl
      · obtain ⟨c1, c2⟩ := c
        have c1 : (φ (j + 1, f)).2 = (φ (r, f)).2 := c1
        rw [if_neg (by show ¬ r = j; omega)] at c2
        have c2 : (φ (j + 1, f)).1 = g * j + ((φ (r, f)).1 - g * r) + g := c2
        rw [im] at c2
        have e := hj j j0 (Int.le_refl _)
        refine Prod.ext ?_ c1
        show (φ (j + 1, f)).1 = (φ (j, f)).1 + g
        rw [e, c2]
    walk_at "r"
    refine ifb (fun x => ?_) (fun x => fin fun y => by have := of_decide_eq_false x; omega)
    have x := of_decide_eq_true x
    simp! only [gls_at (show 0 ≤ j + 1 by omega) x, gls_at (show 0 ≤ j by omega) j1]
    refine ifb (fun v => ?_) (fun v => fin fun _ h => ?_)
    · rw [Bool.and_eq_true] at v
      have v1 := eq_of_beq v.1
      have v2 := eq_of_beq v.2
      unfold ib_l_stretches_1
      walk_at "r"
      refine ⟨_, ?_, j + 1, by omega, by omega, rfl, fun i h1 h2 => ?_, rfl⟩
      · omega
      · by_cases q : i ≤ j
        · exact hj i h1 q
        · have : i = j + 1 := by omega
          rw [this]
          have e := hj j j0 (Int.le_refl _)
          refine Prod.ext ?_ v2
          show (φ (j + 1, f)).1 = (φ (r, f)).1 + g * (j + 1 - r)
          rw [v1, e]
          show (φ (r, f)).1 + g * (j - r) + g = _
          rw [show j + 1 - r = (j - r) + 1 by omega, Int.mul_add, Int.mul_one]
          omega
    · rw [h] at v
      simp at v
  subst es
  have hfil := hF
  unfold Fil at hfil
  simp! only [gls_at r0 r1]
  refine ⟨sgm h5.sg, by rw [List.length_map, sizeLine_eq]; omega, ?_⟩
  have ew : s.w = .tup [.int f, .int r, .int s.hi, .int (φ (r, f)).2, .int s.sg, .int ((φ (r, f)).1 - s.sg * r)] := by
    unfold Sr.w
    rw [h1, h2, h3, h4]
  have := q s (.val (.int s.hi)) (.val (.int s.sg)) (.val (.int (φ (r, f)).2)) x_row h1 h2 h5 h6 h7 h8
  rw [List.map_append, List.map_cons, List.map_nil, ew] at this
  exact this
theorem ls_3 {EI : XI} {D : IEnds} {S : Sto} {F R f : Int} {cs : List Call} {l : List Sr} {x_goals x_first x_last x_rise x_to x_row : Slot} (hF : Fil F) (hc : Oks F cs) (R1 : 1 ≤ R) (R2 : R ≤ 10000) (f0 : 0 ≤ f) (f1 : f < F)
    (hl : (l.length : Int) ≤ 10000 * f) (hu : Upto F R (run F R cs) l f 0)
    (q : ∀ (m : List Sr) (x_goals x_first x_last x_rise x_to x_row : Slot), (m.length : Int) ≤ 10000 * (f + 1) → Upto F R (run F R cs) m (f + 1) 0 →
      D.nx ⟨[.val (.lst (cs.map Call.w)), .val (.int F), .val (.int R), .own (.lst (m.map Sr.w)), .val (.int f), x_goals, x_first, x_last, x_rise, x_to, x_row], S⟩) :
    ib_l_stretches_3 EI D ⟨[.val (.lst (cs.map Call.w)), .val (.int F), .val (.int R), .own (.lst (l.map Sr.w)), .val (.int f), x_goals, x_first, x_last, x_rise, x_to, x_row], S⟩ := by
  have hF2 := hF
  unfold Fil at hF2
  have ln : Ln F R := ⟨by omega, by omega, R1, by
    have : (10000 : Int) < 10 ^ 100 := by decide
    omega⟩
  unfold ib_l_stretches_3
  refine seq_go fun nx e => ?_
  walk_at "rnLc_lRange1"
  refine ⟨by unfold i62; omega, ?_⟩
  rw [rng_map0]
  refine lc_fn ⟨[.val (.lst (cs.map Call.w)), .val (.int F), .val (.int R), .own (.lst (l.map Sr.w)), .val (.int f), x_goals, x_first, x_last, x_rise, x_to, .none], S⟩ (fun (i : Nat) => W.int (0 + (i : Int))) (fun i => pairW (run F R cs ((i : Int), f))) (List.range R.toNat) _ (fun i hi Y hY => ?_) rfl (by rw [List.length_range, sizeLine_eq]; omega) fun st' es => ?_
  · have hi := List.mem_range.mp hi
    walk_at "r"
    rw [Int.zero_add]
    exact ⟨F, R, cs, ((i : Int), f), rfl, hc, ln, ⟨by show (0 : Int) ≤ i; omega, by show (i : Int) < R; omega, f0, f1⟩, hY _ rfl⟩
  rw [es]
  walk_at "r"
  subst e
  refine seq_go fun nx e => ?_
  walk_at "r"
  subst e
  refine ⟨fun m st => ∃ (r : Int) (l : List Sr) (x_goals x_last x_rise x_to x_row : Slot), 0 ≤ r ∧ m = (R - r).toNat ∧ ((r < R ∧ (l.length : Int) ≤ 10000 * f + r ∧ Upto F R (run F R cs) l f r ∧ (x_goals = .own (.lst (gls (run F R cs) R f)) ∨ x_goals = .val (.lst (gls (run F R cs) R f)))) ∨ (r = R ∧ (l.length : Int) ≤ 10000 * (f + 1) ∧ Upto F R (run F R cs) l (f + 1) 0)) ∧
    st = ⟨[.val (.lst (cs.map Call.w)), .val (.int F), .val (.int R), .own (.lst (l.map Sr.w)), .val (.int f), x_goals, .val (.int r), x_last, x_rise, x_to, x_row], S⟩, ⟨_, 0, l, _, _, _, _, _, Int.le_refl _, rfl, .inl ⟨by omega, by omega, hu, .inl rfl⟩, rfl⟩, ?_⟩
  rintro m st ⟨r, l, x1, x2, x3, x4, x5, r0, em, hh, es⟩
  subst es
  walk_at "r"
  refine ifb (fun z => ?_) (fun z => ?_)
  · have z := of_decide_eq_true z
    rcases hh with ⟨h1, h2, h3, h4⟩ | ⟨h1, _⟩
    · refine ls_2 hF hc R1 R2 f0 f1 r0 z h4 h2 fun s y1 y2 y3 y4 e1 e2 ok hs one nc => ?_
      have ad := h3.add f1 e1 e2 ok hs one nc
      have ne := ok.ne
      refine ⟨_, ?_, s.hi + 1, l ++ [s], _, _, _, _, _, by omega, rfl, ?_, rfl⟩
      · omega
      · rw [List.length_append, List.length_singleton]
        by_cases w : s.hi + 1 = R
        · exact .inr ⟨w, by omega, ad.1 w⟩
        · exact .inl ⟨by omega, by omega, ad.2 (by omega), .inr rfl⟩
    · omega
  · have z := of_decide_eq_false z
    rcases hh with ⟨h1, _⟩ | ⟨h1, h2, h3⟩
    · omega
    · exact q l _ _ _ _ _ _ h2 h3
theorem ok_l_stretches (ws : List W) (S : Sto) (Q : R → Sto → Prop) (E : Exn → Sto → Prop) (h : sp_l_stretches ws S Q E) : bodyI 11 ib_l_stretches ws S Q E := by
  obtain ⟨F, R, cs, rfl, hF, hc, R1, R2, q⟩ := h
  have hF2 := hF
  unfold Fil at hF2
  unfold ib_l_stretches
  refine seq_go fun nx e => ?_
  walk_at "r"
  subst e
  refine seq_cut (fun st => ∃ (x_file x_goals x_first x_last x_rise x_to x_row : Slot) (m : List Sr), Can F R (run F R cs) m 0 0 ∧ st = ⟨[.val (.lst (cs.map Call.w)), .val (.int F), .val (.int R), .own (.lst (m.map Sr.w)), x_file, x_goals, x_first, x_last, x_rise, x_to, x_row], S⟩) (fun nx k => ?_) (fun st ⟨x_file, x_goals, x_first, x_last, x_rise, x_to, x_row, m, hm, es⟩ => by subst es; exact q m hm)
  walk_at "rsFor_lRange1"
  refine ⟨by unfold i62; omega, for_rng (fun i st => ∃ (x_file x_goals x_first x_last x_rise x_to x_row : Slot) (m : List Sr), (m.length : Int) ≤ 10000 * i ∧ Upto F R (run F R cs) m i 0 ∧ st = ⟨[.val (.lst (cs.map Call.w)), .val (.int F), .val (.int R), .own (.lst (m.map Sr.w)), x_file, x_goals, x_first, x_last, x_rise, x_to, x_row], S⟩) _ _ ⟨_, _, _, _, _, _, _, [], by simp, Upto.nil, rfl⟩ (fun st ⟨x_file, x_goals, x_first, x_last, x_rise, x_to, x_row, m, h1, h2, es⟩ => ?_) fun i hi st nx ⟨x_file, x_goals, x_first, x_last, x_rise, x_to, x_row, m, h1, h2, es⟩ hn => ?_⟩
  · rw [Int.toNat_of_nonneg (by omega)] at h2
    exact k st ⟨x_file, x_goals, x_first, x_last, x_rise, x_to, x_row, m, h2.done, es⟩
  subst es
  walk_at "r"
  rw [Int.zero_add]
  refine ls_3 hF hc R1 R2 (by omega) (by omega) h1 h2 fun m x_goals x_first x_last x_rise x_to x_row h1 h2 => hn _ ⟨_, _, _, _, _, _, _, m, by omega, ?_, rfl⟩
  exact h2
theorem kb_NoneType_int : kitB "NoneType" "int" = some false := rfl
theorem kb_NoneType_bool : kitB "NoneType" "bool" = some false := rfl
theorem kb_NoneType_str : kitB "NoneType" "str" = some false := rfl
theorem kb_NoneType_tuple : kitB "NoneType" "tuple" = some false := rfl
theorem kb_NoneType_list : kitB "NoneType" "list" = some false := rfl
theorem kb_NoneType_dict : kitB "NoneType" "dict" = some false := rfl
theorem kb_bool_int : kitB "bool" "int" = some true := rfl
theorem kb_bool_bool : kitB "bool" "bool" = some true := rfl
theorem kb_bool_str : kitB "bool" "str" = some false := rfl
theorem kb_bool_tuple : kitB "bool" "tuple" = some false := rfl
theorem kb_bool_list : kitB "bool" "list" = some false := rfl
theorem kb_bool_dict : kitB "bool" "dict" = some false := rfl
theorem kb_int_int : kitB "int" "int" = some true := rfl
theorem kb_int_bool : kitB "int" "bool" = some false := rfl
theorem kb_int_str : kitB "int" "str" = some false := rfl
theorem kb_int_tuple : kitB "int" "tuple" = some false := rfl
theorem kb_int_list : kitB "int" "list" = some false := rfl
theorem kb_int_dict : kitB "int" "dict" = some false := rfl
theorem kb_str_int : kitB "str" "int" = some false := rfl
theorem kb_str_bool : kitB "str" "bool" = some false := rfl
theorem kb_str_str : kitB "str" "str" = some true := rfl
theorem kb_str_tuple : kitB "str" "tuple" = some false := rfl
theorem kb_str_list : kitB "str" "list" = some false := rfl
theorem kb_str_dict : kitB "str" "dict" = some false := rfl
theorem kb_tuple_int : kitB "tuple" "int" = some false := rfl
theorem kb_tuple_bool : kitB "tuple" "bool" = some false := rfl
theorem kb_tuple_str : kitB "tuple" "str" = some false := rfl
theorem kb_tuple_tuple : kitB "tuple" "tuple" = some true := rfl
theorem kb_tuple_list : kitB "tuple" "list" = some false := rfl
theorem kb_tuple_dict : kitB "tuple" "dict" = some false := rfl
theorem kb_list_int : kitB "list" "int" = some false := rfl
theorem kb_list_bool : kitB "list" "bool" = some false := rfl
theorem kb_list_str : kitB "list" "str" = some false := rfl
theorem kb_list_tuple : kitB "list" "tuple" = some false := rfl
theorem kb_list_list : kitB "list" "list" = some true := rfl
theorem kb_list_dict : kitB "list" "dict" = some false := rfl
theorem kb_dict_int : kitB "dict" "int" = some false := rfl
theorem kb_dict_bool : kitB "dict" "bool" = some false := rfl
theorem kb_dict_str : kitB "dict" "str" = some false := rfl
theorem kb_dict_tuple : kitB "dict" "tuple" = some false := rfl
theorem kb_dict_list : kitB "dict" "list" = some false := rfl
theorem kb_dict_dict : kitB "dict" "dict" = some true := rfl
theorem ok_up {c : Call} (h : c.ok 2) : c.ok 3 := by
  cases c <;> simp only [Call.ok, Two] at * <;> omega
theorem Gd.up3 {cs : List Call} (g : Gd 2 cs) : Gd 3 cs := ⟨.inr rfl, fun c hc => ⟨ok_up (g.gd c hc).ok, (g.gd c hc).nz⟩, g.len⟩
abbrev strK : List Str := ["all", "up", "up", "swap", "wheel", "wheel", "about", "front", "front"]
theorem straight_word {c : Call} (h : c.word ∈ strK) : c.opn = false := by
  cases c <;> first | rfl | (simp only [Call.word] at h; exact absurd h (by decide))
theorem strB_of {cs : List Call} (h : ∀ c ∈ cs, c.opn = false) : strB cs = true := List.all_eq_true.mpr fun c hc => by rw [h c hc]; rfl
theorem sr_repn {F R : Int} {cs : List Call} {m : List Sr} {n : Nat} (g : Gd F cs) (hR : 0 < R) (hB : R < 10 ^ 100) (h : Can F R (run F R cs) m 0 0) (hl : m.length ≤ n) : Rep 2 (1223 * n + 3) (.lst (m.map Sr.w)) := by
  have hF := g.fil
  unfold Fil at hF
  have P := can_prt hR h
  have r := rep_lst (d := 1) (n := 1221) (ws := m.map Sr.w) fun w hw => by
    obtain ⟨s, hs, rfl⟩ := List.mem_map.mp hw
    have r := rep_tup (d := 0) (n := 201) (ws := s.code.map W.int) fun w hw => by
      obtain ⟨i, hi, rfl⟩ := List.mem_map.mp hw
      have b := sr_bd (by omega) hR (fun p hp => run_in (by omega) hR g.ok hp) P hs i hi
      refine rep_int ?_
      unfold Bd lim
      have : (10 : Int) ^ 200 = 10 ^ 100 * 10 ^ 100 := by decide
      have h2 : (10 : Int) < 10 ^ 100 := by decide
      have h3 : (10 : Int) * 10 ^ 100 ≤ 10 ^ 100 * 10 ^ 100 := by decide
      omega
    exact r.up (Nat.le_refl _) (by rw [List.length_map]; show 201 * 6 + 2 * 6 + 3 ≤ 1221; decide)
  refine r.up (Nat.le_refl _) ?_
  rw [List.length_map]
  omega
theorem lc_id {g : IG} {ie : IE} {vs : List Nat} {Q : SO → Stt → Prop} (st0 : Stt) (f : W → W) (as : List W) (st : Stt) (h : ∀ a ∈ as, ∀ Y : W → Stt → Prop, (∀ st', st'.wipe vs = st0 → Y (f a) st') → g a st0 fun st1 => ie noX st1 Y)
    (e : st.wipe vs = st0) (hl : as.length ≤ sizeLine) (q : ∀ st', st'.wipe vs = st0 → Q (.lst (as.map f)) st') : lcGo g tYes' ie vs Q as [] st := by
  have := lc_fn (g := g) (ie := ie) (vs := vs) (Q := Q) st0 id f as st h e hl q
  rwa [List.map_id] at this
def RN (d n : Nat) (w : W) : Prop := okN d w = true ∧ (toN w).showable = true ∧ (toN w).shown.length ≤ n
def rnB (d n : Nat) (w : W) : Bool := okN d w && ((toN w).showable && decide ((toN w).shown.length ≤ n))
theorem rn_dec {d n : Nat} {w : W} (h : rnB d n w = true) : RN d n w := by
  simp only [rnB, Bool.and_eq_true, decide_eq_true_eq] at h
  exact h
theorem okN_up : ∀ {d d' : Nat}, d ≤ d' → ∀ w : W, okN d w = true → okN d' w = true
  | _, d', _, .non, _ => by cases d' <;> rfl
  | _, d', _, .bl _, _ => by cases d' <;> rfl
  | _, d', _, .int _, _ => by cases d' <;> rfl
  | _, d', _, .str _, _ => by cases d' <;> rfl
  | d + 1, d' + 1, h, .tup ws, k => List.all_eq_true.mpr fun x hx => okN_up (Nat.le_of_succ_le_succ h) x (List.all_eq_true.mp (show ws.all (okN d) = true from k) x hx)
  | d + 1, d' + 1, h, .lst ws, k => List.all_eq_true.mpr fun x hx => okN_up (Nat.le_of_succ_le_succ h) x (List.all_eq_true.mp (show ws.all (okN d) = true from k) x hx)
  | d + 1, d' + 1, h, .dct ws, k => List.all_eq_true.mpr fun x hx => okN_up (Nat.le_of_succ_le_succ h) x.2 (List.all_eq_true.mp (show (ws.all fun p => okN d p.2) = true from k) x hx)
  | 0, _, _, .tup ws, k => by simp [okN] at k
  | 0, _, _, .lst ws, k => by simp [okN] at k
  | 0, _, _, .dct ws, k => by simp [okN] at k
  | d + 1, 0, h, _, _ => by omega
  | d, _, _, .obj _ _, k => by cases d <;> simp [okN] at k
  | d, _, _, .dcT _, k => by cases d <;> simp [okN] at k
  | d, _, _, .exn _ _ _ _, k => by cases d <;> simp [okN] at k
  | d, _, _, .ref _, k => by cases d <;> simp [okN] at k
  | d, _, _, .ty _, k => by cases d <;> simp [okN] at k
  | d, _, _, .scr _, k => by cases d <;> simp [okN] at k
  | d, _, _, .glo _, k => by cases d <;> simp [okN] at k
theorem RN.up {d d' n n' : Nat} {w : W} (h : RN d n w) (hd : d ≤ d') (hn : n ≤ n') : RN d' n' w := ⟨okN_up hd w h.1, h.2.1, Nat.le_trans h.2.2 hn⟩
theorem RN.rep {d n : Nat} {w : W} (h : RN d n w) (hd : d ≤ 60 := by decide) (hn : n ≤ sizeLine := by decide) : RepN w := h.up hd hn
mutual
theorem toN_of : ∀ {d : Nat} (w : W), okD d w = true → toN w = toD w ∧ okN d w = true
  | d, .non, _ => by cases d <;> exact ⟨rfl, rfl⟩
  | d, .bl _, _ => by cases d <;> exact ⟨rfl, rfl⟩
  | d, .int _, _ => by cases d <;> exact ⟨rfl, rfl⟩
  | d, .str _, _ => by cases d <;> exact ⟨rfl, rfl⟩
  | d + 1, .tup ws, h => by
    obtain ⟨a, b⟩ := toNs_of ws (show ws.all (okD d) = true from h)
    exact ⟨congrArg PyData.tuple a, b⟩
  | d + 1, .lst ws, h => by
    obtain ⟨a, b⟩ := toNs_of ws (show ws.all (okD d) = true from h)
    exact ⟨congrArg PyData.list a, b⟩
  | 0, .tup ws, h => by simp [okD] at h
  | 0, .lst ws, h => by simp [okD] at h
  | d, .dct _, h => by cases d <;> simp [okD] at h
  | d, .obj _ _, h => by cases d <;> simp [okD] at h
  | d, .dcT _, h => by cases d <;> simp [okD] at h
  | d, .exn _ _ _ _, h => by cases d <;> simp [okD] at h
  | d, .ref _, h => by cases d <;> simp [okD] at h
  | d, .ty _, h => by cases d <;> simp [okD] at h
  | d, .scr _, h => by cases d <;> simp [okD] at h
  | d, .glo _, h => by cases d <;> simp [okD] at h
theorem toNs_of : ∀ {d : Nat} (ws : List W), ws.all (okD d) = true → toNs ws = toDs ws ∧ ws.all (okN d) = true
  | _, [], _ => ⟨rfl, rfl⟩
  | d, w :: ws, h => by
    rw [List.all_cons, Bool.and_eq_true] at h
    obtain ⟨a, b⟩ := toN_of w h.1
    obtain ⟨a2, b2⟩ := toNs_of ws h.2
    refine ⟨?_, by rw [List.all_cons, b, b2]; rfl⟩
    show toN w :: toNs ws = toD w :: toDs ws
    rw [a, a2]
end
theorem Rep.rn {d n : Nat} {w : W} (h : Rep d n w) : RN d n w := by
  obtain ⟨a, b⟩ := toN_of w h.1
  exact ⟨b, by rw [a]; exact h.2.1, by rw [a]; exact h.2.2⟩
/-- what repr takes -/
def AlN (x : W) : Prop := if refW x = true then RepN x else RepOk x
theorem AlN.ref {x : W} (h : refW x = true) (r : RepN x) : AlN x := by unfold AlN; rw [if_pos h]; exact r
theorem AlN.sca {x : W} (h : refW x = false) (r : RepOk x) : AlN x := by unfold AlN; rw [if_neg (by rw [h]; decide)]; exact r
theorem alN_of {d n : Nat} {x : W} (h : RN d n x) (hd : d ≤ 60 := by decide) (hn : n ≤ sizeLine := by decide) (k : refW x = false → RepOk x) : AlN x := by
  cases e : refW x with
  | true => exact .ref e (h.rep hd hn)
  | false => exact .sca e (k e)
/-- the odd values -/
structure Od (x : W) : Prop where
  rn : RN 30 100000 x
  sc : refW x = false → RepOk x
theorem Od.al {x : W} (h : Od x) : AlN x := alN_of h.rn (k := h.sc)
theorem RepN.ok {x : W} (h : RepN x) : okN 60 x = true := h.1
abbrev Lx (d : PyData) : List Nat := d.shown.cps.toList
def qsB (s : Str) : Bool := decide ((PySem.reprText s).cps.toList = 39 :: (s.cps.toList ++ [39])) && !s.cps.toList.contains 39
theorem qs_text {s : Str} (h : qsB s = true) : (PySem.reprText s).cps.toList = 39 :: (s.cps.toList ++ [39]) ∧ 39 ∉ s.cps.toList := by
  unfold qsB at h
  simp only [Bool.and_eq_true, decide_eq_true_eq, Bool.not_eq_true'] at h
  exact ⟨h.1, fun z => by have := h.2; simp [z] at this⟩
mutual
/-- trees of ints and plain words -/
def tR : PyData → Bool
  | .int _ => true
  | .str s => qsB s
  | .list xs => tRs xs
  | .tuple xs => tRs xs
  | _ => false
def tRs : List PyData → Bool
  | [] => true
  | x :: xs => tR x && tRs xs
end
mutual
/-- data whose words are plain -/
def xR : PyData → Bool
  | .str s => qsB s
  | .list xs => xRs xs
  | .tuple xs => xRs xs
  | _ => true
def xRs : List PyData → Bool
  | [] => true
  | x :: xs => xR x && xRs xs
end
/-- what may stand behind an item -/
def Dl (r : List Nat) : Prop := r = [] ∨ ∃ c s, r = c :: s ∧ (c = 44 ∨ c = 41 ∨ c = 93)
theorem int_chars {i : Int} {c : Nat} (h : c ∈ Lx (.int i)) : c = 45 ∨ (48 ≤ c ∧ c ≤ 57) := by
  by_cases z : c = 45 ∨ (48 ≤ c ∧ c ≤ 57)
  · exact z
  · exact absurd h (shown_int_free' (by omega) i)
theorem int_text (i : Int) : Lx (.int i) = (toString i).toList.map Char.toNat := by
  unfold Lx
  rw [PyData.shown_int]
  exact signs_ofString _
theorem map_toNat_inj : ∀ {a b : List Char}, a.map Char.toNat = b.map Char.toNat → a = b
  | [], [], _ => rfl
  | [], _ :: _, h => by simp at h
  | _ :: _, [], h => by simp at h
  | x :: a, y :: b, h => by
    simp only [List.map_cons, List.cons.injEq] at h
    rw [Char.toNat_inj.mp h.1, map_toNat_inj h.2]
theorem digits_inj10 {m n : Nat} (h : Nat.toDigits 10 m = Nat.toDigits 10 n) : m = n := by
  rw [← Nat.ofDigitChars_ten_toDigits (n := m), h, Nat.ofDigitChars_ten_toDigits]
theorem int_list (i : Int) : (toString i).toList = if 0 ≤ i then Nat.toDigits 10 i.toNat else '-' :: Nat.toDigits 10 (-i).toNat := by
  rw [Int.toString_eq_repr, Int.repr_eq_if]
  split
  · rw [Nat.toList_repr]
  · rw [String.toList_append, Nat.toList_repr]
    rfl
theorem no_minus {n : Nat} {l : List Char} (h : Nat.toDigits 10 n = '-' :: l) : False := by
  have := Nat.isDigit_of_mem_toDigits (b := 10) (n := n) (c := '-') (by decide) (by decide) (by rw [h]; exact List.mem_cons_self)
  revert this
  decide
theorem int_inj {i j : Int} (h : Lx (.int i) = Lx (.int j)) : i = j := by
  rw [int_text, int_text] at h
  have h := map_toNat_inj h
  rw [int_list, int_list] at h
  split at h
  · split at h
    · have := digits_inj10 h
      omega
    · exact (no_minus h).elim
  · split at h
    · exact (no_minus h.symm).elim
    · simp only [List.cons.injEq, true_and] at h
      have := digits_inj10 h
      omega
theorem int_ne (i : Int) : ∃ c s, Lx (.int i) = c :: s ∧ (c = 45 ∨ (48 ≤ c ∧ c ≤ 57)) := by
  cases e : Lx (.int i) with
  | nil =>
    rw [int_text, int_list] at e
    split at e
    · exact absurd (List.map_eq_nil_iff.mp e) Nat.toDigits_ne_nil
    · cases e
  | cons c s => exact ⟨c, s, rfl, int_chars (i := i) (by rw [e]; exact List.mem_cons_self)⟩
/-- two runs of plain letters, each up to a letter of another kind -/
theorem span_eq {ok : Nat → Prop} : ∀ {a b r r' : List Nat}, (∀ c ∈ a, ok c) → (∀ c ∈ b, ok c) → (∀ c s, r = c :: s → ¬ ok c) → (∀ c s, r' = c :: s → ¬ ok c) → a ++ r = b ++ r' → a = b ∧ r = r'
  | [], [], _, _, _, _, _, _, e => ⟨rfl, e⟩
  | [], y :: b, r, r', _, hb, hr, _, e => absurd (hb y List.mem_cons_self) (hr y _ (by simpa using e))
  | x :: a, [], r, r', ha, _, _, hr', e => absurd (ha x List.mem_cons_self) (hr' x _ (by simpa using e.symm))
  | x :: a, y :: b, r, r', ha, hb, hr, hr', e => by
    simp only [List.cons_append, List.cons.injEq] at e
    obtain ⟨e1, e2⟩ := span_eq (fun c h => ha c (List.mem_cons_of_mem _ h)) (fun c h => hb c (List.mem_cons_of_mem _ h)) hr hr' e.2
    exact ⟨by rw [e.1, e1], e2⟩
/-- the items, a comma between -/
def Js : List PyData → List Nat
  | [] => []
  | [x] => Lx x
  | x :: y :: l => Lx x ++ 44 :: 32 :: Js (y :: l)
theorem join_js : ∀ xs : List PyData, (Str.join ", " (PyData.shownAll xs)).cps.toList = Js xs
  | [] => rfl
  | [x] => rfl
  | x :: y :: l => by
    have e : PyData.shownAll (x :: y :: l) = x.shown :: y.shown :: PyData.shownAll l := by rw [PyData.shownAll_cons, PyData.shownAll_cons]
    have e2 : PyData.shownAll (y :: l) = y.shown :: PyData.shownAll l := PyData.shownAll_cons y l
    rw [e, join_cons_cons, cps_toList_append, cps_toList_append, ← e2, join_js (y :: l)]
    show (Lx x ++ [44, 32]) ++ Js (y :: l) = _
    rw [List.append_assoc]
    rfl
theorem list_text (xs : List PyData) : Lx (.list xs) = 91 :: (Js xs ++ [93]) := by
  unfold Lx
  rw [PyData.shown_list, cps_toList_append, cps_toList_append, join_js]
  rfl
def Te (xs : List PyData) : List Nat := if xs.length = 1 then [44, 41] else [41]
theorem tup_text (xs : List PyData) : Lx (.tuple xs) = 40 :: (Js xs ++ Te xs) := by
  unfold Lx
  rw [PyData.shown_tuple, cps_toList_append, cps_toList_append, join_js]
  have : (Str.ofString (if (xs.length == 1) = true then ",)" else ")")).cps.toList = Te xs := by
    unfold Te
    by_cases z : xs.length = 1
    · rw [if_pos z, if_pos (by simpa using z)]; decide
    · rw [if_neg z, if_neg (by simpa using z)]; decide
  rw [this]
  rfl
theorem dict_text (kvs : List (PyData × PyData)) : ∃ s, Lx (.dict kvs) = 123 :: s := by
  unfold Lx
  rw [PyData.shown_dict, cps_toList_append, cps_toList_append]
  exact ⟨_, rfl⟩
theorem non_text : Lx .none = [78, 111, 110, 101] := by unfold Lx; rw [PyData.shown_none]; exact signs_None
theorem bl_text (b : Bool) : Lx (.bool b) = if b = true then [84, 114, 117, 101] else [70, 97, 108, 115, 101] := by
  unfold Lx
  rw [PyData.shown_bool]
  cases b
  · exact signs_False
  · exact signs_True
theorem str_text {s : Str} (h : qsB s = true) : Lx (.str s) = 39 :: (s.cps.toList ++ [39]) := by
  unfold Lx
  rw [PyData.shown_str]
  exact (qs_text h).1
theorem fst_ne {x : PyData} (h : xR x = true) : ∃ c s, Lx x = c :: s ∧ c ≠ 93 ∧ c ≠ 41 := by
  cases x with
  | none => exact ⟨_, _, non_text, by decide, by decide⟩
  | bool b => cases b <;> exact ⟨_, _, bl_text _, by decide, by decide⟩
  | int i =>
    obtain ⟨c, s, e, k⟩ := int_ne i
    exact ⟨c, s, e, by omega, by omega⟩
  | str s => exact ⟨_, _, str_text h, by decide, by decide⟩
  | list xs => exact ⟨_, _, list_text xs, by decide, by decide⟩
  | tuple xs => exact ⟨_, _, tup_text xs, by decide, by decide⟩
  | dict kvs =>
    obtain ⟨s, e⟩ := dict_text kvs
    exact ⟨_, s, e, by decide, by decide⟩
theorem tR_xR : ∀ t : PyData, tR t = true → xR t = true := by
  have key : ∀ n : Nat, ∀ t : PyData, sizeOf t ≤ n → tR t = true → xR t = true := by
    intro n
    induction n with
    | zero => intro t h; cases t <;> simp at h
    | succ n ih =>
      have all : ∀ xs : List PyData, sizeOf xs ≤ n → tRs xs = true → xRs xs = true := by
        intro xs
        induction xs with
        | nil => intro _ _; rfl
        | cons x xs ihx =>
          intro h k
          have k : (tR x && tRs xs) = true := k
          obtain ⟨k1, k2⟩ := Bool.and_eq_true_iff.mp k
          simp only [List.cons.sizeOf_spec] at h
          show (xR x && xRs xs) = true
          rw [ih x (by omega) k1, ihx (by omega) k2]
          rfl
      intro t h k
      cases t with
      | list xs =>
        simp only [PyData.list.sizeOf_spec] at h
        exact all xs (by omega) k
      | tuple xs =>
        simp only [PyData.tuple.sizeOf_spec] at h
        exact all xs (by omega) k
      | str s => exact k
      | none => rfl
      | bool b => rfl
      | int i => rfl
      | dict kvs => rfl
  exact fun t h => key _ t (Nat.le_refl _) h
theorem dl_int {r : List Nat} (h : Dl r) : ∀ c s, r = c :: s → ¬ (c = 45 ∨ (48 ≤ c ∧ c ≤ 57)) := fun c s e => by
  rcases h with h | ⟨c', s', h, k⟩
  · rw [h] at e; cases e
  · rw [h] at e
    injection e with e1 e2
    omega
theorem dl_39 {a b r r' : List Nat} (ha : 39 ∉ a) (hb : 39 ∉ b) (e : a ++ 39 :: r = b ++ 39 :: r') : a = b ∧ r = r' := by
  have := span_eq (ok := fun c => c ≠ 39) (fun c h z => ha (z ▸ h)) (fun c h z => hb (z ▸ h)) (fun c s e => by injection e with e1 _; simp [← e1]) (fun c s e => by injection e with e1 _; simp [← e1]) e
  exact ⟨this.1, by injection this.2⟩
/-- what an int's text begins with -/
theorem int_not {i : Int} {c : Nat} {s r r' : List Nat} (hc : ¬ (c = 45 ∨ (48 ≤ c ∧ c ≤ 57))) (e : c :: (s ++ r) = Lx (.int i) ++ r') : False := by
  obtain ⟨c', s', e', k⟩ := int_ne i
  rw [e'] at e
  injection e with e1 _
  exact hc (e1 ▸ k)
theorem dl_93 (r : List Nat) : Dl (93 :: r) := .inr ⟨_, _, rfl, .inr (.inr rfl)⟩
theorem dl_41 (r : List Nat) : Dl (41 :: r) := .inr ⟨_, _, rfl, .inr (.inl rfl)⟩
theorem dl_44 (r : List Nat) : Dl (44 :: r) := .inr ⟨_, _, rfl, .inl rfl⟩
mutual
theorem sep : ∀ (t x : PyData) {r r' : List Nat}, tR t = true → xR x = true → Dl r → Dl r' → Lx x ++ r = Lx t ++ r' → x = t ∧ r = r'
  | .int i, x, r, r', ht, hx, dr, dr', e => by
    cases x with
    | int j =>
      obtain ⟨e1, e2⟩ := span_eq (fun c h => int_chars h) (fun c h => int_chars h) (dl_int dr) (dl_int dr') e
      exact ⟨by rw [int_inj e1], e2⟩
    | none => rw [non_text] at e; exact (int_not (by decide) e).elim
    | bool b => rw [bl_text] at e; cases b <;> exact (int_not (by decide) e).elim
    | str s => rw [str_text hx] at e; exact (int_not (by decide) e).elim
    | list xs => rw [list_text] at e; exact (int_not (by decide) e).elim
    | tuple xs => rw [tup_text] at e; exact (int_not (by decide) e).elim
    | dict kvs =>
      obtain ⟨s, e'⟩ := dict_text kvs
      rw [e'] at e
      exact (int_not (by decide) e).elim
  | .str s, x, r, r', ht, hx, dr, dr', e => by
    rw [str_text ht] at e
    cases x with
    | str s' =>
      rw [str_text hx] at e
      simp only [List.cons_append, List.append_assoc, List.cons.injEq, true_and, List.nil_append] at e
      obtain ⟨e1, e2⟩ := dl_39 (qs_text hx).2 (qs_text ht).2 e
      exact ⟨by rw [str_eq_of_lists e1], e2⟩
    | int j => exact (int_not (by decide) e.symm).elim
    | none => rw [non_text] at e; injection e with e _; cases e
    | bool b => rw [bl_text] at e; cases b <;> (injection e with e _; cases e)
    | list xs => rw [list_text] at e; injection e with e _; cases e
    | tuple xs => rw [tup_text] at e; injection e with e _; cases e
    | dict kvs =>
      obtain ⟨s, e'⟩ := dict_text kvs
      rw [e'] at e
      injection e with e _; cases e
  | .list ts, x, r, r', ht, hx, dr, dr', e => by
    rw [list_text] at e
    cases x with
    | list xs =>
      rw [list_text] at e
      simp only [List.cons_append, List.append_assoc, List.cons.injEq, true_and, List.nil_append] at e
      obtain ⟨e1, e2⟩ := sepJ ts xs 93 (.inl rfl) ht hx e
      exact ⟨by rw [e1], e2⟩
    | int j => exact (int_not (by decide) e.symm).elim
    | none => rw [non_text] at e; injection e with e _; cases e
    | bool b => rw [bl_text] at e; cases b <;> (injection e with e _; cases e)
    | str s => rw [str_text hx] at e; injection e with e _; cases e
    | tuple xs => rw [tup_text] at e; injection e with e _; cases e
    | dict kvs =>
      obtain ⟨s, e'⟩ := dict_text kvs
      rw [e'] at e
      injection e with e _; cases e
  | .tuple ts, x, r, r', ht, hx, dr, dr', e => by
    rw [tup_text] at e
    cases x with
    | tuple xs =>
      rw [tup_text] at e
      simp only [List.cons_append, List.append_assoc, List.cons.injEq, true_and, List.nil_append] at e
      obtain ⟨e1, e2⟩ := sepT ts xs ht hx e
      exact ⟨by rw [e1], e2⟩
    | int j => exact (int_not (by decide) e.symm).elim
    | none => rw [non_text] at e; injection e with e _; cases e
    | bool b => rw [bl_text] at e; cases b <;> (injection e with e _; cases e)
    | str s => rw [str_text hx] at e; injection e with e _; cases e
    | list xs => rw [list_text] at e; injection e with e _; cases e
    | dict kvs =>
      obtain ⟨s, e'⟩ := dict_text kvs
      rw [e'] at e
      injection e with e _; cases e
  | .none, x, _, _, ht, _, _, _, _ => by cases ht
  | .bool b, x, _, _, ht, _, _, _, _ => by cases ht
  | .dict b, x, _, _, ht, _, _, _, _ => by cases ht
theorem sepJ : ∀ (ts xs : List PyData) (k : Nat) {r r' : List Nat}, k = 93 ∨ k = 41 → tRs ts = true → xRs xs = true → Js xs ++ k :: r = Js ts ++ k :: r' → xs = ts ∧ r = r'
  | [], xs, k, r, r', hk, ht, hx, e => by
    cases xs with
    | nil =>
      injection e with _ e
      exact ⟨rfl, e⟩
    | cons x xs =>
      obtain ⟨hx1, _⟩ := Bool.and_eq_true_iff.mp (show (xR x && xRs xs) = true from hx)
      obtain ⟨c, s, ec, n1, n2⟩ := fst_ne hx1
      have : ∃ s', Js (x :: xs) = c :: s' := by
        cases xs with
        | nil => exact ⟨s, ec⟩
        | cons y l => exact ⟨_, by show Lx x ++ _ = _; rw [ec]; rfl⟩
      obtain ⟨s', es⟩ := this
      rw [es] at e
      injection e with e _
      omega
  | d :: ds, [], k, r, r', hk, ht, hx, e => by
    obtain ⟨ht1, _⟩ := Bool.and_eq_true_iff.mp (show (tR d && tRs ds) = true from ht)
    obtain ⟨c, s, ec, n1, n2⟩ := fst_ne (tR_xR d ht1)
    have : ∃ s', Js (d :: ds) = c :: s' := by
      cases ds with
      | nil => exact ⟨s, ec⟩
      | cons y l => exact ⟨_, by show Lx d ++ _ = _; rw [ec]; rfl⟩
    obtain ⟨s', es⟩ := this
    rw [es] at e
    injection e with e _
    omega
  | [d], [x], k, r, r', hk, ht, hx, e => by
    obtain ⟨ht1, _⟩ := Bool.and_eq_true_iff.mp (show (tR d && tRs []) = true from ht)
    obtain ⟨hx1, _⟩ := Bool.and_eq_true_iff.mp (show (xR x && xRs []) = true from hx)
    have dk : ∀ r, Dl (k :: r) := fun r => by rcases hk with rfl | rfl; exact dl_93 r; exact dl_41 r
    obtain ⟨e1, e2⟩ := sep d x ht1 hx1 (dk r) (dk r') e
    injection e2 with _ e2
    exact ⟨by rw [e1], e2⟩
  | [d], x :: y :: l, k, r, r', hk, ht, hx, e => by
    obtain ⟨ht1, _⟩ := Bool.and_eq_true_iff.mp (show (tR d && tRs []) = true from ht)
    obtain ⟨hx1, _⟩ := Bool.and_eq_true_iff.mp (show (xR x && xRs (y :: l)) = true from hx)
    have dk : ∀ r, Dl (k :: r) := fun r => by rcases hk with rfl | rfl; exact dl_93 r; exact dl_41 r
    have e : Lx x ++ (44 :: 32 :: (Js (y :: l) ++ k :: r)) = Lx d ++ k :: r' := by
      have e : (Lx x ++ 44 :: 32 :: Js (y :: l)) ++ k :: r = Lx d ++ k :: r' := e
      rw [List.append_assoc] at e
      exact e
    obtain ⟨e1, e2⟩ := sep d x ht1 hx1 (dl_44 _) (dk r') e
    injection e2 with e2 _
    omega
  | d :: d2 :: ds, [x], k, r, r', hk, ht, hx, e => by
    obtain ⟨ht1, _⟩ := Bool.and_eq_true_iff.mp (show (tR d && tRs (d2 :: ds)) = true from ht)
    obtain ⟨hx1, _⟩ := Bool.and_eq_true_iff.mp (show (xR x && xRs []) = true from hx)
    have dk : ∀ r, Dl (k :: r) := fun r => by rcases hk with rfl | rfl; exact dl_93 r; exact dl_41 r
    have e : Lx x ++ k :: r = Lx d ++ (44 :: 32 :: (Js (d2 :: ds) ++ k :: r')) := by
      refine e.trans ?_
      show (Lx d ++ 44 :: 32 :: Js (d2 :: ds)) ++ k :: r' = _
      rw [List.append_assoc]
      rfl
    obtain ⟨e1, e2⟩ := sep d x ht1 hx1 (dk r) (dl_44 _) e
    injection e2 with e2 _
    omega
  | d :: d2 :: ds, x :: y :: l, k, r, r', hk, ht, hx, e => by
    obtain ⟨ht1, ht2⟩ := Bool.and_eq_true_iff.mp (show (tR d && tRs (d2 :: ds)) = true from ht)
    obtain ⟨hx1, hx2⟩ := Bool.and_eq_true_iff.mp (show (xR x && xRs (y :: l)) = true from hx)
    have e : Lx x ++ (44 :: 32 :: (Js (y :: l) ++ k :: r)) = Lx d ++ (44 :: 32 :: (Js (d2 :: ds) ++ k :: r')) := by
      have e : (Lx x ++ 44 :: 32 :: Js (y :: l)) ++ k :: r = (Lx d ++ 44 :: 32 :: Js (d2 :: ds)) ++ k :: r' := e
      rw [List.append_assoc, List.append_assoc] at e
      exact e
    obtain ⟨e1, e2⟩ := sep d x ht1 hx1 (dl_44 _) (dl_44 _) e
    injection e2 with _ e2
    injection e2 with _ e2
    obtain ⟨e3, e4⟩ := sepJ (d2 :: ds) (y :: l) k hk ht2 hx2 e2
    exact ⟨by rw [e1, e3], e4⟩
theorem sepT : ∀ (ts xs : List PyData) {r r' : List Nat}, tRs ts = true → xRs xs = true → Js xs ++ (Te xs ++ r) = Js ts ++ (Te ts ++ r') → xs = ts ∧ r = r'
  | [], xs, r, r', ht, hx, e => by
    cases xs with
    | nil =>
      injection e with _ e
      exact ⟨rfl, e⟩
    | cons x xs =>
      obtain ⟨hx1, _⟩ := Bool.and_eq_true_iff.mp (show (xR x && xRs xs) = true from hx)
      obtain ⟨c, s, ec, n1, n2⟩ := fst_ne hx1
      have : ∃ s', Js (x :: xs) = c :: s' := by
        cases xs with
        | nil => exact ⟨s, ec⟩
        | cons y l => exact ⟨_, by show Lx x ++ _ = _; rw [ec]; rfl⟩
      obtain ⟨s', es⟩ := this
      rw [es] at e
      injection e with e _
      omega
  | d :: ds, [], r, r', ht, hx, e => by
    obtain ⟨ht1, _⟩ := Bool.and_eq_true_iff.mp (show (tR d && tRs ds) = true from ht)
    obtain ⟨c, s, ec, n1, n2⟩ := fst_ne (tR_xR d ht1)
    have : ∃ s', Js (d :: ds) = c :: s' := by
      cases ds with
      | nil => exact ⟨s, ec⟩
      | cons y l => exact ⟨_, by show Lx d ++ _ = _; rw [ec]; rfl⟩
    obtain ⟨s', es⟩ := this
    rw [es] at e
    injection e with e _
    omega
  | [d], [x], r, r', ht, hx, e => by
    obtain ⟨ht1, _⟩ := Bool.and_eq_true_iff.mp (show (tR d && tRs []) = true from ht)
    obtain ⟨hx1, _⟩ := Bool.and_eq_true_iff.mp (show (xR x && xRs []) = true from hx)
    obtain ⟨e1, e2⟩ := sep d x ht1 hx1 (dl_44 (41 :: r)) (dl_44 (41 :: r')) e
    injection e2 with _ e2
    injection e2 with _ e2
    exact ⟨by rw [e1], e2⟩
  | [d], x :: y :: l, r, r', ht, hx, e => by
    obtain ⟨ht1, _⟩ := Bool.and_eq_true_iff.mp (show (tR d && tRs []) = true from ht)
    obtain ⟨hx1, _⟩ := Bool.and_eq_true_iff.mp (show (xR x && xRs (y :: l)) = true from hx)
    have e : Lx x ++ (44 :: 32 :: (Js (y :: l) ++ (Te (x :: y :: l) ++ r))) = Lx d ++ 44 :: 41 :: r' := by
      have e : (Lx x ++ 44 :: 32 :: Js (y :: l)) ++ (Te (x :: y :: l) ++ r) = Lx d ++ 44 :: 41 :: r' := e
      rw [List.append_assoc] at e
      exact e
    obtain ⟨e1, e2⟩ := sep d x ht1 hx1 (dl_44 _) (dl_44 _) e
    injection e2 with _ e2
    injection e2 with e2 _
    cases e2
  | d :: d2 :: ds, [x], r, r', ht, hx, e => by
    obtain ⟨ht1, _⟩ := Bool.and_eq_true_iff.mp (show (tR d && tRs (d2 :: ds)) = true from ht)
    obtain ⟨hx1, _⟩ := Bool.and_eq_true_iff.mp (show (xR x && xRs []) = true from hx)
    have e : Lx x ++ 44 :: 41 :: r = Lx d ++ (44 :: 32 :: (Js (d2 :: ds) ++ (Te (d :: d2 :: ds) ++ r'))) := by
      have e : Lx x ++ 44 :: 41 :: r = (Lx d ++ 44 :: 32 :: Js (d2 :: ds)) ++ (Te (d :: d2 :: ds) ++ r') := e
      rw [List.append_assoc] at e
      exact e
    obtain ⟨e1, e2⟩ := sep d x ht1 hx1 (dl_44 _) (dl_44 _) e
    injection e2 with _ e2
    injection e2 with e2 _
    cases e2
  | d :: d2 :: ds, x :: y :: l, r, r', ht, hx, e => by
    obtain ⟨ht1, ht2⟩ := Bool.and_eq_true_iff.mp (show (tR d && tRs (d2 :: ds)) = true from ht)
    obtain ⟨hx1, hx2⟩ := Bool.and_eq_true_iff.mp (show (xR x && xRs (y :: l)) = true from hx)
    have t1 : Te (d :: d2 :: ds) = [41] := by unfold Te; rw [if_neg (by simp)]
    have t2 : Te (x :: y :: l) = [41] := by unfold Te; rw [if_neg (by simp)]
    rw [t1, t2] at e
    have e : Lx x ++ (44 :: 32 :: (Js (y :: l) ++ 41 :: r)) = Lx d ++ (44 :: 32 :: (Js (d2 :: ds) ++ 41 :: r')) := by
      have e : (Lx x ++ 44 :: 32 :: Js (y :: l)) ++ 41 :: r = (Lx d ++ 44 :: 32 :: Js (d2 :: ds)) ++ 41 :: r' := e
      rw [List.append_assoc, List.append_assoc] at e
      exact e
    obtain ⟨e1, e2⟩ := sep d x ht1 hx1 (dl_44 _) (dl_44 _) e
    injection e2 with _ e2
    injection e2 with _ e2
    obtain ⟨e3, e4⟩ := sepJ (d2 :: ds) (y :: l) 41 (.inr rfl) ht2 hx2 e2
    exact ⟨by rw [e1, e3], e4⟩
end
theorem shown_inj {t x : PyData} (ht : tR t = true) (hx : xR x = true) (e : x.shown = t.shown) : x = t :=
  (sep t x (r := []) (r' := []) ht hx (.inl rfl) (.inl rfl) (by show x.shown.cps.toList ++ [] = t.shown.cps.toList ++ []; rw [e])).1
def rowB (w : W) : Bool := match w with
  | .tup us => us.length == 6 && us.all isI
  | _ => false
def lisB (x : W) : Bool := match x with
  | .lst ws => ws.all rowB
  | _ => false
theorem okN_ty {n : Nat} {x : W} (h : okN n x = true) : tyN x ≠ none := by
  cases x <;> first | (intro z; cases z; done) | (cases n <;> simp [okN] at h)
def rowF (w : W) : Option Unit := if rowB w = true then none else some ()
theorem rowF_none {ws : List W} (h : ws.findSome? rowF = none) : ws.all rowB = true := by
  rw [List.findSome?_eq_none_iff] at h
  refine List.all_eq_true.mpr fun w hw => ?_
  have := h w hw
  unfold rowF at this
  split at this
  · assumption
  · cases this
theorem rowF_some {ws : List W} {w : W} (hw : w ∈ ws) (h : rowB w = false) : ws.all rowB = false := by
  cases e : ws.all rowB with
  | false => rfl
  | true =>
    have := List.all_eq_true.mp e w hw
    rw [h] at this
    cases this
def ib_p_is_list_of_1 : IS := (sIf (tOr' (tNot' (tTru' (iIsi ["Script"] (iCons (iVar 2) (iCons (iC (.ty "tuple")) iNil))))) (tOr' (tBl (iB gNe (iFn gLen (iCons (iVar 2) iNil)) (iVar 1))) (tNot' (tTru' (iFn (gAll fun bs => bs.all id) (iCons (iFz (nLc (lSeq (iVar 2)) (gNm 3) tYes' (iCall sp_p_is_integer (iCons (iVar 3) iNil)) [3])) iNil)))))) (sRet (iC (.bl false))) sNext)
def ib_p_is_list_of : IS := (sSeq (sIf (tNot' (tTru' (iIsi ["Script"] (iCons (iVar 0) (iCons (iC (.ty "list")) iNil))))) (sRet (iC (.bl false))) sNext)
  (sSeq (sFor (lSeq (iVar 0)) (gNm 2) ib_p_is_list_of_1)
  (sRet (iC (.bl true)))))
def sp_p_is_list_of : ISp := fun ws S Q E => ∃ x, ws = [x, .int 6] ∧ (okN 60 x = true ∨ ∃ F cs, x = scrW F cs) ∧ Q (.val (.bl (lisB x))) S
theorem ok_p_is_list_of (ws : List W) (S : Sto) (Q : R → Sto → Prop) (E : Exn → Sto → Prop) (h : sp_p_is_list_of ws S Q E) : bodyI 4 ib_p_is_list_of ws S Q E := by
  obtain ⟨x, rfl, hx, q⟩ := h
  unfold ib_p_is_list_of
  refine seq_go fun nx e => ?_
  rcases hx with hx | ⟨F, cs, rfl⟩
  · cases x with
    | lst ws =>
      simp (decide := true) only [bodyI, start0, sSeq, sNext, sNever, sCont, sBreak, sDrop, sRet, sRetN, sRet0, sRetO, sIf, sSet, sSetN, sSetP, sPar, sParEN, sParNE, sPar3, sAsg, gNm, gsNil, gsCons, gTp, sAugI, sIxO, sIxS, sAugS, stoL, setW, iVar, iC, iNil, iCons, iTup, iLst, nLst, iFz, iB, gAdd, gI, gIC, gSub, gMul, gDiv, gMod, gPow, gLt, gLe, gGt, gGe, gEq, gNe, gIn, gIsN, isN, iNeg, tTru', gTru, tBl, iChain, tAnd', tOr', tNot', tYes', iIf, iAnd, iOr, iNot, iIx, gIx, atW, iIxO, ownL, oNone, oSome, iSl, gSl, iRevL, iCall, nCall, iFn, Stt.put, Stt.puts, iMtO, gAppend, gInsert, gExtend, gLen, iLenO, gAbs, gInt, gMinMax, gList, gTuple, iListRg, gIsi, tyN, gRepr, cut_13, cut_1_2, cut_1_3, cut_m2, cut_m3, cut_m4, atI_m2, atI_m3, atI_m4, iOfT, tKdIn, iKdIx, atI_0, atI_1, atI_2, atI_3, ixN_4_0, ixN_4_1, ixN_4_2, ixN_4_3, Sto.put_same, Sto.put_put, toNat_2, List.map, List.replicate, List.length_cons, List.length_nil, List.getElem?_cons_zero, List.getElem?_cons_succ, List.getElem?_nil, List.set_cons_zero, List.set_cons_succ, List.set_nil, List.cons_append, List.nil_append, List.append_nil, if_true, if_false, fz_val, fz_new, so_lst, so_dct, so_ins, eqW_ii, eqW_ss, eqW_tt, eqW_ll, eqW_nn, eqW_bb, eqW_ni, eqW_in, eqW_nt, eqW_tn, eqW_nl, eqW_ln, eqW_is, eqW_si, eqWs_nil, eqWs_cons, eqWs_nc, eqWs_cn, okD_int, okD_str, okD_bl, okD_non, okD_tup, okD_lst, eqOk_ii, eqOk_ss, eqOk_nn, eqOk_bb, eqOk_in, eqOk_ni, eqOk_tt, eqOk_ll, flatW_int, flatW_str, flatW_bl, flatW_non, inW, List.any_cons, List.any_nil, List.all_cons, List.all_nil, Bool.or_false, Bool.or_true, Bool.true_or, Bool.false_or, Bool.and_true, Bool.true_and, Bool.and_false, Bool.false_and, Bool.not_true, Bool.not_false, Bool.false_eq_true, true_and, and_true, beq_self_eq_true, List.isEmpty_cons, List.isEmpty_nil, Int.reduceNeg, eq_self, forall_const, iFld, objOf, iProp, iMeth, nMake, iInv, iMulM, iLenM, iIsi, sAtt, iRevT, lIter, nRep, lEnum, lZip, iEqM, gOwn, iDGet2, iAddO, nDisp, nDNew, iPairs, keysW, keyW, nFn, gListN, nListRg, iTupRg, nIf, sParM, iItems, putsR, Sh.R.slot, gIsB, isB, iPeek, tPeek, iPeekS, Stt.ps, noOwn, gInD, nPeek, Stt.pk, frzS, plainW, plainWs, tyS, tyIn, cOk, isAny, isOne, Option.map_some, lk_ne, List.lookup_nil, putW, lk_self, iXf, iIsE, Hnd.w, sRaise1, sRaise0, sTryE, gMax3, gEqN, gReprN, iIdxT, iIdxL, iInRg, nListM, iBR, iFnR, iPub, iMtR, drW, drWs, nOwn, nMeth, nSl, nAdd, nAddO, iMtN, sAugL, gSortedG, tTruO, refW_tup, refW_lst, refW_dct, refW_int, refW_str, refW_bl, refW_non, kb_NoneType_int, kb_NoneType_bool, kb_NoneType_str, kb_NoneType_tuple, kb_NoneType_list, kb_NoneType_dict, kb_bool_int, kb_bool_bool, kb_bool_str, kb_bool_tuple, kb_bool_list, kb_bool_dict, kb_int_int, kb_int_bool, kb_int_str, kb_int_tuple, kb_int_list, kb_int_dict, kb_str_int, kb_str_bool, kb_str_str, kb_str_tuple, kb_str_list, kb_str_dict, kb_tuple_int, kb_tuple_bool, kb_tuple_str, kb_tuple_tuple, kb_tuple_list, kb_tuple_dict, kb_list_int, kb_list_bool, kb_list_str, kb_list_tuple, kb_list_list, kb_list_dict, kb_dict_int, kb_dict_bool, kb_dict_str, kb_dict_tuple, kb_dict_list, kb_dict_dict]
      subst e
      have hws : ws.all (okN 59) = true := hx
      refine seq_go fun nx e => ?_
      walk_at "rsFor_lSeq_gItems"
      rw [show ws = ws.map id from (List.map_id ws).symm]
      refine for_find id rowF (fun st => ∃ x2 : Slot, st = ⟨[.val (.lst ws), .val (.int 6), x2, .none], S⟩) ws _ ⟨_, by rw [List.map_id]⟩ (fun hn st ⟨x2, es⟩ => ?_) fun w hw st nx' ⟨x2, es⟩ hn hs => ?_
      · subst es
        subst e
        have q : Q (.val (.bl (ws.all rowB))) S := q
        rw [rowF_none hn] at q
        walk_at "r"
        exact q
      · subst es
        have q : Q (.val (.bl (ws.all rowB))) S := q
        have ow := List.all_eq_true.mp hws w hw
        have bad : rowB w = false → Q (.val (.bl false)) S := fun h => by
          rw [rowF_some hw h] at q
          exact q
        show _
        unfold ib_p_is_list_of_1
        cases w with
        | tup us =>
          simp (decide := true) only [bodyI, start0, sSeq, sNext, sNever, sCont, sBreak, sDrop, sRet, sRetN, sRet0, sRetO, sIf, sSet, sSetN, sSetP, sPar, sParEN, sParNE, sPar3, sAsg, gNm, gsNil, gsCons, gTp, sAugI, sIxO, sIxS, sAugS, stoL, setW, iVar, iC, iNil, iCons, iTup, iLst, nLst, iFz, iB, gAdd, gI, gIC, gSub, gMul, gDiv, gMod, gPow, gLt, gLe, gGt, gGe, gEq, gNe, gIn, gIsN, isN, iNeg, tTru', gTru, tBl, iChain, tAnd', tOr', tNot', tYes', iIf, iAnd, iOr, iNot, iIx, gIx, atW, iIxO, ownL, oNone, oSome, iSl, gSl, iRevL, iCall, nCall, iFn, Stt.put, Stt.puts, iMtO, gAppend, gInsert, gExtend, gLen, iLenO, gAbs, gInt, gMinMax, gList, gTuple, iListRg, gIsi, tyN, gRepr, cut_13, cut_1_2, cut_1_3, cut_m2, cut_m3, cut_m4, atI_m2, atI_m3, atI_m4, iOfT, tKdIn, iKdIx, atI_0, atI_1, atI_2, atI_3, ixN_4_0, ixN_4_1, ixN_4_2, ixN_4_3, Sto.put_same, Sto.put_put, toNat_2, List.map, List.replicate, List.length_cons, List.length_nil, List.getElem?_cons_zero, List.getElem?_cons_succ, List.getElem?_nil, List.set_cons_zero, List.set_cons_succ, List.set_nil, List.cons_append, List.nil_append, List.append_nil, if_true, if_false, fz_val, fz_new, so_lst, so_dct, so_ins, eqW_ii, eqW_ss, eqW_tt, eqW_ll, eqW_nn, eqW_bb, eqW_ni, eqW_in, eqW_nt, eqW_tn, eqW_nl, eqW_ln, eqW_is, eqW_si, eqWs_nil, eqWs_cons, eqWs_nc, eqWs_cn, okD_int, okD_str, okD_bl, okD_non, okD_tup, okD_lst, eqOk_ii, eqOk_ss, eqOk_nn, eqOk_bb, eqOk_in, eqOk_ni, eqOk_tt, eqOk_ll, flatW_int, flatW_str, flatW_bl, flatW_non, inW, List.any_cons, List.any_nil, List.all_cons, List.all_nil, Bool.or_false, Bool.or_true, Bool.true_or, Bool.false_or, Bool.and_true, Bool.true_and, Bool.and_false, Bool.false_and, Bool.not_true, Bool.not_false, Bool.false_eq_true, true_and, and_true, beq_self_eq_true, List.isEmpty_cons, List.isEmpty_nil, Int.reduceNeg, eq_self, forall_const, iFld, objOf, iProp, iMeth, nMake, iInv, iMulM, iLenM, iIsi, sAtt, iRevT, lIter, nRep, lEnum, lZip, iEqM, gOwn, iDGet2, iAddO, nDisp, nDNew, iPairs, keysW, keyW, nFn, gListN, nListRg, iTupRg, nIf, sParM, iItems, putsR, Sh.R.slot, gIsB, isB, iPeek, tPeek, iPeekS, Stt.ps, noOwn, gInD, nPeek, Stt.pk, frzS, plainW, plainWs, tyS, tyIn, cOk, isAny, isOne, Option.map_some, lk_ne, List.lookup_nil, putW, lk_self, iXf, iIsE, Hnd.w, sRaise1, sRaise0, sTryE, gMax3, gEqN, gReprN, iIdxT, iIdxL, iInRg, nListM, iBR, iFnR, iPub, iMtR, drW, drWs, nOwn, nMeth, nSl, nAdd, nAddO, iMtN, sAugL, gSortedG, tTruO, refW_tup, refW_lst, refW_dct, refW_int, refW_str, refW_bl, refW_non, id, kb_NoneType_int, kb_NoneType_bool, kb_NoneType_str, kb_NoneType_tuple, kb_NoneType_list, kb_NoneType_dict, kb_bool_int, kb_bool_bool, kb_bool_str, kb_bool_tuple, kb_bool_list, kb_bool_dict, kb_int_int, kb_int_bool, kb_int_str, kb_int_tuple, kb_int_list, kb_int_dict, kb_str_int, kb_str_bool, kb_str_str, kb_str_tuple, kb_str_list, kb_str_dict, kb_tuple_int, kb_tuple_bool, kb_tuple_str, kb_tuple_tuple, kb_tuple_list, kb_tuple_dict, kb_list_int, kb_list_bool, kb_list_str, kb_list_tuple, kb_list_list, kb_list_dict, kb_dict_int, kb_dict_bool, kb_dict_str, kb_dict_tuple, kb_dict_list, kb_dict_dict]
          refine ifb (fun z => bad ?_) (fun z => ?_)
          · have n6 : ¬ us.length = 6 := fun h => by rw [h] at z; simp at z
            show (us.length == 6 && us.all isI) = false
            simp [n6]
          have l6 : us.length = 6 := by simp at z; omega
          have ous : us.all (okN 58) = true := ow
          walk_at "rnLc_lSeq_gItems"
          refine lc_id ⟨[.val (.lst ws), .val (.int 6), .val (.tup us), .none], S⟩ (fun w => .bl (isI w)) us _ (fun w hw Y hY => ?_) rfl (by rw [sizeLine_eq]; omega) fun st' es => ?_
          · walk_at "r"
            exact ⟨w, rfl, okN_ty (List.all_eq_true.mp ous w hw), hY _ rfl⟩
          · rw [es]
            simp! only [gAll, blsOf_map]
            have ea : (us.map fun w => isI w).all id = us.all isI := by rw [List.all_map]; rfl
            have er : rowB (.tup us) = us.all isI := by show (us.length == 6 && us.all isI) = _; rw [l6]; rfl
            refine ifb (fun z => bad ?_) (fun z => hn ?_ _ ⟨_, rfl⟩)
            · rw [er, ← ea]
              simpa using z
            · have : us.all isI = true := by rw [← ea]; simpa using z
              unfold rowF
              rw [er, this]
              rfl
        | non =>
          simp (decide := true) only [bodyI, start0, sSeq, sNext, sNever, sCont, sBreak, sDrop, sRet, sRetN, sRet0, sRetO, sIf, sSet, sSetN, sSetP, sPar, sParEN, sParNE, sPar3, sAsg, gNm, gsNil, gsCons, gTp, sAugI, sIxO, sIxS, sAugS, stoL, setW, iVar, iC, iNil, iCons, iTup, iLst, nLst, iFz, iB, gAdd, gI, gIC, gSub, gMul, gDiv, gMod, gPow, gLt, gLe, gGt, gGe, gEq, gNe, gIn, gIsN, isN, iNeg, tTru', gTru, tBl, iChain, tAnd', tOr', tNot', tYes', iIf, iAnd, iOr, iNot, iIx, gIx, atW, iIxO, ownL, oNone, oSome, iSl, gSl, iRevL, iCall, nCall, iFn, Stt.put, Stt.puts, iMtO, gAppend, gInsert, gExtend, gLen, iLenO, gAbs, gInt, gMinMax, gList, gTuple, iListRg, gIsi, tyN, gRepr, cut_13, cut_1_2, cut_1_3, cut_m2, cut_m3, cut_m4, atI_m2, atI_m3, atI_m4, iOfT, tKdIn, iKdIx, atI_0, atI_1, atI_2, atI_3, ixN_4_0, ixN_4_1, ixN_4_2, ixN_4_3, Sto.put_same, Sto.put_put, toNat_2, List.map, List.replicate, List.length_cons, List.length_nil, List.getElem?_cons_zero, List.getElem?_cons_succ, List.getElem?_nil, List.set_cons_zero, List.set_cons_succ, List.set_nil, List.cons_append, List.nil_append, List.append_nil, if_true, if_false, fz_val, fz_new, so_lst, so_dct, so_ins, eqW_ii, eqW_ss, eqW_tt, eqW_ll, eqW_nn, eqW_bb, eqW_ni, eqW_in, eqW_nt, eqW_tn, eqW_nl, eqW_ln, eqW_is, eqW_si, eqWs_nil, eqWs_cons, eqWs_nc, eqWs_cn, okD_int, okD_str, okD_bl, okD_non, okD_tup, okD_lst, eqOk_ii, eqOk_ss, eqOk_nn, eqOk_bb, eqOk_in, eqOk_ni, eqOk_tt, eqOk_ll, flatW_int, flatW_str, flatW_bl, flatW_non, inW, List.any_cons, List.any_nil, List.all_cons, List.all_nil, Bool.or_false, Bool.or_true, Bool.true_or, Bool.false_or, Bool.and_true, Bool.true_and, Bool.and_false, Bool.false_and, Bool.not_true, Bool.not_false, Bool.false_eq_true, true_and, and_true, beq_self_eq_true, List.isEmpty_cons, List.isEmpty_nil, Int.reduceNeg, eq_self, forall_const, iFld, objOf, iProp, iMeth, nMake, iInv, iMulM, iLenM, iIsi, sAtt, iRevT, lIter, nRep, lEnum, lZip, iEqM, gOwn, iDGet2, iAddO, nDisp, nDNew, iPairs, keysW, keyW, nFn, gListN, nListRg, iTupRg, nIf, sParM, iItems, putsR, Sh.R.slot, gIsB, isB, iPeek, tPeek, iPeekS, Stt.ps, noOwn, gInD, nPeek, Stt.pk, frzS, plainW, plainWs, tyS, tyIn, cOk, isAny, isOne, Option.map_some, lk_ne, List.lookup_nil, putW, lk_self, iXf, iIsE, Hnd.w, sRaise1, sRaise0, sTryE, gMax3, gEqN, gReprN, iIdxT, iIdxL, iInRg, nListM, iBR, iFnR, iPub, iMtR, drW, drWs, nOwn, nMeth, nSl, nAdd, nAddO, iMtN, sAugL, gSortedG, tTruO, refW_tup, refW_lst, refW_dct, refW_int, refW_str, refW_bl, refW_non, id, kb_NoneType_int, kb_NoneType_bool, kb_NoneType_str, kb_NoneType_tuple, kb_NoneType_list, kb_NoneType_dict, kb_bool_int, kb_bool_bool, kb_bool_str, kb_bool_tuple, kb_bool_list, kb_bool_dict, kb_int_int, kb_int_bool, kb_int_str, kb_int_tuple, kb_int_list, kb_int_dict, kb_str_int, kb_str_bool, kb_str_str, kb_str_tuple, kb_str_list, kb_str_dict, kb_tuple_int, kb_tuple_bool, kb_tuple_str, kb_tuple_tuple, kb_tuple_list, kb_tuple_dict, kb_list_int, kb_list_bool, kb_list_str, kb_list_tuple, kb_list_list, kb_list_dict, kb_dict_int, kb_dict_bool, kb_dict_str, kb_dict_tuple, kb_dict_list, kb_dict_dict]
          exact bad rfl
        | bl c =>
          simp (decide := true) only [bodyI, start0, sSeq, sNext, sNever, sCont, sBreak, sDrop, sRet, sRetN, sRet0, sRetO, sIf, sSet, sSetN, sSetP, sPar, sParEN, sParNE, sPar3, sAsg, gNm, gsNil, gsCons, gTp, sAugI, sIxO, sIxS, sAugS, stoL, setW, iVar, iC, iNil, iCons, iTup, iLst, nLst, iFz, iB, gAdd, gI, gIC, gSub, gMul, gDiv, gMod, gPow, gLt, gLe, gGt, gGe, gEq, gNe, gIn, gIsN, isN, iNeg, tTru', gTru, tBl, iChain, tAnd', tOr', tNot', tYes', iIf, iAnd, iOr, iNot, iIx, gIx, atW, iIxO, ownL, oNone, oSome, iSl, gSl, iRevL, iCall, nCall, iFn, Stt.put, Stt.puts, iMtO, gAppend, gInsert, gExtend, gLen, iLenO, gAbs, gInt, gMinMax, gList, gTuple, iListRg, gIsi, tyN, gRepr, cut_13, cut_1_2, cut_1_3, cut_m2, cut_m3, cut_m4, atI_m2, atI_m3, atI_m4, iOfT, tKdIn, iKdIx, atI_0, atI_1, atI_2, atI_3, ixN_4_0, ixN_4_1, ixN_4_2, ixN_4_3, Sto.put_same, Sto.put_put, toNat_2, List.map, List.replicate, List.length_cons, List.length_nil, List.getElem?_cons_zero, List.getElem?_cons_succ, List.getElem?_nil, List.set_cons_zero, List.set_cons_succ, List.set_nil, List.cons_append, List.nil_append, List.append_nil, if_true, if_false, fz_val, fz_new, so_lst, so_dct, so_ins, eqW_ii, eqW_ss, eqW_tt, eqW_ll, eqW_nn, eqW_bb, eqW_ni, eqW_in, eqW_nt, eqW_tn, eqW_nl, eqW_ln, eqW_is, eqW_si, eqWs_nil, eqWs_cons, eqWs_nc, eqWs_cn, okD_int, okD_str, okD_bl, okD_non, okD_tup, okD_lst, eqOk_ii, eqOk_ss, eqOk_nn, eqOk_bb, eqOk_in, eqOk_ni, eqOk_tt, eqOk_ll, flatW_int, flatW_str, flatW_bl, flatW_non, inW, List.any_cons, List.any_nil, List.all_cons, List.all_nil, Bool.or_false, Bool.or_true, Bool.true_or, Bool.false_or, Bool.and_true, Bool.true_and, Bool.and_false, Bool.false_and, Bool.not_true, Bool.not_false, Bool.false_eq_true, true_and, and_true, beq_self_eq_true, List.isEmpty_cons, List.isEmpty_nil, Int.reduceNeg, eq_self, forall_const, iFld, objOf, iProp, iMeth, nMake, iInv, iMulM, iLenM, iIsi, sAtt, iRevT, lIter, nRep, lEnum, lZip, iEqM, gOwn, iDGet2, iAddO, nDisp, nDNew, iPairs, keysW, keyW, nFn, gListN, nListRg, iTupRg, nIf, sParM, iItems, putsR, Sh.R.slot, gIsB, isB, iPeek, tPeek, iPeekS, Stt.ps, noOwn, gInD, nPeek, Stt.pk, frzS, plainW, plainWs, tyS, tyIn, cOk, isAny, isOne, Option.map_some, lk_ne, List.lookup_nil, putW, lk_self, iXf, iIsE, Hnd.w, sRaise1, sRaise0, sTryE, gMax3, gEqN, gReprN, iIdxT, iIdxL, iInRg, nListM, iBR, iFnR, iPub, iMtR, drW, drWs, nOwn, nMeth, nSl, nAdd, nAddO, iMtN, sAugL, gSortedG, tTruO, refW_tup, refW_lst, refW_dct, refW_int, refW_str, refW_bl, refW_non, id, kb_NoneType_int, kb_NoneType_bool, kb_NoneType_str, kb_NoneType_tuple, kb_NoneType_list, kb_NoneType_dict, kb_bool_int, kb_bool_bool, kb_bool_str, kb_bool_tuple, kb_bool_list, kb_bool_dict, kb_int_int, kb_int_bool, kb_int_str, kb_int_tuple, kb_int_list, kb_int_dict, kb_str_int, kb_str_bool, kb_str_str, kb_str_tuple, kb_str_list, kb_str_dict, kb_tuple_int, kb_tuple_bool, kb_tuple_str, kb_tuple_tuple, kb_tuple_list, kb_tuple_dict, kb_list_int, kb_list_bool, kb_list_str, kb_list_tuple, kb_list_list, kb_list_dict, kb_dict_int, kb_dict_bool, kb_dict_str, kb_dict_tuple, kb_dict_list, kb_dict_dict]
          exact bad rfl
        | int c =>
          simp (decide := true) only [bodyI, start0, sSeq, sNext, sNever, sCont, sBreak, sDrop, sRet, sRetN, sRet0, sRetO, sIf, sSet, sSetN, sSetP, sPar, sParEN, sParNE, sPar3, sAsg, gNm, gsNil, gsCons, gTp, sAugI, sIxO, sIxS, sAugS, stoL, setW, iVar, iC, iNil, iCons, iTup, iLst, nLst, iFz, iB, gAdd, gI, gIC, gSub, gMul, gDiv, gMod, gPow, gLt, gLe, gGt, gGe, gEq, gNe, gIn, gIsN, isN, iNeg, tTru', gTru, tBl, iChain, tAnd', tOr', tNot', tYes', iIf, iAnd, iOr, iNot, iIx, gIx, atW, iIxO, ownL, oNone, oSome, iSl, gSl, iRevL, iCall, nCall, iFn, Stt.put, Stt.puts, iMtO, gAppend, gInsert, gExtend, gLen, iLenO, gAbs, gInt, gMinMax, gList, gTuple, iListRg, gIsi, tyN, gRepr, cut_13, cut_1_2, cut_1_3, cut_m2, cut_m3, cut_m4, atI_m2, atI_m3, atI_m4, iOfT, tKdIn, iKdIx, atI_0, atI_1, atI_2, atI_3, ixN_4_0, ixN_4_1, ixN_4_2, ixN_4_3, Sto.put_same, Sto.put_put, toNat_2, List.map, List.replicate, List.length_cons, List.length_nil, List.getElem?_cons_zero, List.getElem?_cons_succ, List.getElem?_nil, List.set_cons_zero, List.set_cons_succ, List.set_nil, List.cons_append, List.nil_append, List.append_nil, if_true, if_false, fz_val, fz_new, so_lst, so_dct, so_ins, eqW_ii, eqW_ss, eqW_tt, eqW_ll, eqW_nn, eqW_bb, eqW_ni, eqW_in, eqW_nt, eqW_tn, eqW_nl, eqW_ln, eqW_is, eqW_si, eqWs_nil, eqWs_cons, eqWs_nc, eqWs_cn, okD_int, okD_str, okD_bl, okD_non, okD_tup, okD_lst, eqOk_ii, eqOk_ss, eqOk_nn, eqOk_bb, eqOk_in, eqOk_ni, eqOk_tt, eqOk_ll, flatW_int, flatW_str, flatW_bl, flatW_non, inW, List.any_cons, List.any_nil, List.all_cons, List.all_nil, Bool.or_false, Bool.or_true, Bool.true_or, Bool.false_or, Bool.and_true, Bool.true_and, Bool.and_false, Bool.false_and, Bool.not_true, Bool.not_false, Bool.false_eq_true, true_and, and_true, beq_self_eq_true, List.isEmpty_cons, List.isEmpty_nil, Int.reduceNeg, eq_self, forall_const, iFld, objOf, iProp, iMeth, nMake, iInv, iMulM, iLenM, iIsi, sAtt, iRevT, lIter, nRep, lEnum, lZip, iEqM, gOwn, iDGet2, iAddO, nDisp, nDNew, iPairs, keysW, keyW, nFn, gListN, nListRg, iTupRg, nIf, sParM, iItems, putsR, Sh.R.slot, gIsB, isB, iPeek, tPeek, iPeekS, Stt.ps, noOwn, gInD, nPeek, Stt.pk, frzS, plainW, plainWs, tyS, tyIn, cOk, isAny, isOne, Option.map_some, lk_ne, List.lookup_nil, putW, lk_self, iXf, iIsE, Hnd.w, sRaise1, sRaise0, sTryE, gMax3, gEqN, gReprN, iIdxT, iIdxL, iInRg, nListM, iBR, iFnR, iPub, iMtR, drW, drWs, nOwn, nMeth, nSl, nAdd, nAddO, iMtN, sAugL, gSortedG, tTruO, refW_tup, refW_lst, refW_dct, refW_int, refW_str, refW_bl, refW_non, id, kb_NoneType_int, kb_NoneType_bool, kb_NoneType_str, kb_NoneType_tuple, kb_NoneType_list, kb_NoneType_dict, kb_bool_int, kb_bool_bool, kb_bool_str, kb_bool_tuple, kb_bool_list, kb_bool_dict, kb_int_int, kb_int_bool, kb_int_str, kb_int_tuple, kb_int_list, kb_int_dict, kb_str_int, kb_str_bool, kb_str_str, kb_str_tuple, kb_str_list, kb_str_dict, kb_tuple_int, kb_tuple_bool, kb_tuple_str, kb_tuple_tuple, kb_tuple_list, kb_tuple_dict, kb_list_int, kb_list_bool, kb_list_str, kb_list_tuple, kb_list_list, kb_list_dict, kb_dict_int, kb_dict_bool, kb_dict_str, kb_dict_tuple, kb_dict_list, kb_dict_dict]
          exact bad rfl
        | str c =>
          simp (decide := true) only [bodyI, start0, sSeq, sNext, sNever, sCont, sBreak, sDrop, sRet, sRetN, sRet0, sRetO, sIf, sSet, sSetN, sSetP, sPar, sParEN, sParNE, sPar3, sAsg, gNm, gsNil, gsCons, gTp, sAugI, sIxO, sIxS, sAugS, stoL, setW, iVar, iC, iNil, iCons, iTup, iLst, nLst, iFz, iB, gAdd, gI, gIC, gSub, gMul, gDiv, gMod, gPow, gLt, gLe, gGt, gGe, gEq, gNe, gIn, gIsN, isN, iNeg, tTru', gTru, tBl, iChain, tAnd', tOr', tNot', tYes', iIf, iAnd, iOr, iNot, iIx, gIx, atW, iIxO, ownL, oNone, oSome, iSl, gSl, iRevL, iCall, nCall, iFn, Stt.put, Stt.puts, iMtO, gAppend, gInsert, gExtend, gLen, iLenO, gAbs, gInt, gMinMax, gList, gTuple, iListRg, gIsi, tyN, gRepr, cut_13, cut_1_2, cut_1_3, cut_m2, cut_m3, cut_m4, atI_m2, atI_m3, atI_m4, iOfT, tKdIn, iKdIx, atI_0, atI_1, atI_2, atI_3, ixN_4_0, ixN_4_1, ixN_4_2, ixN_4_3, Sto.put_same, Sto.put_put, toNat_2, List.map, List.replicate, List.length_cons, List.length_nil, List.getElem?_cons_zero, List.getElem?_cons_succ, List.getElem?_nil, List.set_cons_zero, List.set_cons_succ, List.set_nil, List.cons_append, List.nil_append, List.append_nil, if_true, if_false, fz_val, fz_new, so_lst, so_dct, so_ins, eqW_ii, eqW_ss, eqW_tt, eqW_ll, eqW_nn, eqW_bb, eqW_ni, eqW_in, eqW_nt, eqW_tn, eqW_nl, eqW_ln, eqW_is, eqW_si, eqWs_nil, eqWs_cons, eqWs_nc, eqWs_cn, okD_int, okD_str, okD_bl, okD_non, okD_tup, okD_lst, eqOk_ii, eqOk_ss, eqOk_nn, eqOk_bb, eqOk_in, eqOk_ni, eqOk_tt, eqOk_ll, flatW_int, flatW_str, flatW_bl, flatW_non, inW, List.any_cons, List.any_nil, List.all_cons, List.all_nil, Bool.or_false, Bool.or_true, Bool.true_or, Bool.false_or, Bool.and_true, Bool.true_and, Bool.and_false, Bool.false_and, Bool.not_true, Bool.not_false, Bool.false_eq_true, true_and, and_true, beq_self_eq_true, List.isEmpty_cons, List.isEmpty_nil, Int.reduceNeg, eq_self, forall_const, iFld, objOf, iProp, iMeth, nMake, iInv, iMulM, iLenM, iIsi, sAtt, iRevT, lIter, nRep, lEnum, lZip, iEqM, gOwn, iDGet2, iAddO, nDisp, nDNew, iPairs, keysW, keyW, nFn, gListN, nListRg, iTupRg, nIf, sParM, iItems, putsR, Sh.R.slot, gIsB, isB, iPeek, tPeek, iPeekS, Stt.ps, noOwn, gInD, nPeek, Stt.pk, frzS, plainW, plainWs, tyS, tyIn, cOk, isAny, isOne, Option.map_some, lk_ne, List.lookup_nil, putW, lk_self, iXf, iIsE, Hnd.w, sRaise1, sRaise0, sTryE, gMax3, gEqN, gReprN, iIdxT, iIdxL, iInRg, nListM, iBR, iFnR, iPub, iMtR, drW, drWs, nOwn, nMeth, nSl, nAdd, nAddO, iMtN, sAugL, gSortedG, tTruO, refW_tup, refW_lst, refW_dct, refW_int, refW_str, refW_bl, refW_non, id, kb_NoneType_int, kb_NoneType_bool, kb_NoneType_str, kb_NoneType_tuple, kb_NoneType_list, kb_NoneType_dict, kb_bool_int, kb_bool_bool, kb_bool_str, kb_bool_tuple, kb_bool_list, kb_bool_dict, kb_int_int, kb_int_bool, kb_int_str, kb_int_tuple, kb_int_list, kb_int_dict, kb_str_int, kb_str_bool, kb_str_str, kb_str_tuple, kb_str_list, kb_str_dict, kb_tuple_int, kb_tuple_bool, kb_tuple_str, kb_tuple_tuple, kb_tuple_list, kb_tuple_dict, kb_list_int, kb_list_bool, kb_list_str, kb_list_tuple, kb_list_list, kb_list_dict, kb_dict_int, kb_dict_bool, kb_dict_str, kb_dict_tuple, kb_dict_list, kb_dict_dict]
          exact bad rfl
        | lst c =>
          simp (decide := true) only [bodyI, start0, sSeq, sNext, sNever, sCont, sBreak, sDrop, sRet, sRetN, sRet0, sRetO, sIf, sSet, sSetN, sSetP, sPar, sParEN, sParNE, sPar3, sAsg, gNm, gsNil, gsCons, gTp, sAugI, sIxO, sIxS, sAugS, stoL, setW, iVar, iC, iNil, iCons, iTup, iLst, nLst, iFz, iB, gAdd, gI, gIC, gSub, gMul, gDiv, gMod, gPow, gLt, gLe, gGt, gGe, gEq, gNe, gIn, gIsN, isN, iNeg, tTru', gTru, tBl, iChain, tAnd', tOr', tNot', tYes', iIf, iAnd, iOr, iNot, iIx, gIx, atW, iIxO, ownL, oNone, oSome, iSl, gSl, iRevL, iCall, nCall, iFn, Stt.put, Stt.puts, iMtO, gAppend, gInsert, gExtend, gLen, iLenO, gAbs, gInt, gMinMax, gList, gTuple, iListRg, gIsi, tyN, gRepr, cut_13, cut_1_2, cut_1_3, cut_m2, cut_m3, cut_m4, atI_m2, atI_m3, atI_m4, iOfT, tKdIn, iKdIx, atI_0, atI_1, atI_2, atI_3, ixN_4_0, ixN_4_1, ixN_4_2, ixN_4_3, Sto.put_same, Sto.put_put, toNat_2, List.map, List.replicate, List.length_cons, List.length_nil, List.getElem?_cons_zero, List.getElem?_cons_succ, List.getElem?_nil, List.set_cons_zero, List.set_cons_succ, List.set_nil, List.cons_append, List.nil_append, List.append_nil, if_true, if_false, fz_val, fz_new, so_lst, so_dct, so_ins, eqW_ii, eqW_ss, eqW_tt, eqW_ll, eqW_nn, eqW_bb, eqW_ni, eqW_in, eqW_nt, eqW_tn, eqW_nl, eqW_ln, eqW_is, eqW_si, eqWs_nil, eqWs_cons, eqWs_nc, eqWs_cn, okD_int, okD_str, okD_bl, okD_non, okD_tup, okD_lst, eqOk_ii, eqOk_ss, eqOk_nn, eqOk_bb, eqOk_in, eqOk_ni, eqOk_tt, eqOk_ll, flatW_int, flatW_str, flatW_bl, flatW_non, inW, List.any_cons, List.any_nil, List.all_cons, List.all_nil, Bool.or_false, Bool.or_true, Bool.true_or, Bool.false_or, Bool.and_true, Bool.true_and, Bool.and_false, Bool.false_and, Bool.not_true, Bool.not_false, Bool.false_eq_true, true_and, and_true, beq_self_eq_true, List.isEmpty_cons, List.isEmpty_nil, Int.reduceNeg, eq_self, forall_const, iFld, objOf, iProp, iMeth, nMake, iInv, iMulM, iLenM, iIsi, sAtt, iRevT, lIter, nRep, lEnum, lZip, iEqM, gOwn, iDGet2, iAddO, nDisp, nDNew, iPairs, keysW, keyW, nFn, gListN, nListRg, iTupRg, nIf, sParM, iItems, putsR, Sh.R.slot, gIsB, isB, iPeek, tPeek, iPeekS, Stt.ps, noOwn, gInD, nPeek, Stt.pk, frzS, plainW, plainWs, tyS, tyIn, cOk, isAny, isOne, Option.map_some, lk_ne, List.lookup_nil, putW, lk_self, iXf, iIsE, Hnd.w, sRaise1, sRaise0, sTryE, gMax3, gEqN, gReprN, iIdxT, iIdxL, iInRg, nListM, iBR, iFnR, iPub, iMtR, drW, drWs, nOwn, nMeth, nSl, nAdd, nAddO, iMtN, sAugL, gSortedG, tTruO, refW_tup, refW_lst, refW_dct, refW_int, refW_str, refW_bl, refW_non, id, kb_NoneType_int, kb_NoneType_bool, kb_NoneType_str, kb_NoneType_tuple, kb_NoneType_list, kb_NoneType_dict, kb_bool_int, kb_bool_bool, kb_bool_str, kb_bool_tuple, kb_bool_list, kb_bool_dict, kb_int_int, kb_int_bool, kb_int_str, kb_int_tuple, kb_int_list, kb_int_dict, kb_str_int, kb_str_bool, kb_str_str, kb_str_tuple, kb_str_list, kb_str_dict, kb_tuple_int, kb_tuple_bool, kb_tuple_str, kb_tuple_tuple, kb_tuple_list, kb_tuple_dict, kb_list_int, kb_list_bool, kb_list_str, kb_list_tuple, kb_list_list, kb_list_dict, kb_dict_int, kb_dict_bool, kb_dict_str, kb_dict_tuple, kb_dict_list, kb_dict_dict]
          exact bad rfl
        | dct c =>
          simp (decide := true) only [bodyI, start0, sSeq, sNext, sNever, sCont, sBreak, sDrop, sRet, sRetN, sRet0, sRetO, sIf, sSet, sSetN, sSetP, sPar, sParEN, sParNE, sPar3, sAsg, gNm, gsNil, gsCons, gTp, sAugI, sIxO, sIxS, sAugS, stoL, setW, iVar, iC, iNil, iCons, iTup, iLst, nLst, iFz, iB, gAdd, gI, gIC, gSub, gMul, gDiv, gMod, gPow, gLt, gLe, gGt, gGe, gEq, gNe, gIn, gIsN, isN, iNeg, tTru', gTru, tBl, iChain, tAnd', tOr', tNot', tYes', iIf, iAnd, iOr, iNot, iIx, gIx, atW, iIxO, ownL, oNone, oSome, iSl, gSl, iRevL, iCall, nCall, iFn, Stt.put, Stt.puts, iMtO, gAppend, gInsert, gExtend, gLen, iLenO, gAbs, gInt, gMinMax, gList, gTuple, iListRg, gIsi, tyN, gRepr, cut_13, cut_1_2, cut_1_3, cut_m2, cut_m3, cut_m4, atI_m2, atI_m3, atI_m4, iOfT, tKdIn, iKdIx, atI_0, atI_1, atI_2, atI_3, ixN_4_0, ixN_4_1, ixN_4_2, ixN_4_3, Sto.put_same, Sto.put_put, toNat_2, List.map, List.replicate, List.length_cons, List.length_nil, List.getElem?_cons_zero, List.getElem?_cons_succ, List.getElem?_nil, List.set_cons_zero, List.set_cons_succ, List.set_nil, List.cons_append, List.nil_append, List.append_nil, if_true, if_false, fz_val, fz_new, so_lst, so_dct, so_ins, eqW_ii, eqW_ss, eqW_tt, eqW_ll, eqW_nn, eqW_bb, eqW_ni, eqW_in, eqW_nt, eqW_tn, eqW_nl, eqW_ln, eqW_is, eqW_si, eqWs_nil, eqWs_cons, eqWs_nc, eqWs_cn, okD_int, okD_str, okD_bl, okD_non, okD_tup, okD_lst, eqOk_ii, eqOk_ss, eqOk_nn, eqOk_bb, eqOk_in, eqOk_ni, eqOk_tt, eqOk_ll, flatW_int, flatW_str, flatW_bl, flatW_non, inW, List.any_cons, List.any_nil, List.all_cons, List.all_nil, Bool.or_false, Bool.or_true, Bool.true_or, Bool.false_or, Bool.and_true, Bool.true_and, Bool.and_false, Bool.false_and, Bool.not_true, Bool.not_false, Bool.false_eq_true, true_and, and_true, beq_self_eq_true, List.isEmpty_cons, List.isEmpty_nil, Int.reduceNeg, eq_self, forall_const, iFld, objOf, iProp, iMeth, nMake, iInv, iMulM, iLenM, iIsi, sAtt, iRevT, lIter, nRep, lEnum, lZip, iEqM, gOwn, iDGet2, iAddO, nDisp, nDNew, iPairs, keysW, keyW, nFn, gListN, nListRg, iTupRg, nIf, sParM, iItems, putsR, Sh.R.slot, gIsB, isB, iPeek, tPeek, iPeekS, Stt.ps, noOwn, gInD, nPeek, Stt.pk, frzS, plainW, plainWs, tyS, tyIn, cOk, isAny, isOne, Option.map_some, lk_ne, List.lookup_nil, putW, lk_self, iXf, iIsE, Hnd.w, sRaise1, sRaise0, sTryE, gMax3, gEqN, gReprN, iIdxT, iIdxL, iInRg, nListM, iBR, iFnR, iPub, iMtR, drW, drWs, nOwn, nMeth, nSl, nAdd, nAddO, iMtN, sAugL, gSortedG, tTruO, refW_tup, refW_lst, refW_dct, refW_int, refW_str, refW_bl, refW_non, id, kb_NoneType_int, kb_NoneType_bool, kb_NoneType_str, kb_NoneType_tuple, kb_NoneType_list, kb_NoneType_dict, kb_bool_int, kb_bool_bool, kb_bool_str, kb_bool_tuple, kb_bool_list, kb_bool_dict, kb_int_int, kb_int_bool, kb_int_str, kb_int_tuple, kb_int_list, kb_int_dict, kb_str_int, kb_str_bool, kb_str_str, kb_str_tuple, kb_str_list, kb_str_dict, kb_tuple_int, kb_tuple_bool, kb_tuple_str, kb_tuple_tuple, kb_tuple_list, kb_tuple_dict, kb_list_int, kb_list_bool, kb_list_str, kb_list_tuple, kb_list_list, kb_list_dict, kb_dict_int, kb_dict_bool, kb_dict_str, kb_dict_tuple, kb_dict_list, kb_dict_dict]
          exact bad rfl
        | _ => simp [okN] at ow
    | non =>
      simp (decide := true) only [bodyI, start0, sSeq, sNext, sNever, sCont, sBreak, sDrop, sRet, sRetN, sRet0, sRetO, sIf, sSet, sSetN, sSetP, sPar, sParEN, sParNE, sPar3, sAsg, gNm, gsNil, gsCons, gTp, sAugI, sIxO, sIxS, sAugS, stoL, setW, iVar, iC, iNil, iCons, iTup, iLst, nLst, iFz, iB, gAdd, gI, gIC, gSub, gMul, gDiv, gMod, gPow, gLt, gLe, gGt, gGe, gEq, gNe, gIn, gIsN, isN, iNeg, tTru', gTru, tBl, iChain, tAnd', tOr', tNot', tYes', iIf, iAnd, iOr, iNot, iIx, gIx, atW, iIxO, ownL, oNone, oSome, iSl, gSl, iRevL, iCall, nCall, iFn, Stt.put, Stt.puts, iMtO, gAppend, gInsert, gExtend, gLen, iLenO, gAbs, gInt, gMinMax, gList, gTuple, iListRg, gIsi, tyN, gRepr, cut_13, cut_1_2, cut_1_3, cut_m2, cut_m3, cut_m4, atI_m2, atI_m3, atI_m4, iOfT, tKdIn, iKdIx, atI_0, atI_1, atI_2, atI_3, ixN_4_0, ixN_4_1, ixN_4_2, ixN_4_3, Sto.put_same, Sto.put_put, toNat_2, List.map, List.replicate, List.length_cons, List.length_nil, List.getElem?_cons_zero, List.getElem?_cons_succ, List.getElem?_nil, List.set_cons_zero, List.set_cons_succ, List.set_nil, List.cons_append, List.nil_append, List.append_nil, if_true, if_false, fz_val, fz_new, so_lst, so_dct, so_ins, eqW_ii, eqW_ss, eqW_tt, eqW_ll, eqW_nn, eqW_bb, eqW_ni, eqW_in, eqW_nt, eqW_tn, eqW_nl, eqW_ln, eqW_is, eqW_si, eqWs_nil, eqWs_cons, eqWs_nc, eqWs_cn, okD_int, okD_str, okD_bl, okD_non, okD_tup, okD_lst, eqOk_ii, eqOk_ss, eqOk_nn, eqOk_bb, eqOk_in, eqOk_ni, eqOk_tt, eqOk_ll, flatW_int, flatW_str, flatW_bl, flatW_non, inW, List.any_cons, List.any_nil, List.all_cons, List.all_nil, Bool.or_false, Bool.or_true, Bool.true_or, Bool.false_or, Bool.and_true, Bool.true_and, Bool.and_false, Bool.false_and, Bool.not_true, Bool.not_false, Bool.false_eq_true, true_and, and_true, beq_self_eq_true, List.isEmpty_cons, List.isEmpty_nil, Int.reduceNeg, eq_self, forall_const, iFld, objOf, iProp, iMeth, nMake, iInv, iMulM, iLenM, iIsi, sAtt, iRevT, lIter, nRep, lEnum, lZip, iEqM, gOwn, iDGet2, iAddO, nDisp, nDNew, iPairs, keysW, keyW, nFn, gListN, nListRg, iTupRg, nIf, sParM, iItems, putsR, Sh.R.slot, gIsB, isB, iPeek, tPeek, iPeekS, Stt.ps, noOwn, gInD, nPeek, Stt.pk, frzS, plainW, plainWs, tyS, tyIn, cOk, isAny, isOne, Option.map_some, lk_ne, List.lookup_nil, putW, lk_self, iXf, iIsE, Hnd.w, sRaise1, sRaise0, sTryE, gMax3, gEqN, gReprN, iIdxT, iIdxL, iInRg, nListM, iBR, iFnR, iPub, iMtR, drW, drWs, nOwn, nMeth, nSl, nAdd, nAddO, iMtN, sAugL, gSortedG, tTruO, refW_tup, refW_lst, refW_dct, refW_int, refW_str, refW_bl, refW_non, kb_NoneType_int, kb_NoneType_bool, kb_NoneType_str, kb_NoneType_tuple, kb_NoneType_list, kb_NoneType_dict, kb_bool_int, kb_bool_bool, kb_bool_str, kb_bool_tuple, kb_bool_list, kb_bool_dict, kb_int_int, kb_int_bool, kb_int_str, kb_int_tuple, kb_int_list, kb_int_dict, kb_str_int, kb_str_bool, kb_str_str, kb_str_tuple, kb_str_list, kb_str_dict, kb_tuple_int, kb_tuple_bool, kb_tuple_str, kb_tuple_tuple, kb_tuple_list, kb_tuple_dict, kb_list_int, kb_list_bool, kb_list_str, kb_list_tuple, kb_list_list, kb_list_dict, kb_dict_int, kb_dict_bool, kb_dict_str, kb_dict_tuple, kb_dict_list, kb_dict_dict]
      exact q
    | bl c =>
      simp (decide := true) only [bodyI, start0, sSeq, sNext, sNever, sCont, sBreak, sDrop, sRet, sRetN, sRet0, sRetO, sIf, sSet, sSetN, sSetP, sPar, sParEN, sParNE, sPar3, sAsg, gNm, gsNil, gsCons, gTp, sAugI, sIxO, sIxS, sAugS, stoL, setW, iVar, iC, iNil, iCons, iTup, iLst, nLst, iFz, iB, gAdd, gI, gIC, gSub, gMul, gDiv, gMod, gPow, gLt, gLe, gGt, gGe, gEq, gNe, gIn, gIsN, isN, iNeg, tTru', gTru, tBl, iChain, tAnd', tOr', tNot', tYes', iIf, iAnd, iOr, iNot, iIx, gIx, atW, iIxO, ownL, oNone, oSome, iSl, gSl, iRevL, iCall, nCall, iFn, Stt.put, Stt.puts, iMtO, gAppend, gInsert, gExtend, gLen, iLenO, gAbs, gInt, gMinMax, gList, gTuple, iListRg, gIsi, tyN, gRepr, cut_13, cut_1_2, cut_1_3, cut_m2, cut_m3, cut_m4, atI_m2, atI_m3, atI_m4, iOfT, tKdIn, iKdIx, atI_0, atI_1, atI_2, atI_3, ixN_4_0, ixN_4_1, ixN_4_2, ixN_4_3, Sto.put_same, Sto.put_put, toNat_2, List.map, List.replicate, List.length_cons, List.length_nil, List.getElem?_cons_zero, List.getElem?_cons_succ, List.getElem?_nil, List.set_cons_zero, List.set_cons_succ, List.set_nil, List.cons_append, List.nil_append, List.append_nil, if_true, if_false, fz_val, fz_new, so_lst, so_dct, so_ins, eqW_ii, eqW_ss, eqW_tt, eqW_ll, eqW_nn, eqW_bb, eqW_ni, eqW_in, eqW_nt, eqW_tn, eqW_nl, eqW_ln, eqW_is, eqW_si, eqWs_nil, eqWs_cons, eqWs_nc, eqWs_cn, okD_int, okD_str, okD_bl, okD_non, okD_tup, okD_lst, eqOk_ii, eqOk_ss, eqOk_nn, eqOk_bb, eqOk_in, eqOk_ni, eqOk_tt, eqOk_ll, flatW_int, flatW_str, flatW_bl, flatW_non, inW, List.any_cons, List.any_nil, List.all_cons, List.all_nil, Bool.or_false, Bool.or_true, Bool.true_or, Bool.false_or, Bool.and_true, Bool.true_and, Bool.and_false, Bool.false_and, Bool.not_true, Bool.not_false, Bool.false_eq_true, true_and, and_true, beq_self_eq_true, List.isEmpty_cons, List.isEmpty_nil, Int.reduceNeg, eq_self, forall_const, iFld, objOf, iProp, iMeth, nMake, iInv, iMulM, iLenM, iIsi, sAtt, iRevT, lIter, nRep, lEnum, lZip, iEqM, gOwn, iDGet2, iAddO, nDisp, nDNew, iPairs, keysW, keyW, nFn, gListN, nListRg, iTupRg, nIf, sParM, iItems, putsR, Sh.R.slot, gIsB, isB, iPeek, tPeek, iPeekS, Stt.ps, noOwn, gInD, nPeek, Stt.pk, frzS, plainW, plainWs, tyS, tyIn, cOk, isAny, isOne, Option.map_some, lk_ne, List.lookup_nil, putW, lk_self, iXf, iIsE, Hnd.w, sRaise1, sRaise0, sTryE, gMax3, gEqN, gReprN, iIdxT, iIdxL, iInRg, nListM, iBR, iFnR, iPub, iMtR, drW, drWs, nOwn, nMeth, nSl, nAdd, nAddO, iMtN, sAugL, gSortedG, tTruO, refW_tup, refW_lst, refW_dct, refW_int, refW_str, refW_bl, refW_non, kb_NoneType_int, kb_NoneType_bool, kb_NoneType_str, kb_NoneType_tuple, kb_NoneType_list, kb_NoneType_dict, kb_bool_int, kb_bool_bool, kb_bool_str, kb_bool_tuple, kb_bool_list, kb_bool_dict, kb_int_int, kb_int_bool, kb_int_str, kb_int_tuple, kb_int_list, kb_int_dict, kb_str_int, kb_str_bool, kb_str_str, kb_str_tuple, kb_str_list, kb_str_dict, kb_tuple_int, kb_tuple_bool, kb_tuple_str, kb_tuple_tuple, kb_tuple_list, kb_tuple_dict, kb_list_int, kb_list_bool, kb_list_str, kb_list_tuple, kb_list_list, kb_list_dict, kb_dict_int, kb_dict_bool, kb_dict_str, kb_dict_tuple, kb_dict_list, kb_dict_dict]
      exact q
    | int c =>
      simp (decide := true) only [bodyI, start0, sSeq, sNext, sNever, sCont, sBreak, sDrop, sRet, sRetN, sRet0, sRetO, sIf, sSet, sSetN, sSetP, sPar, sParEN, sParNE, sPar3, sAsg, gNm, gsNil, gsCons, gTp, sAugI, sIxO, sIxS, sAugS, stoL, setW, iVar, iC, iNil, iCons, iTup, iLst, nLst, iFz, iB, gAdd, gI, gIC, gSub, gMul, gDiv, gMod, gPow, gLt, gLe, gGt, gGe, gEq, gNe, gIn, gIsN, isN, iNeg, tTru', gTru, tBl, iChain, tAnd', tOr', tNot', tYes', iIf, iAnd, iOr, iNot, iIx, gIx, atW, iIxO, ownL, oNone, oSome, iSl, gSl, iRevL, iCall, nCall, iFn, Stt.put, Stt.puts, iMtO, gAppend, gInsert, gExtend, gLen, iLenO, gAbs, gInt, gMinMax, gList, gTuple, iListRg, gIsi, tyN, gRepr, cut_13, cut_1_2, cut_1_3, cut_m2, cut_m3, cut_m4, atI_m2, atI_m3, atI_m4, iOfT, tKdIn, iKdIx, atI_0, atI_1, atI_2, atI_3, ixN_4_0, ixN_4_1, ixN_4_2, ixN_4_3, Sto.put_same, Sto.put_put, toNat_2, List.map, List.replicate, List.length_cons, List.length_nil, List.getElem?_cons_zero, List.getElem?_cons_succ, List.getElem?_nil, List.set_cons_zero, List.set_cons_succ, List.set_nil, List.cons_append, List.nil_append, List.append_nil, if_true, if_false, fz_val, fz_new, so_lst, so_dct, so_ins, eqW_ii, eqW_ss, eqW_tt, eqW_ll, eqW_nn, eqW_bb, eqW_ni, eqW_in, eqW_nt, eqW_tn, eqW_nl, eqW_ln, eqW_is, eqW_si, eqWs_nil, eqWs_cons, eqWs_nc, eqWs_cn, okD_int, okD_str, okD_bl, okD_non, okD_tup, okD_lst, eqOk_ii, eqOk_ss, eqOk_nn, eqOk_bb, eqOk_in, eqOk_ni, eqOk_tt, eqOk_ll, flatW_int, flatW_str, flatW_bl, flatW_non, inW, List.any_cons, List.any_nil, List.all_cons, List.all_nil, Bool.or_false, Bool.or_true, Bool.true_or, Bool.false_or, Bool.and_true, Bool.true_and, Bool.and_false, Bool.false_and, Bool.not_true, Bool.not_false, Bool.false_eq_true, true_and, and_true, beq_self_eq_true, List.isEmpty_cons, List.isEmpty_nil, Int.reduceNeg, eq_self, forall_const, iFld, objOf, iProp, iMeth, nMake, iInv, iMulM, iLenM, iIsi, sAtt, iRevT, lIter, nRep, lEnum, lZip, iEqM, gOwn, iDGet2, iAddO, nDisp, nDNew, iPairs, keysW, keyW, nFn, gListN, nListRg, iTupRg, nIf, sParM, iItems, putsR, Sh.R.slot, gIsB, isB, iPeek, tPeek, iPeekS, Stt.ps, noOwn, gInD, nPeek, Stt.pk, frzS, plainW, plainWs, tyS, tyIn, cOk, isAny, isOne, Option.map_some, lk_ne, List.lookup_nil, putW, lk_self, iXf, iIsE, Hnd.w, sRaise1, sRaise0, sTryE, gMax3, gEqN, gReprN, iIdxT, iIdxL, iInRg, nListM, iBR, iFnR, iPub, iMtR, drW, drWs, nOwn, nMeth, nSl, nAdd, nAddO, iMtN, sAugL, gSortedG, tTruO, refW_tup, refW_lst, refW_dct, refW_int, refW_str, refW_bl, refW_non, kb_NoneType_int, kb_NoneType_bool, kb_NoneType_str, kb_NoneType_tuple, kb_NoneType_list, kb_NoneType_dict, kb_bool_int, kb_bool_bool, kb_bool_str, kb_bool_tuple, kb_bool_list, kb_bool_dict, kb_int_int, kb_int_bool, kb_int_str, kb_int_tuple, kb_int_list, kb_int_dict, kb_str_int, kb_str_bool, kb_str_str, kb_str_tuple, kb_str_list, kb_str_dict, kb_tuple_int, kb_tuple_bool, kb_tuple_str, kb_tuple_tuple, kb_tuple_list, kb_tuple_dict, kb_list_int, kb_list_bool, kb_list_str, kb_list_tuple, kb_list_list, kb_list_dict, kb_dict_int, kb_dict_bool, kb_dict_str, kb_dict_tuple, kb_dict_list, kb_dict_dict]
      exact q
    | str c =>
      simp (decide := true) only [bodyI, start0, sSeq, sNext, sNever, sCont, sBreak, sDrop, sRet, sRetN, sRet0, sRetO, sIf, sSet, sSetN, sSetP, sPar, sParEN, sParNE, sPar3, sAsg, gNm, gsNil, gsCons, gTp, sAugI, sIxO, sIxS, sAugS, stoL, setW, iVar, iC, iNil, iCons, iTup, iLst, nLst, iFz, iB, gAdd, gI, gIC, gSub, gMul, gDiv, gMod, gPow, gLt, gLe, gGt, gGe, gEq, gNe, gIn, gIsN, isN, iNeg, tTru', gTru, tBl, iChain, tAnd', tOr', tNot', tYes', iIf, iAnd, iOr, iNot, iIx, gIx, atW, iIxO, ownL, oNone, oSome, iSl, gSl, iRevL, iCall, nCall, iFn, Stt.put, Stt.puts, iMtO, gAppend, gInsert, gExtend, gLen, iLenO, gAbs, gInt, gMinMax, gList, gTuple, iListRg, gIsi, tyN, gRepr, cut_13, cut_1_2, cut_1_3, cut_m2, cut_m3, cut_m4, atI_m2, atI_m3, atI_m4, iOfT, tKdIn, iKdIx, atI_0, atI_1, atI_2, atI_3, ixN_4_0, ixN_4_1, ixN_4_2, ixN_4_3, Sto.put_same, Sto.put_put, toNat_2, List.map, List.replicate, List.length_cons, List.length_nil, List.getElem?_cons_zero, List.getElem?_cons_succ, List.getElem?_nil, List.set_cons_zero, List.set_cons_succ, List.set_nil, List.cons_append, List.nil_append, List.append_nil, if_true, if_false, fz_val, fz_new, so_lst, so_dct, so_ins, eqW_ii, eqW_ss, eqW_tt, eqW_ll, eqW_nn, eqW_bb, eqW_ni, eqW_in, eqW_nt, eqW_tn, eqW_nl, eqW_ln, eqW_is, eqW_si, eqWs_nil, eqWs_cons, eqWs_nc, eqWs_cn, okD_int, okD_str, okD_bl, okD_non, okD_tup, okD_lst, eqOk_ii, eqOk_ss, eqOk_nn, eqOk_bb, eqOk_in, eqOk_ni, eqOk_tt, eqOk_ll, flatW_int, flatW_str, flatW_bl, flatW_non, inW, List.any_cons, List.any_nil, List.all_cons, List.all_nil, Bool.or_false, Bool.or_true, Bool.true_or, Bool.false_or, Bool.and_true, Bool.true_and, Bool.and_false, Bool.false_and, Bool.not_true, Bool.not_false, Bool.false_eq_true, true_and, and_true, beq_self_eq_true, List.isEmpty_cons, List.isEmpty_nil, Int.reduceNeg, eq_self, forall_const, iFld, objOf, iProp, iMeth, nMake, iInv, iMulM, iLenM, iIsi, sAtt, iRevT, lIter, nRep, lEnum, lZip, iEqM, gOwn, iDGet2, iAddO, nDisp, nDNew, iPairs, keysW, keyW, nFn, gListN, nListRg, iTupRg, nIf, sParM, iItems, putsR, Sh.R.slot, gIsB, isB, iPeek, tPeek, iPeekS, Stt.ps, noOwn, gInD, nPeek, Stt.pk, frzS, plainW, plainWs, tyS, tyIn, cOk, isAny, isOne, Option.map_some, lk_ne, List.lookup_nil, putW, lk_self, iXf, iIsE, Hnd.w, sRaise1, sRaise0, sTryE, gMax3, gEqN, gReprN, iIdxT, iIdxL, iInRg, nListM, iBR, iFnR, iPub, iMtR, drW, drWs, nOwn, nMeth, nSl, nAdd, nAddO, iMtN, sAugL, gSortedG, tTruO, refW_tup, refW_lst, refW_dct, refW_int, refW_str, refW_bl, refW_non, kb_NoneType_int, kb_NoneType_bool, kb_NoneType_str, kb_NoneType_tuple, kb_NoneType_list, kb_NoneType_dict, kb_bool_int, kb_bool_bool, kb_bool_str, kb_bool_tuple, kb_bool_list, kb_bool_dict, kb_int_int, kb_int_bool, kb_int_str, kb_int_tuple, kb_int_list, kb_int_dict, kb_str_int, kb_str_bool, kb_str_str, kb_str_tuple, kb_str_list, kb_str_dict, kb_tuple_int, kb_tuple_bool, kb_tuple_str, kb_tuple_tuple, kb_tuple_list, kb_tuple_dict, kb_list_int, kb_list_bool, kb_list_str, kb_list_tuple, kb_list_list, kb_list_dict, kb_dict_int, kb_dict_bool, kb_dict_str, kb_dict_tuple, kb_dict_list, kb_dict_dict]
      exact q
    | tup c =>
      simp (decide := true) only [bodyI, start0, sSeq, sNext, sNever, sCont, sBreak, sDrop, sRet, sRetN, sRet0, sRetO, sIf, sSet, sSetN, sSetP, sPar, sParEN, sParNE, sPar3, sAsg, gNm, gsNil, gsCons, gTp, sAugI, sIxO, sIxS, sAugS, stoL, setW, iVar, iC, iNil, iCons, iTup, iLst, nLst, iFz, iB, gAdd, gI, gIC, gSub, gMul, gDiv, gMod, gPow, gLt, gLe, gGt, gGe, gEq, gNe, gIn, gIsN, isN, iNeg, tTru', gTru, tBl, iChain, tAnd', tOr', tNot', tYes', iIf, iAnd, iOr, iNot, iIx, gIx, atW, iIxO, ownL, oNone, oSome, iSl, gSl, iRevL, iCall, nCall, iFn, Stt.put, Stt.puts, iMtO, gAppend, gInsert, gExtend, gLen, iLenO, gAbs, gInt, gMinMax, gList, gTuple, iListRg, gIsi, tyN, gRepr, cut_13, cut_1_2, cut_1_3, cut_m2, cut_m3, cut_m4, atI_m2, atI_m3, atI_m4, iOfT, tKdIn, iKdIx, atI_0, atI_1, atI_2, atI_3, ixN_4_0, ixN_4_1, ixN_4_2, ixN_4_3, Sto.put_same, Sto.put_put, toNat_2, List.map, List.replicate, List.length_cons, List.length_nil, List.getElem?_cons_zero, List.getElem?_cons_succ, List.getElem?_nil, List.set_cons_zero, List.set_cons_succ, List.set_nil, List.cons_append, List.nil_append, List.append_nil, if_true, if_false, fz_val, fz_new, so_lst, so_dct, so_ins, eqW_ii, eqW_ss, eqW_tt, eqW_ll, eqW_nn, eqW_bb, eqW_ni, eqW_in, eqW_nt, eqW_tn, eqW_nl, eqW_ln, eqW_is, eqW_si, eqWs_nil, eqWs_cons, eqWs_nc, eqWs_cn, okD_int, okD_str, okD_bl, okD_non, okD_tup, okD_lst, eqOk_ii, eqOk_ss, eqOk_nn, eqOk_bb, eqOk_in, eqOk_ni, eqOk_tt, eqOk_ll, flatW_int, flatW_str, flatW_bl, flatW_non, inW, List.any_cons, List.any_nil, List.all_cons, List.all_nil, Bool.or_false, Bool.or_true, Bool.true_or, Bool.false_or, Bool.and_true, Bool.true_and, Bool.and_false, Bool.false_and, Bool.not_true, Bool.not_false, Bool.false_eq_true, true_and, and_true, beq_self_eq_true, List.isEmpty_cons, List.isEmpty_nil, Int.reduceNeg, eq_self, forall_const, iFld, objOf, iProp, iMeth, nMake, iInv, iMulM, iLenM, iIsi, sAtt, iRevT, lIter, nRep, lEnum, lZip, iEqM, gOwn, iDGet2, iAddO, nDisp, nDNew, iPairs, keysW, keyW, nFn, gListN, nListRg, iTupRg, nIf, sParM, iItems, putsR, Sh.R.slot, gIsB, isB, iPeek, tPeek, iPeekS, Stt.ps, noOwn, gInD, nPeek, Stt.pk, frzS, plainW, plainWs, tyS, tyIn, cOk, isAny, isOne, Option.map_some, lk_ne, List.lookup_nil, putW, lk_self, iXf, iIsE, Hnd.w, sRaise1, sRaise0, sTryE, gMax3, gEqN, gReprN, iIdxT, iIdxL, iInRg, nListM, iBR, iFnR, iPub, iMtR, drW, drWs, nOwn, nMeth, nSl, nAdd, nAddO, iMtN, sAugL, gSortedG, tTruO, refW_tup, refW_lst, refW_dct, refW_int, refW_str, refW_bl, refW_non, kb_NoneType_int, kb_NoneType_bool, kb_NoneType_str, kb_NoneType_tuple, kb_NoneType_list, kb_NoneType_dict, kb_bool_int, kb_bool_bool, kb_bool_str, kb_bool_tuple, kb_bool_list, kb_bool_dict, kb_int_int, kb_int_bool, kb_int_str, kb_int_tuple, kb_int_list, kb_int_dict, kb_str_int, kb_str_bool, kb_str_str, kb_str_tuple, kb_str_list, kb_str_dict, kb_tuple_int, kb_tuple_bool, kb_tuple_str, kb_tuple_tuple, kb_tuple_list, kb_tuple_dict, kb_list_int, kb_list_bool, kb_list_str, kb_list_tuple, kb_list_list, kb_list_dict, kb_dict_int, kb_dict_bool, kb_dict_str, kb_dict_tuple, kb_dict_list, kb_dict_dict]
      exact q
    | dct c =>
      simp (decide := true) only [bodyI, start0, sSeq, sNext, sNever, sCont, sBreak, sDrop, sRet, sRetN, sRet0, sRetO, sIf, sSet, sSetN, sSetP, sPar, sParEN, sParNE, sPar3, sAsg, gNm, gsNil, gsCons, gTp, sAugI, sIxO, sIxS, sAugS, stoL, setW, iVar, iC, iNil, iCons, iTup, iLst, nLst, iFz, iB, gAdd, gI, gIC, gSub, gMul, gDiv, gMod, gPow, gLt, gLe, gGt, gGe, gEq, gNe, gIn, gIsN, isN, iNeg, tTru', gTru, tBl, iChain, tAnd', tOr', tNot', tYes', iIf, iAnd, iOr, iNot, iIx, gIx, atW, iIxO, ownL, oNone, oSome, iSl, gSl, iRevL, iCall, nCall, iFn, Stt.put, Stt.puts, iMtO, gAppend, gInsert, gExtend, gLen, iLenO, gAbs, gInt, gMinMax, gList, gTuple, iListRg, gIsi, tyN, gRepr, cut_13, cut_1_2, cut_1_3, cut_m2, cut_m3, cut_m4, atI_m2, atI_m3, atI_m4, iOfT, tKdIn, iKdIx, atI_0, atI_1, atI_2, atI_3, ixN_4_0, ixN_4_1, ixN_4_2, ixN_4_3, Sto.put_same, Sto.put_put, toNat_2, List.map, List.replicate, List.length_cons, List.length_nil, List.getElem?_cons_zero, List.getElem?_cons_succ, List.getElem?_nil, List.set_cons_zero, List.set_cons_succ, List.set_nil, List.cons_append, List.nil_append, List.append_nil, if_true, if_false, fz_val, fz_new, so_lst, so_dct, so_ins, eqW_ii, eqW_ss, eqW_tt, eqW_ll, eqW_nn, eqW_bb, eqW_ni, eqW_in, eqW_nt, eqW_tn, eqW_nl, eqW_ln, eqW_is, eqW_si, eqWs_nil, eqWs_cons, eqWs_nc, eqWs_cn, okD_int, okD_str, okD_bl, okD_non, okD_tup, okD_lst, eqOk_ii, eqOk_ss, eqOk_nn, eqOk_bb, eqOk_in, eqOk_ni, eqOk_tt, eqOk_ll, flatW_int, flatW_str, flatW_bl, flatW_non, inW, List.any_cons, List.any_nil, List.all_cons, List.all_nil, Bool.or_false, Bool.or_true, Bool.true_or, Bool.false_or, Bool.and_true, Bool.true_and, Bool.and_false, Bool.false_and, Bool.not_true, Bool.not_false, Bool.false_eq_true, true_and, and_true, beq_self_eq_true, List.isEmpty_cons, List.isEmpty_nil, Int.reduceNeg, eq_self, forall_const, iFld, objOf, iProp, iMeth, nMake, iInv, iMulM, iLenM, iIsi, sAtt, iRevT, lIter, nRep, lEnum, lZip, iEqM, gOwn, iDGet2, iAddO, nDisp, nDNew, iPairs, keysW, keyW, nFn, gListN, nListRg, iTupRg, nIf, sParM, iItems, putsR, Sh.R.slot, gIsB, isB, iPeek, tPeek, iPeekS, Stt.ps, noOwn, gInD, nPeek, Stt.pk, frzS, plainW, plainWs, tyS, tyIn, cOk, isAny, isOne, Option.map_some, lk_ne, List.lookup_nil, putW, lk_self, iXf, iIsE, Hnd.w, sRaise1, sRaise0, sTryE, gMax3, gEqN, gReprN, iIdxT, iIdxL, iInRg, nListM, iBR, iFnR, iPub, iMtR, drW, drWs, nOwn, nMeth, nSl, nAdd, nAddO, iMtN, sAugL, gSortedG, tTruO, refW_tup, refW_lst, refW_dct, refW_int, refW_str, refW_bl, refW_non, kb_NoneType_int, kb_NoneType_bool, kb_NoneType_str, kb_NoneType_tuple, kb_NoneType_list, kb_NoneType_dict, kb_bool_int, kb_bool_bool, kb_bool_str, kb_bool_tuple, kb_bool_list, kb_bool_dict, kb_int_int, kb_int_bool, kb_int_str, kb_int_tuple, kb_int_list, kb_int_dict, kb_str_int, kb_str_bool, kb_str_str, kb_str_tuple, kb_str_list, kb_str_dict, kb_tuple_int, kb_tuple_bool, kb_tuple_str, kb_tuple_tuple, kb_tuple_list, kb_tuple_dict, kb_list_int, kb_list_bool, kb_list_str, kb_list_tuple, kb_list_list, kb_list_dict, kb_dict_int, kb_dict_bool, kb_dict_str, kb_dict_tuple, kb_dict_list, kb_dict_dict]
      exact q
    | _ => simp [okN] at hx
  · unfold scrW
    simp (decide := true) only [bodyI, start0, sSeq, sNext, sNever, sCont, sBreak, sDrop, sRet, sRetN, sRet0, sRetO, sIf, sSet, sSetN, sSetP, sPar, sParEN, sParNE, sPar3, sAsg, gNm, gsNil, gsCons, gTp, sAugI, sIxO, sIxS, sAugS, stoL, setW, iVar, iC, iNil, iCons, iTup, iLst, nLst, iFz, iB, gAdd, gI, gIC, gSub, gMul, gDiv, gMod, gPow, gLt, gLe, gGt, gGe, gEq, gNe, gIn, gIsN, isN, iNeg, tTru', gTru, tBl, iChain, tAnd', tOr', tNot', tYes', iIf, iAnd, iOr, iNot, iIx, gIx, atW, iIxO, ownL, oNone, oSome, iSl, gSl, iRevL, iCall, nCall, iFn, Stt.put, Stt.puts, iMtO, gAppend, gInsert, gExtend, gLen, iLenO, gAbs, gInt, gMinMax, gList, gTuple, iListRg, gIsi, tyN, gRepr, cut_13, cut_1_2, cut_1_3, cut_m2, cut_m3, cut_m4, atI_m2, atI_m3, atI_m4, iOfT, tKdIn, iKdIx, atI_0, atI_1, atI_2, atI_3, ixN_4_0, ixN_4_1, ixN_4_2, ixN_4_3, Sto.put_same, Sto.put_put, toNat_2, List.map, List.replicate, List.length_cons, List.length_nil, List.getElem?_cons_zero, List.getElem?_cons_succ, List.getElem?_nil, List.set_cons_zero, List.set_cons_succ, List.set_nil, List.cons_append, List.nil_append, List.append_nil, if_true, if_false, fz_val, fz_new, so_lst, so_dct, so_ins, eqW_ii, eqW_ss, eqW_tt, eqW_ll, eqW_nn, eqW_bb, eqW_ni, eqW_in, eqW_nt, eqW_tn, eqW_nl, eqW_ln, eqW_is, eqW_si, eqWs_nil, eqWs_cons, eqWs_nc, eqWs_cn, okD_int, okD_str, okD_bl, okD_non, okD_tup, okD_lst, eqOk_ii, eqOk_ss, eqOk_nn, eqOk_bb, eqOk_in, eqOk_ni, eqOk_tt, eqOk_ll, flatW_int, flatW_str, flatW_bl, flatW_non, inW, List.any_cons, List.any_nil, List.all_cons, List.all_nil, Bool.or_false, Bool.or_true, Bool.true_or, Bool.false_or, Bool.and_true, Bool.true_and, Bool.and_false, Bool.false_and, Bool.not_true, Bool.not_false, Bool.false_eq_true, true_and, and_true, beq_self_eq_true, List.isEmpty_cons, List.isEmpty_nil, Int.reduceNeg, eq_self, forall_const, iFld, objOf, iProp, iMeth, nMake, iInv, iMulM, iLenM, iIsi, sAtt, iRevT, lIter, nRep, lEnum, lZip, iEqM, gOwn, iDGet2, iAddO, nDisp, nDNew, iPairs, keysW, keyW, nFn, gListN, nListRg, iTupRg, nIf, sParM, iItems, putsR, Sh.R.slot, gIsB, isB, iPeek, tPeek, iPeekS, Stt.ps, noOwn, gInD, nPeek, Stt.pk, frzS, plainW, plainWs, tyS, tyIn, cOk, isAny, isOne, Option.map_some, lk_ne, List.lookup_nil, putW, lk_self, iXf, iIsE, Hnd.w, sRaise1, sRaise0, sTryE, gMax3, gEqN, gReprN, iIdxT, iIdxL, iInRg, nListM, iBR, iFnR, iPub, iMtR, drW, drWs, nOwn, nMeth, nSl, nAdd, nAddO, iMtN, sAugL, gSortedG, tTruO, refW_tup, refW_lst, refW_dct, refW_int, refW_str, refW_bl, refW_non, kb_NoneType_int, kb_NoneType_bool, kb_NoneType_str, kb_NoneType_tuple, kb_NoneType_list, kb_NoneType_dict, kb_bool_int, kb_bool_bool, kb_bool_str, kb_bool_tuple, kb_bool_list, kb_bool_dict, kb_int_int, kb_int_bool, kb_int_str, kb_int_tuple, kb_int_list, kb_int_dict, kb_str_int, kb_str_bool, kb_str_str, kb_str_tuple, kb_str_list, kb_str_dict, kb_tuple_int, kb_tuple_bool, kb_tuple_str, kb_tuple_tuple, kb_tuple_list, kb_tuple_dict, kb_list_int, kb_list_bool, kb_list_str, kb_list_tuple, kb_list_list, kb_list_dict, kb_dict_int, kb_dict_bool, kb_dict_str, kb_dict_tuple, kb_dict_list, kb_dict_dict]
    exact q
theorem isI_eq {a : W} {i : Int} (h : isI a = true) (e : eqW a (.int i) = true) : a = .int i := by
  cases a with
  | int j => rw [beq_iff_eq.mp (show (j == i) = true from e)]
  | _ => cases h
theorem eqIs_ints : ∀ {us : List W} {is : List Int}, us.all isI = true → eqWs us (is.map .int) = true → us = is.map .int
  | [], [], _, _ => rfl
  | [], _ :: _, _, e => by simp [eqWs] at e
  | _ :: _, [], _, e => by simp [eqWs] at e
  | u :: us, i :: is, h, e => by
    obtain ⟨h1, h2⟩ := Bool.and_eq_true_iff.mp (show (isI u && us.all isI) = true from h)
    obtain ⟨e1, e2⟩ := Bool.and_eq_true_iff.mp (show (eqW u (.int i) && eqWs us (is.map .int)) = true from e)
    rw [isI_eq h1 e1, eqIs_ints h2 e2]
    rfl
def Sr.is (s : Sr) : List Int := [s.f, s.lo, s.hi, s.to, s.sg, s.sh]
theorem eqWs_rows : ∀ {ws : List W} {m : List Sr}, ws.all rowB = true → eqWs ws (m.map Sr.w) = true → ws = m.map Sr.w
  | [], [], _, _ => rfl
  | [], _ :: _, _, e => by simp [eqWs] at e
  | _ :: _, [], _, e => by simp [eqWs] at e
  | w :: ws, s :: m, h, e => by
    obtain ⟨h1, h2⟩ := Bool.and_eq_true_iff.mp (show (rowB w && ws.all rowB) = true from h)
    obtain ⟨e1, e2⟩ := Bool.and_eq_true_iff.mp (show (eqW w s.w && eqWs ws (m.map Sr.w)) = true from e)
    have ew : w = s.w := by
      cases w with
      | tup us =>
        obtain ⟨_, h3⟩ := Bool.and_eq_true_iff.mp (show (us.length == 6 && us.all isI) = true from h1)
        rw [eqIs_ints (us := us) (is := s.is) h3 e1]
        rfl
      | _ => cases h1
    rw [ew, eqWs_rows h2 e2]
    rfl
theorem toN_int {w : W} {i : Int} (h : toN w = .int i) : w = .int i := by
  cases w <;> simp [toN] at h
  rw [h]
theorem toNs_ints : ∀ {us : List W} {is : List Int}, toNs us = toNs (is.map .int) → us = is.map .int
  | [], [], _ => rfl
  | [], _ :: _, e => by simp [toNs] at e
  | _ :: _, [], e => by simp [toNs] at e
  | u :: us, i :: is, e => by
    have e : toN u :: toNs us = .int i :: toNs (is.map .int) := e
    injection e with e1 e2
    rw [toN_int e1, toNs_ints e2]
    rfl
theorem toNs_rows : ∀ {ws : List W} {m : List Sr}, toNs ws = toNs (m.map Sr.w) → ws = m.map Sr.w
  | [], [], _ => rfl
  | [], _ :: _, e => by simp [toNs] at e
  | _ :: _, [], e => by simp [toNs] at e
  | w :: ws, s :: m, e => by
    have e : toN w :: toNs ws = .tuple (toNs (s.is.map .int)) :: toNs (m.map Sr.w) := e
    injection e with e1 e2
    have ew : w = s.w := by
      cases w with
      | tup us =>
        have e1 : PyData.tuple (toNs us) = .tuple (toNs (s.is.map .int)) := e1
        injection e1 with e1
        rw [toNs_ints e1]
        rfl
      | _ => simp [toN] at e1
    rw [ew, toNs_rows e2]
    rfl
theorem rows_lis (m : List Sr) : lisB (.lst (m.map Sr.w)) = true := List.all_eq_true.mpr fun w hw => by
  obtain ⟨s, _, rfl⟩ := List.mem_map.mp hw
  rfl
theorem tRs_ints : ∀ is : List Int, tRs (toNs (is.map .int)) = true
  | [] => rfl
  | i :: is => tRs_ints is
theorem tRs_rows : ∀ m : List Sr, tRs (toNs (m.map Sr.w)) = true
  | [] => rfl
  | s :: m => by
    show (tR (.tuple (toNs (s.is.map .int))) && tRs (toNs (m.map Sr.w))) = true
    rw [tRs_rows m, Bool.and_true]
    exact tRs_ints s.is
/-- the very list, by its form and ==, and by what it shows -/
theorem due_eq {x : W} {m : List Sr} (hx : xR (toN x) = true) (rf : eqW (.lst (m.map Sr.w)) (.lst (m.map Sr.w)) = true) : (lisB x && eqW x (.lst (m.map Sr.w))) = ((toN x).shown == (toN (.lst (m.map Sr.w))).shown) := by
  by_cases z : x = .lst (m.map Sr.w)
  · rw [z, rows_lis, rf]
    simp
  · have h1 : (lisB x && eqW x (.lst (m.map Sr.w))) = false := by
      cases e : lisB x && eqW x (.lst (m.map Sr.w)) with
      | false => rfl
      | true =>
        obtain ⟨e1, e2⟩ := Bool.and_eq_true_iff.mp e
        cases x with
        | lst ws => exact absurd (by rw [eqWs_rows (show ws.all rowB = true from e1) (show eqWs ws (m.map Sr.w) = true from e2)]) z
        | _ => cases e1
    have h2 : ((toN x).shown == (toN (.lst (m.map Sr.w))).shown) = false := by
      rw [beq_eq_false_iff_ne]
      intro e
      have := shown_inj (t := toN (.lst (m.map Sr.w))) (tRs_rows m) hx e
      cases x with
      | lst ws =>
        have this : PyData.list (toNs ws) = .list (toNs (m.map Sr.w)) := this
        injection this with this
        exact z (by rw [toNs_rows this])
      | _ => simp [toN] at this
    rw [h1, h2]
theorem lis_okD {x : W} (h : lisB x = true) : okD 60 x = true := by
  cases x with
  | lst ws =>
    refine List.all_eq_true.mpr fun w hw => ?_
    have hr := List.all_eq_true.mp (show ws.all rowB = true from h) w hw
    cases w with
    | tup us =>
      obtain ⟨_, h3⟩ := Bool.and_eq_true_iff.mp (show (us.length == 6 && us.all isI) = true from hr)
      refine List.all_eq_true.mpr fun u hu => ?_
      have := List.all_eq_true.mp h3 u hu
      cases u with
      | int i => rfl
      | _ => cases this
    | _ => cases hr
  | _ => cases h
def ib_p_are_stretches : IS := (sSeq (sSet 3 (iCall sp_p_stretches (iCons (iVar 0) (iCons (iVar 1) iNil))))
  (sRet (iAnd (iCall sp_p_is_list_of (iCons (iVar 2) (iCons (iC (.int 6)) iNil))) (iB gEq (iVar 2) (iVar 3)))))
def sp_p_are_stretches : ISp := fun ws S Q E => ∃ (F R : Int) (cs : List Call) (x : W), ws = [scrW F cs, .int R, x] ∧ Gd F cs ∧ 0 < R ∧ R < 10 ^ 100 ∧ cs.length ≤ 10000 ∧ (okN 60 x = true ∨ ∃ F cs, x = scrW F cs) ∧
  (strB cs = true → ∀ m, Can F R (run F R cs) m 0 0 → Q (.val (.bl (lisB x && eqW x (.lst (m.map Sr.w))))) S) ∧ (strB cs = false → E ⟨"Open", []⟩ S)
theorem ok_p_are_stretches (ws : List W) (S : Sto) (Q : R → Sto → Prop) (E : Exn → Sto → Prop) (h : sp_p_are_stretches ws S Q E) : bodyI 4 ib_p_are_stretches ws S Q E := by
  obtain ⟨F, R, cs, x, rfl, g, hR, hB, hl, hx, q, qE⟩ := h
  unfold ib_p_are_stretches
  refine seq_go fun nx e => ?_
  walk_at "r"
  refine ⟨F, R, cs, rfl, g, hR, hl, fun hs m hm ml => ?_, qE⟩
  have q := q hs m hm
  have rp := sr_repn g hR hB hm (n := 3 + 18 * cs.length) ml
  walk_at "r"
  subst e
  walk_at "r"
  refine ⟨x, rfl, hx, ?_⟩
  walk_at "r"
  refine ifb (fun z => ?_) (fun z => ?_)
  · rw [z, Bool.true_and] at q
    exact ⟨eqOk_of (okD_mono (by decide) _ (lis_okD z)) (okD_mono (by decide) _ rp.1), q⟩
  · rw [z, Bool.false_and] at q
    rw [z]
    exact q
def ib_ls_open_1 : IS := (sDrop (iCall sp_p_are_stretches (iCons (iVar 0) (iCons (iVar 1) (iCons (iVar 2) iNil)))))
def ib_ls_open_2 (h : Hnd) : IS := (sRet (iIsE ["Wrong", "Open", "Unlike"] ["Open"] h (iCons (iVar 3) (iCons (iC (.glo "Open")) iNil))))
def ib_ls_open : IS := (sTryE 3 ["Wrong", "Open", "Unlike"] ib_ls_open_1 ib_ls_open_2 (sRet (iC (.bl false))))
def sp_ls_open : ISp := fun ws S Q E => ∃ (F R : Int) (cs : List Call) (x : W), ws = [scrW F cs, .int R, x] ∧ Gd F cs ∧ 0 < R ∧ R < 10 ^ 100 ∧ cs.length ≤ 10000 ∧ okN 60 x = true ∧ strB cs = false ∧ Q (.val (.bl true)) S
theorem ok_ls_open (ws : List W) (S : Sto) (Q : R → Sto → Prop) (E : Exn → Sto → Prop) (h : sp_ls_open ws S Q E) : bodyI 4 ib_ls_open ws S Q E := by
  obtain ⟨F, R, cs, x, rfl, g, hR, hB, hl, hx, hs, q⟩ := h
  unfold ib_ls_open
  walk_at "r"
  unfold ib_ls_open_1
  walk_at "r"
  refine ⟨F, R, cs, x, rfl, g, hR, hB, hl, .inl hx, (fun z => by rw [hs] at z; cases z), fun _ => ⟨by simp, fun a d => ?_⟩⟩
  unfold ib_ls_open_2
  walk_at "r"
  exact q
structure Tg (x : W) : Prop where
  rn : RepN x
  xr : xR (toN x) = true
  sc : refW x = false → RepOk x
structure OkRow (w : W) : Prop where
  rep : Rep 1 5000 w
  xr : xR (toN w) = true
theorem xRs_all : ∀ {ws : List W}, (∀ w ∈ ws, xR (toN w) = true) → xRs (toNs ws) = true
  | [], _ => rfl
  | w :: ws, h => by
    show (xR (toN w) && xRs (toNs ws)) = true
    rw [h w List.mem_cons_self, xRs_all fun v hv => h v (List.mem_cons_of_mem _ hv)]
    rfl
theorem row_tup {us : List W} (h : ∀ u ∈ us, Rep 0 201 u ∧ xR (toN u) = true) (hl : us.length ≤ 20) : OkRow (.tup us) :=
  ⟨(rep_tup (d := 0) (n := 201) fun u hu => (h u hu).1).up (Nat.le_refl _) (by omega), xRs_all fun u hu => (h u hu).2⟩
theorem row_lst {us : List W} (h : ∀ u ∈ us, Rep 0 201 u ∧ xR (toN u) = true) (hl : us.length ≤ 20) : OkRow (.lst us) :=
  ⟨(rep_lst (d := 0) (n := 201) fun u hu => (h u hu).1).up (Nat.le_refl _) (by omega), xRs_all fun u hu => (h u hu).2⟩
theorem tg_lst {ws : List W} (h : ∀ w ∈ ws, OkRow w) (hl : ws.length ≤ 3000) : Tg (.lst ws) := by
  have r := (rep_lst (d := 1) (n := 5000) fun w hw => (h w hw).rep).up (d' := 2) (n' := 15006003) (Nat.le_refl _) (by omega)
  exact ⟨r.rn.rep, xRs_all fun w hw => (h w hw).xr, fun z => by cases z⟩
theorem tg_tup {ws : List W} (h : ∀ w ∈ ws, OkRow w) (hl : ws.length ≤ 3000) : Tg (.tup ws) := by
  have r := (rep_tup (d := 1) (n := 5000) fun w hw => (h w hw).rep).up (d' := 2) (n' := 15006003) (Nat.le_refl _) (by omega)
  exact ⟨r.rn.rep, xRs_all fun w hw => (h w hw).xr, fun z => by cases z⟩
theorem tg_one {ws : List W} (h : ∀ w ∈ ws, OkRow w) (hl : ws.length ≤ 3000) : Tg (.lst [.lst ws]) := by
  have r := (rep_lst (d := 1) (n := 5000) fun w hw => (h w hw).rep).up (d' := 2) (n' := 15006003) (Nat.le_refl _) (by omega)
  have r2 := rep_lst (d := 2) (n := 15006003) (ws := [.lst ws]) fun w hw => by rw [List.mem_singleton.mp hw]; exact r
  exact ⟨r2.rn.rep (hn := by show 15006003 * 1 + 2 * 1 + 3 ≤ _; rw [sizeLine_eq]; omega), by
    show (xRs (toNs ws) && true) = true
    rw [xRs_all fun w hw => (h w hw).xr]
    rfl, fun z => by cases z⟩
def tgB (x : W) : Bool := (rnB 60 1000 x && xR (toN x)) && (refW x || (okD 60 x && ((toD x).showable && decide ((toD x).shown.length ≤ sizeLine))))
theorem tg_dec {x : W} (h : tgB x = true) : Tg x := by
  obtain ⟨h, h3⟩ := Bool.and_eq_true_iff.mp h
  obtain ⟨h1, h2⟩ := Bool.and_eq_true_iff.mp h
  refine ⟨(rn_dec h1).rep, h2, fun e => ?_⟩
  rw [e, Bool.false_or] at h3
  simp only [Bool.and_eq_true, decide_eq_true_eq] at h3
  exact h3
theorem gReprN_tg {x : W} (h : Tg x) {P : W → Prop} (p : P (.str (toN x).shown)) : gReprN [x] P := by
  show if refW x = true then RepN x ∧ P (.str (toN x).shown) else RepOk x ∧ P (.str (toD x).shown)
  refine ifb (fun e => ⟨h.rn, p⟩) (fun e => ?_)
  have r := h.sc e
  rw [(toN_of x r.1).1] at p
  exact ⟨r, p⟩
theorem tg_bb (c d : Bool) : Tg (.lst [.bl c, .bl d]) := by cases c <;> cases d <;> exact tg_dec (by decide +kernel)
def SmI (w : W) : Prop := ∃ i : Int, w = .int i ∧ -100000 ≤ i ∧ i ≤ 100000
theorem SmI.ok {w : W} (h : SmI w) : Rep 0 201 w ∧ xR (toN w) = true := by
  obtain ⟨i, rfl, h1, h2⟩ := h
  exact ⟨rep_int (bd_of (by omega) (by omega)), rfl⟩
theorem sIf_go {t : IT} {p q : IS} {EI : XI} {D : IEnds} {st : Stt} (h : ∀ P : IS, P = p → sIf t P q EI D st) : sIf t p q EI D st := h p rfl
theorem cut_mem' {α : Type} {xs : List α} {lo hi : Option Int} {x : α} (h : x ∈ cutW xs lo hi) : x ∈ xs := by
  unfold cutW at h
  exact List.mem_of_mem_drop (List.mem_of_mem_take h)
theorem cut_le' {α : Type} {xs : List α} {lo hi : Option Int} : (cutW xs lo hi).length ≤ xs.length := by
  unfold cutW
  exact Nat.le_trans (List.length_take_le' _ _) (by rw [List.length_drop]; omega)
def ib_l_bent_11 : IS := (sRetO 2)
def ib_l_bent_10 : IS := (sSeq (sIf (tBl (iB gEq (iVar 4) (iC (.int 8)))) (sDrop (iMtO 2 gInsert (iCons (iVar 3) (iCons (iVar 5) iNil)))) sNext)
  ib_l_bent_11)
def ib_l_bent_9 : IS := (sSeq (sIf (tAnd' (tBl (iB gEq (iVar 4) (iC (.int 7)))) (tBl (iB gEq (iIx (iVar 5) (iC (.int 1))) (iIx (iVar 5) (iC (.int 2)))))) (sIxO 2 (iVar 3) (iB gAdd (iSl (iVar 5) oNone (oSome (iC (.int 4)))) (iTup (iCons (iNeg (iC (.int 1))) (iCons (iB gAdd (iB gMul (iC (.int 2)) (iIx (iVar 5) (iC (.int 1)))) (iIx (iVar 5) (iC (.int 5)))) iNil))))) sNext)
  ib_l_bent_10)
def ib_l_bent_8 : IS := (sSeq (sIf (tBl (iB gEq (iVar 4) (iC (.int 6)))) (sRet (iCall sp_l_one (iCons (iVar 0) (iCons (iLst (iCons (iC .non) (iCons (iC (.int 3)) (iCons (iLst iNil) (iCons (iTup iNil) (iCons (iFz nDNew) (iCons (iC (.str "ab")) (iCons (iLst (iCons (iC .non) iNil)) (iCons (iLst (iCons (iTup iNil) iNil)) (iCons (iLst (iCons (iVar 2) iNil)) (iCons (iLst (iCons (iLst iNil) iNil)) (iCons (iC (.bl true)) iNil)))))))))))) iNil)))) sNext)
  ib_l_bent_9)
def ib_l_bent_7 : IS := (sSeq (sIf (tBl (iB gEq (iVar 4) (iC (.int 5)))) (sRet (iFn gTuple (iCons (iVar 2) iNil))) sNext)
  ib_l_bent_8)
def ib_l_bent_6 : IS := (sSeq (sIf (tBl (iB gEq (iVar 4) (iC (.int 4)))) (sIxO 2 (iVar 3) (iFn gList (iCons (iVar 5) iNil))) sNext)
  ib_l_bent_7)
def ib_l_bent_5 : IS := (sSeq (sIf (tBl (iB gEq (iVar 4) (iC (.int 3)))) (sRet (iRevL (iVar 2))) sNext)
  ib_l_bent_6)
def ib_l_bent_4 : IS := (sSeq (sIf (tAnd' (tBl (iB gEq (iVar 4) (iC (.int 2)))) (tBl (iB gLt (iIx (iVar 5) (iC (.int 1))) (iIx (iVar 5) (iC (.int 2)))))) (sSeq (sSet 7 (iB gAdd (iB gAdd (iSl (iVar 5) oNone (oSome (iC (.int 2)))) (iTup (iCons (iIx (iVar 5) (iC (.int 1))) iNil))) (iSl (iVar 5) (oSome (iC (.int 3))) oNone)))
    (sRet (iB gAdd (iB gAdd (iSl (iVar 2) oNone (oSome (iVar 3))) (iLst (iCons (iVar 7) (iCons (iB gAdd (iB gAdd (iSl (iVar 5) oNone (oSome (iC (.int 1)))) (iTup (iCons (iB gAdd (iIx (iVar 5) (iC (.int 1))) (iC (.int 1))) iNil))) (iSl (iVar 5) (oSome (iC (.int 2))) oNone)) iNil)))) (iSl (iVar 2) (oSome (iB gAdd (iVar 3) (iC (.int 1)))) oNone)))) sNext)
  ib_l_bent_5)
def ib_l_bent_3 : IS := (sSeq (sIf (tBl (iB gEq (iVar 4) (iC (.int 1)))) (sSeq (sSet 6 (iCall sp_l_take (iCons (iVar 0) (iCons (iC (.int 6)) iNil))))
    (sIxO 2 (iVar 3) (iB gAdd (iB gAdd (iSl (iVar 5) oNone (oSome (iVar 6))) (iTup (iCons (iCall sp_l_one (iCons (iVar 0) (iCons (iLst (iCons (iB gAdd (iIx (iVar 5) (iVar 6)) (iC (.int 1))) (iCons (iB gSub (iIx (iVar 5) (iVar 6)) (iC (.int 1))) (iCons (iC (.bl true)) (iCons (iC .non) (iCons (iC (.str "0")) iNil)))))) iNil))) iNil))) (iSl (iVar 5) (oSome (iB gAdd (iVar 6) (iC (.int 1)))) oNone)))) sNext)
  ib_l_bent_4)
def ib_l_bent_2 : IS := (sSeq (sIf (tBl (iB gEq (iVar 4) (iC (.int 0)))) (sRet (iB gAdd (iSl (iVar 2) oNone (oSome (iVar 3))) (iSl (iVar 2) (oSome (iB gAdd (iVar 3) (iC (.int 1)))) oNone))) sNext)
  ib_l_bent_3)
def ib_l_bent : IS := (sSeq (sParM [2, 3, 4] [.n (nFn gListN (iCons (iVar 1) iNil)), .e (iCall sp_l_take (iCons (iVar 0) (iCons (iFn gLen (iCons (iVar 1) iNil)) iNil))), .e (iCall sp_l_take (iCons (iVar 0) (iCons (iC (.int 10)) iNil)))])
  (sSeq (sSet 5 (iIxO 2 (iVar 3)))
  ib_l_bent_2))
structure Bt (L : List W) (s : Sr) (k : Nat) : Prop where
  ok : ∀ w ∈ L, OkRow w
  len : L.length ≤ 1400
  at_ : k < L.length
  sm : ∀ i ∈ s.is, -10000 ≤ i ∧ i ≤ 10000
section
variable {EI : XI} {D : IEnds} {S : Sto} {a : Addr} {x1 x6 x7 : Slot} {L : List W} {k : Nat} {y : Int} {s : Sr}
theorem Bt.u (b : Bt L s k) : ∀ u ∈ s.is.map W.int, SmI u := fun u hu => by
  obtain ⟨i, hi, rfl⟩ := List.mem_map.mp hu
  have := b.sm i hi
  exact ⟨i, rfl, by omega, by omega⟩
theorem Bt.row (b : Bt L s k) : OkRow s.w := row_tup (fun u hu => (b.u u hu).ok) (by simp)
theorem ix_k (h : k < L.length) : ixN L.length (k : Int) = some k := by
  unfold ixN
  rw [if_pos (by omega), if_pos (by omega)]
  rfl
theorem set_ok {v : W} (b : Bt L s k) (hv : OkRow v) : Bt (L.set k v) s k := by
  refine ⟨fun w hw => ?_, by rw [List.length_set]; exact b.len, by rw [List.length_set]; exact b.at_, b.sm⟩
  rcases List.mem_or_eq_of_mem_set hw with h | h
  · exact b.ok w h
  · rw [h]; exact hv
theorem cl6 (lo hi : Option Int) : (cutW [W.int s.f, W.int s.lo, W.int s.hi, W.int s.to, W.int s.sg, W.int s.sh] lo hi).length ≤ 6 := cut_le'
theorem Bt.cm (b : Bt L s k) {lo hi : Option Int} {u : W} (h : u ∈ cutW [W.int s.f, W.int s.lo, W.int s.hi, W.int s.to, W.int s.sg, W.int s.sh] lo hi) : Rep 0 201 u ∧ xR (toN u) = true := (b.u u (cut_mem' h)).ok
theorem a5 : atI [W.int s.f, W.int s.lo, W.int s.hi, W.int s.to, W.int s.sg, W.int s.sh] 5 = some (W.int s.sh) := by
  rw [show (5 : Int) = ((5 : Nat) : Int) from rfl, atI_nat (by simp)]
  rfl
theorem Bt.aj (b : Bt L s k) {j : Int} (h0 : 0 ≤ j) (h1 : j < 6) : ∃ u : Int, atI [W.int s.f, W.int s.lo, W.int s.hi, W.int s.to, W.int s.sg, W.int s.sh] j = some (W.int u) ∧ -10000 ≤ u ∧ u ≤ 10000 := by
  obtain ⟨n, rfl⟩ : ∃ n : Nat, j = n := ⟨j.toNat, by omega⟩
  have hn : n < s.is.length := by show n < 6; omega
  refine ⟨s.is[n], ?_, b.sm _ (List.getElem_mem hn)⟩
  show atI (s.is.map W.int) n = _
  rw [atI_nat (by rw [List.length_map]; exact hn), List.getElem_map]
theorem row3 (b : Bt L s k) {a c : List W} {lo1 hi1 lo2 hi2 : Option Int} {u : W} (hu : Rep 0 201 u ∧ xR (toN u) = true) : OkRow (.tup (cutW [W.int s.f, W.int s.lo, W.int s.hi, W.int s.to, W.int s.sg, W.int s.sh] lo1 hi1 ++ [u] ++ cutW [W.int s.f, W.int s.lo, W.int s.hi, W.int s.to, W.int s.sg, W.int s.sh] lo2 hi2)) := by
  have := cl6 (s := s) lo1 hi1
  have := cl6 (s := s) lo2 hi2
  refine row_tup (fun w hw => ?_) (by simp only [List.length_append, List.length_singleton]; omega)
  rcases List.mem_append.mp hw with hw | hw
  · rcases List.mem_append.mp hw with hw | hw
    · exact b.cm hw
    · rw [List.mem_singleton.mp hw]; exact hu
  · exact b.cm hw
theorem smi {i : Int} (h1 : -100000 ≤ i) (h2 : i ≤ 100000) : Rep 0 201 (.int i) ∧ xR (toN (.int i)) = true := SmI.ok ⟨i, rfl, h1, h2⟩
theorem bt_11 (ok : ∀ w ∈ L, OkRow w) (len : L.length ≤ 3000) (hb : Bg S a) (q : ∀ r S', Tg r.fz → Bx a S S' → D.rt r S') : ib_l_bent_11 EI D ⟨[.val (.ref a), x1, .own (.lst L), .val (.int (k : Int)), .val (.int y), .val s.w, x6, x7], S⟩ := by
  unfold ib_l_bent_11
  walk_at "r"
  exact q _ _ (tg_lst ok len) (.refl hb)
theorem bt_10 (b : Bt L s k) (hb : Bg S a) (q : ∀ r S', Tg r.fz → Bx a S S' → D.rt r S') : ib_l_bent_10 EI D ⟨[.val (.ref a), x1, .own (.lst L), .val (.int (k : Int)), .val (.int y), .val s.w, x6, x7], S⟩ := by
  unfold ib_l_bent_10
  refine seq_go fun nx e => sIf_go fun P eP => ?_
  walk_at "r"
  refine ifb (fun z => ?_) (fun z => ?_)
  · subst eP
    walk_at "r"
    have := b.len
    have := b.at_
    refine ⟨by rw [sizeLine_eq]; omega, by omega, by omega, ?_⟩
    subst e
    refine bt_11 (fun w hw => ?_) (by simp; omega) hb q
    rcases List.mem_append.mp hw with hw | hw
    · rcases List.mem_append.mp hw with hw | hw
      · exact b.ok w (List.mem_of_mem_take hw)
      · rw [List.mem_singleton.mp hw]
        exact b.row
    · exact b.ok w (List.mem_of_mem_drop hw)
  · subst e
    exact bt_11 b.ok (by have := b.len; omega) hb q
theorem bt_9 (b : Bt L s k) (hb : Bg S a) (q : ∀ r S', Tg r.fz → Bx a S S' → D.rt r S') : ib_l_bent_9 EI D ⟨[.val (.ref a), x1, .own (.lst L), .val (.int (k : Int)), .val (.int y), .val s.w, x6, x7], S⟩ := by
  unfold ib_l_bent_9
  refine seq_go fun nx e => sIf_go fun P eP => ?_
  walk_at "rSr_w"
  have slo := b.sm s.lo (by simp [Sr.is])
  have ssh := b.sm s.sh (by simp [Sr.is])
  refine ifb (fun z => ifb (fun z2 => ?_) (fun z2 => ?_)) (fun z => ?_)
  · subst eP
    simp! only [ix_k b.at_, a5]
    have c4 := cl6 (s := s) none (some 4)
    refine ⟨.inl ⟨bd_of (by omega) (by omega), bd_of (by omega) (by omega)⟩, by rw [sizeLine_eq]; omega, ?_⟩
    subst e
    refine bt_10 (set_ok b (row_tup (fun w hw => ?_) (by simp only [List.length_append, List.length_cons, List.length_nil]; omega))) hb q
    rcases List.mem_append.mp hw with hw | hw
    · exact b.cm hw
    · simp only [List.mem_cons, List.not_mem_nil, or_false] at hw
      rcases hw with rfl | rfl
      · exact smi (by omega) (by omega)
      · exact smi (by omega) (by omega)
  · subst e
    exact bt_10 b hb q
  · subst e
    exact bt_10 b hb q
theorem bt_8 (b : Bt L s k) (hb : Bg S a) (q : ∀ r S', Tg r.fz → Bx a S S' → D.rt r S') : ib_l_bent_8 EI D ⟨[.val (.ref a), x1, .own (.lst L), .val (.int (k : Int)), .val (.int y), .val s.w, x6, x7], S⟩ := by
  unfold ib_l_bent_8
  refine seq_go fun nx e => sIf_go fun P eP => ?_
  walk_at "r"
  refine ifb (fun z => ?_) (fun z => ?_)
  · subst eP
    walk_at "r"
    refine cl_one (by simp) (by simp) hb fun v S3 hv b3 => q _ _ ?_ b3
    simp only [List.mem_cons, List.not_mem_nil, or_false] at hv
    rcases hv with rfl | rfl | rfl | rfl | rfl | rfl | rfl | rfl | rfl | rfl | rfl
    · exact tg_dec (by decide +kernel)
    · exact tg_dec (by decide +kernel)
    · exact tg_dec (by decide +kernel)
    · exact tg_dec (by decide +kernel)
    · exact tg_dec (by decide +kernel)
    · exact tg_dec (by decide +kernel)
    · exact tg_dec (by decide +kernel)
    · exact tg_dec (by decide +kernel)
    · exact tg_one b.ok (by have := b.len; omega)
    · exact tg_dec (by decide +kernel)
    · exact tg_dec (by decide +kernel)
  · subst e
    exact bt_9 b hb q
theorem bt_7 (b : Bt L s k) (hb : Bg S a) (q : ∀ r S', Tg r.fz → Bx a S S' → D.rt r S') : ib_l_bent_7 EI D ⟨[.val (.ref a), x1, .own (.lst L), .val (.int (k : Int)), .val (.int y), .val s.w, x6, x7], S⟩ := by
  unfold ib_l_bent_7
  refine seq_go fun nx e => sIf_go fun P eP => ?_
  walk_at "r"
  refine ifb (fun z => ?_) (fun z => ?_)
  · subst eP
    walk_at "r"
    exact q _ _ (tg_tup b.ok (by have := b.len; omega)) (.refl hb)
  · subst e
    exact bt_8 b hb q
theorem bt_6 (b : Bt L s k) (hb : Bg S a) (q : ∀ r S', Tg r.fz → Bx a S S' → D.rt r S') : ib_l_bent_6 EI D ⟨[.val (.ref a), x1, .own (.lst L), .val (.int (k : Int)), .val (.int y), .val s.w, x6, x7], S⟩ := by
  unfold ib_l_bent_6
  refine seq_go fun nx e => sIf_go fun P eP => ?_
  walk_at "r"
  refine ifb (fun z => ?_) (fun z => ?_)
  · subst eP
    walk_at "rSr_w"
    rw [ix_k b.at_]
    subst e
    exact bt_7 (set_ok b (row_lst (us := s.is.map W.int) (fun u hu => (b.u u hu).ok) (by simp [Sr.is]))) hb q
  · subst e
    exact bt_7 b hb q
theorem bt_5 (b : Bt L s k) (hb : Bg S a) (q : ∀ r S', Tg r.fz → Bx a S S' → D.rt r S') : ib_l_bent_5 EI D ⟨[.val (.ref a), x1, .own (.lst L), .val (.int (k : Int)), .val (.int y), .val s.w, x6, x7], S⟩ := by
  unfold ib_l_bent_5
  refine seq_go fun nx e => sIf_go fun P eP => ?_
  walk_at "r"
  refine ifb (fun z => ?_) (fun z => ?_)
  · subst eP
    walk_at "r"
    exact q _ _ (tg_lst (fun w hw => b.ok w (List.mem_reverse.mp hw)) (by have := b.len; rw [List.length_reverse]; omega)) (.refl hb)
  · subst e
    exact bt_6 b hb q
theorem bt_4 (b : Bt L s k) (hb : Bg S a) (q : ∀ r S', Tg r.fz → Bx a S S' → D.rt r S') : ib_l_bent_4 EI D ⟨[.val (.ref a), x1, .own (.lst L), .val (.int (k : Int)), .val (.int y), .val s.w, x6, x7], S⟩ := by
  unfold ib_l_bent_4
  refine seq_go fun nx e => sIf_go fun P eP => ?_
  walk_at "rSr_w"
  have slo := b.sm s.lo (by simp [Sr.is])
  refine ifb (fun z => ifb (fun z2 => ?_) (fun z2 => ?_)) (fun z => ?_)
  · subst eP
    clear e
    refine seq_go fun nx2 e2 => ?_
    walk_at "r"
    subst e2
    walk_at "r"
    have c1 := cl6 (s := s) none (some 1)
    have c2 := cl6 (s := s) none (some 2)
    have c3 := cl6 (s := s) (some 3) none
    have c4 := cl6 (s := s) (some 2) none
    have d1 := cut_le' (xs := L) (lo := none) (hi := some (k : Int))
    have d2 := cut_le' (xs := L) (lo := some ((k : Int) + 1)) (hi := none)
    have dl := b.len
    simp only [List.length_append, List.length_singleton, List.length_cons, List.length_nil]
    refine ⟨by rw [sizeLine_eq]; omega, by rw [sizeLine_eq]; omega, by rw [sizeLine_eq]; omega, by rw [sizeLine_eq]; omega, by rw [sizeLine_eq]; omega, by rw [sizeLine_eq]; omega, q _ _ (tg_lst (fun w hw => ?_) (by simp only [List.length_append, List.length_cons, List.length_nil]; omega)) (.refl hb)⟩
    rcases List.mem_append.mp hw with hw | hw
    · rcases List.mem_append.mp hw with hw | hw
      · exact b.ok w (cut_mem' hw)
      · simp only [List.mem_cons, List.not_mem_nil, or_false] at hw
        rcases hw with rfl | rfl
        · exact row3 b (a := []) (c := []) (smi (by omega) (by omega))
        · exact row3 b (a := []) (c := []) (smi (by omega) (by omega))
    · exact b.ok w (cut_mem' hw)
  · subst e
    exact bt_5 b hb q
  · subst e
    exact bt_5 b hb q
theorem bt_3 (b : Bt L s k) (hb : Bg S a) (q : ∀ r S', Tg r.fz → Bx a S S' → D.rt r S') : ib_l_bent_3 EI D ⟨[.val (.ref a), x1, .own (.lst L), .val (.int (k : Int)), .val (.int y), .val s.w, x6, x7], S⟩ := by
  unfold ib_l_bent_3
  refine seq_go fun nx e => sIf_go fun P eP => ?_
  walk_at "r"
  refine ifb (fun z => ?_) (fun z => ?_)
  · subst eP
    refine seq_go fun nx2 e2 => ?_
    walk_at "r"
    refine cl_take (by omega) (bd_of (by omega) (by omega)) hb fun j S1 j0 j1 b1 => ?_
    walk_at "r"
    subst e2
    obtain ⟨u, hu, u0, u1⟩ := b.aj j0 j1
    simp! only [Sr.w, hu, ix_k b.at_]
    refine cl_one (by simp) (by simp) b1.bg fun v S3 hv b3 => ?_
    have c1 := cl6 (s := s) none (some j)
    have c2 := cl6 (s := s) (some (j + 1)) none
    have hv : Rep 0 201 v ∧ xR (toN v) = true := by
      simp only [List.mem_cons, List.not_mem_nil, or_false] at hv
      rcases hv with rfl | rfl | rfl | rfl | rfl
      · exact smi (by omega) (by omega)
      · exact smi (by omega) (by omega)
      · exact ⟨(rep_bl _).up (Nat.le_refl _) (by decide), rfl⟩
      · exact ⟨rep_non.up (Nat.le_refl _) (by decide), rfl⟩
      · exact ⟨⟨by decide +kernel, by decide +kernel, by decide +kernel⟩, by decide +kernel⟩
    simp only [List.length_append, List.length_singleton, List.length_cons, List.length_nil]
    refine ⟨by rw [sizeLine_eq]; omega, by rw [sizeLine_eq]; omega, ?_⟩
    subst e
    exact bt_4 (set_ok b (row3 b (a := []) (c := []) hv)) b3.bg fun r S' t bx => q r S' t ((b1.trans b3).trans bx)
  · subst e
    exact bt_4 b hb q
theorem bt_2 (b : Bt L s k) (hb : Bg S a) (q : ∀ r S', Tg r.fz → Bx a S S' → D.rt r S') : ib_l_bent_2 EI D ⟨[.val (.ref a), x1, .own (.lst L), .val (.int (k : Int)), .val (.int y), .val s.w, x6, x7], S⟩ := by
  unfold ib_l_bent_2
  refine seq_go fun nx e => sIf_go fun P eP => ?_
  walk_at "r"
  refine ifb (fun z => ?_) (fun z => ?_)
  · subst eP
    walk_at "r"
    have c1 := cut_le' (xs := L) (lo := none) (hi := some (k : Int))
    have c2 := cut_le' (xs := L) (lo := some ((k : Int) + 1)) (hi := none)
    have := b.len
    refine ⟨by rw [sizeLine_eq]; omega, q _ _ (tg_lst (fun w hw => ?_) (by rw [List.length_append]; omega)) (.refl hb)⟩
    rcases List.mem_append.mp hw with hw | hw <;> exact b.ok w (cut_mem' hw)
  · subst e
    exact bt_3 b hb q
end
def sp_l_bent : ISp := fun ws S Q E => ∃ (a : Addr) (m : List Sr), ws = [.ref a, .lst (m.map Sr.w)] ∧ m ≠ [] ∧ m.length ≤ 1300 ∧ (∀ s ∈ m, ∀ i ∈ s.is, -10000 ≤ i ∧ i ≤ 10000) ∧ Bg S a ∧ ∀ r S', Tg r.fz → Bx a S S' → Q r S'
theorem ok_l_bent (ws : List W) (S : Sto) (Q : R → Sto → Prop) (E : Exn → Sto → Prop) (h : sp_l_bent ws S Q E) : bodyI 8 ib_l_bent ws S Q E := by
  obtain ⟨a, m, rfl, m0, m1, hm, hb, q⟩ := h
  unfold ib_l_bent
  have hl : (m.map Sr.w).length = m.length := List.length_map ..
  have hpos : 0 < m.length := List.length_pos_iff.mpr m0
  have okr : ∀ w ∈ m.map Sr.w, OkRow w := fun w hw => by
    obtain ⟨s, hs, rfl⟩ := List.mem_map.mp hw
    refine row_tup (us := s.is.map W.int) (fun u hu => ?_) (by simp [Sr.is])
    obtain ⟨i, hi, rfl⟩ := List.mem_map.mp hu
    have := hm s hs i hi
    exact smi (by omega) (by omega)
  refine seq_go fun nx e => ?_
  walk_at "r"
  rw [hl]
  refine cl_take (by omega) (bd_of (by omega) (by omega)) hb fun i S1 i0 i1 b1 => ?_
  walk_at "r"
  refine cl_take (by omega) (bd_of (by omega) (by omega)) b1.bg fun y S2 y0 y1 b2 => ?_
  have b2 := b1.trans b2
  clear b1
  subst e
  obtain ⟨k, rfl⟩ : ∃ k : Nat, i = k := ⟨i.toNat, by omega⟩
  have hk : k < m.length := by omega
  obtain ⟨s, es⟩ : ∃ s, m[k]? = some s := ⟨m[k], by rw [List.getElem?_eq_getElem hk]⟩
  have hs : s ∈ m := List.mem_of_getElem? es
  have ar : atI (m.map Sr.w) (k : Int) = some s.w := by
    rw [atI_nat (by rw [hl]; exact hk), ← List.getElem?_eq_getElem, List.getElem?_map, es]
    rfl
  refine seq_go fun nx e => ?_
  simp! only [ar]
  subst e
  exact bt_2 ⟨okr, by rw [hl]; omega, by rw [hl]; exact hk, hm s hs⟩ b2.bg fun r S' t bx => q r S' t (b2.trans bx)
theorem chn_len {F R : Int} (hR : 0 < R) : ∀ {l : List Sr} {f r : Int}, f ≤ F → 0 ≤ r → r < R → Chn F R l f r → (l.length : Int) ≤ (F - f) * R - r
  | [], f, r, hf, h0, h1, h => by
    obtain ⟨rfl, rfl⟩ := h
    simp
  | s :: l, f, r, hf, h0, h1, h => by
    obtain ⟨e1, e2, e3, e4, e5, e6⟩ := h
    rw [List.length_cons]
    split at e6
    · have := chn_len hR (by omega) (Int.le_refl 0) hR e6
      have e : (F - f) * R = (F - (f + 1)) * R + R := by rw [show F - f = (F - (f + 1)) + 1 by omega, Int.add_mul, Int.one_mul]
      omega
    · have := chn_len hR hf (by omega) (by omega) e6
      omega
def ib_law_1 : IS := (sSeq (sSet 9 (iCall sp_l_bent (iCons (iVar 1) (iCons (iVar 7) iNil))))
      (sSeq (sPar 10 11 (iFn gReprN (iCons (iVar 9) iNil)) (iB gEq (iFn gReprN (iCons (iVar 9) iNil)) (iFn gReprN (iCons (iVar 7) iNil))))
      (sSeq (sIf (tBl (iB gNe (iFn gReprN (iCons (iLst (iCons (iCall sp_p_are_stretches (iCons (iVar 6) (iCons (iVar 4) (iCons (iVar 9) iNil)))) (iCons (iCall sp_p_are_stretches (iCons (iVar 6) (iCons (iVar 4) (iCons (iVar 9) iNil)))) iNil))) iNil)) (iFn gReprN (iCons (iLst (iCons (iVar 11) (iCons (iVar 11) iNil))) iNil)))) (sRet (iC (.bl false))) sNext)
      (sIf (tBl (iB gNe (iFn gReprN (iCons (iVar 9) iNil)) (iVar 10))) (sRet (iC (.bl false))) sNext))))
def ib_law_2 : IS := (sIf (tNot' (tTru' (iCall sp_ls_open (iCons (iVar 12) (iCons (iVar 4) (iCons (iVar 9) iNil)))))) (sRet (iC (.bl false))) sNext)
def ib_law_3 : IS := (sSeq (sPar 3 4 (iB gAdd (iC (.int 2)) (iCall sp_l_take (iCons (iVar 1) (iCons (iC (.int 2)) iNil)))) (iB gAdd (iC (.int 1)) (iCall sp_l_take (iCons (iVar 1) (iCons (iIx (iLst (iCons (iC (.int 3)) (iCons (iC (.int 10)) (iCons (iC (.int 40)) (iCons (iC (.int 400)) iNil))))) (iCall sp_l_take (iCons (iVar 1) (iCons (iC (.int 4)) iNil)))) iNil)))))
    (sSeq (sSet 5 (iCall sp_l_calls (iCons (iVar 1) (iCons (iVar 3) (iCons (iCall sp_l_straight_kinds iNil) (iCons (iCall sp_l_take (iCons (iVar 1) (iCons (iC (.int 6)) iNil))) iNil))))))
    (sSeq (sPar 6 7 (iFz (nMake "Script" sp_k_Script (iCons (iVar 3) (iCons (iVar 5) iNil)))) (iCall sp_l_stretches (iCons (iVar 5) (iCons (iVar 3) (iCons (iVar 4) iNil)))))
    (sSeq (sFor (lRange1 (iC (.int 8))) (gNm 8) ib_law_1)
    (sSeq (sIf (tBl (iB (gIsB true) (iCall sp_p_are_stretches (iCons (iVar 6) (iCons (iVar 4) (iCons (iVar 6) iNil)))) (iC (.bl false)))) (sRet (iC (.bl false))) sNext)
    (sSeq (sSet 12 (iFz (nMake "Script" sp_k_Script (iCons (iVar 3) (iCons (iB gAdd (iLst (iCons (iTup (iCons (iC (.str "others")) iNil)) iNil)) (iVar 5)) iNil)))))
    (sFor (lSeq (iTup (iCons (iVar 7) (iCons (iC .non) (iCons (iC (.int 3)) (iCons (iTup iNil) (iCons (iLst (iCons (iC .non) iNil)) (iCons (iLst (iCons (iTup iNil) iNil)) (iCons (iFn gTuple (iCons (iVar 7) iNil)) iNil))))))))) (gNm 9) ib_law_2)))))))
def ib_law : IS := (sSeq (sSetP 1 (nCall sp_l_bag (iCons (iVar 0) iNil)))
  (sSeq (sFor (lRange1 (iC (.int 5))) (gNm 2) ib_law_3)
  (sRet (iC (.bl true)))))
theorem law_1 {EI : XI} {D : IEnds} {S : Sto} {sc tn : W} {ad : Addr} {F R : Int} {cs : List Call} {m : List Sr} {x_k x_thing x_shown x_due x_free : Slot} (hb : Bg S ad) (g : Gd F cs) (hs : strB cs = true) (hl : cs.length ≤ 20) (R1 : 1 ≤ R) (R2 : R ≤ 400) (hm : Can F R (run F R cs) m 0 0)
    (q : ∀ x_thing x_shown x_due S, Bg S ad → D.nx ⟨[.val (sc), .val (.ref ad), .val (tn), .val (.int F), .val (.int R), .val (.lst (cs.map Call.w)), .val (scrW F cs), .val (.lst (m.map Sr.w)), x_k, x_thing, x_shown, x_due, x_free], S⟩) :
    ib_law_1 EI D ⟨[.val (sc), .val (.ref ad), .val (tn), .val (.int F), .val (.int R), .val (.lst (cs.map Call.w)), .val (scrW F cs), .val (.lst (m.map Sr.w)), x_k, x_thing, x_shown, x_due, x_free], S⟩ := by
  have hF := g.fil
  unfold Fil at hF
  have P := can_prt (by omega) hm
  have hin : ∀ p, At F R p → At F R (run F R cs p) := fun p hp => run_in (by omega) (by omega) g.ok hp
  have sb : ∀ s ∈ m, ∀ i ∈ s.is, -10000 ≤ i ∧ i ≤ 10000 := fun s hs' i hi => by
    have := sr_bd (by omega) (by omega) hin P hs' i hi
    omega
  have ml : m.length ≤ 1300 := by
    have := chn_len (F := F) (R := R) (by omega) (by omega) (Int.le_refl 0) (by omega) hm.chn
    have : (F - 0) * R ≤ 3 * 400 := Int.mul_le_mul (by omega) (by omega) (by omega) (by omega)
    omega
  have m0 : m ≠ [] := fun z => by
    have := hm.chn
    rw [z] at this
    have := this.1
    omega
  have okr : ∀ w ∈ m.map Sr.w, OkRow w := fun w hw => by
    obtain ⟨s, hs', rfl⟩ := List.mem_map.mp hw
    refine row_tup (us := s.is.map W.int) (fun u hu => ?_) (by simp [Sr.is])
    obtain ⟨i, hi, rfl⟩ := List.mem_map.mp hu
    have := sb s hs' i hi
    exact smi (by omega) (by omega)
  have tT : Tg (.lst (m.map Sr.w)) := tg_lst okr (by rw [List.length_map]; omega)
  have rf : eqW (.lst (m.map Sr.w)) (.lst (m.map Sr.w)) = true := eqW_refl 60 _ (lis_okD (rows_lis m))
  unfold ib_law_1
  generalize hG : gReprN = G
  refine seq_go fun nx e => ?_
  walk_at "r"
  refine ⟨ad, m, rfl, m0, ml, sb, hb, fun r S1 tx b1 => ?_⟩
  have dq := due_eq (x := r.fz) (m := m) tx.xr rf
  subst e
  refine seq_go fun nx e => ?_
  walk_at "r"
  rw [← hG]
  refine gReprN_tg tx ?_
  try simp only []
  refine gReprN_tg tx ?_
  try simp only []
  refine gReprN_tg tT ?_
  try simp only []
  try rw [hG]
  walk_at "r"
  subst e
  have b100 : (1000 : Int) < 10 ^ 100 := by decide
  refine seq_go fun nx e => ?_
  walk_at "r"
  refine ⟨F, R, cs, r.fz, rfl, g, by omega, by omega, by omega, .inl tx.rn.1, fun _ m2 hm2 => ?_, fun z => by rw [hs] at z; (cases z)⟩
  have em := can_unique hm2 hm
  rw [em, dq]
  walk_at "r"
  refine ⟨F, R, cs, r.fz, rfl, g, by omega, by omega, by omega, .inl tx.rn.1, fun _ m3 hm3 => ?_, fun z => by rw [hs] at z; (cases z)⟩
  have em3 := can_unique hm3 hm
  rw [em3, dq]
  walk_at "r"
  rw [← hG]
  refine gReprN_tg (tg_bb _ _) ?_
  try simp only []
  refine gReprN_tg (tg_bb _ _) ?_
  try simp only []
  try rw [hG]
  walk_at "r"
  subst e
  walk_at "r"
  rw [← hG]
  refine gReprN_tg tx ?_
  walk_at "r"
  exact q _ _ _ _ b1.bg
theorem law_2 {EI : XI} {D : IEnds} {S : Sto} {ad : Addr} {tn : Slot} {sc x : W} {F R : Int} {cs ds : List Call} {m : List Sr} {x_k x_shown x_due : Slot} (g : Gd F ds) (hs : strB ds = false) (hl : ds.length ≤ 100) (R1 : 1 ≤ R) (R2 : R ≤ 400) (hx : okN 60 x = true)
    (q : D.nx ⟨[.val (sc), .val (.ref ad), tn, .val (.int F), .val (.int R), .val (.lst (cs.map Call.w)), .val (scrW F cs), .val (.lst (m.map Sr.w)), x_k, .val (x), x_shown, x_due, .val (scrW F ds)], S⟩) :
    ib_law_2 EI D ⟨[.val (sc), .val (.ref ad), tn, .val (.int F), .val (.int R), .val (.lst (cs.map Call.w)), .val (scrW F cs), .val (.lst (m.map Sr.w)), x_k, .val (x), x_shown, x_due, .val (scrW F ds)], S⟩ := by
  unfold ib_law_2
  have b100 : (1000 : Int) < 10 ^ 100 := by decide
  walk_at "r"
  refine ⟨F, R, ds, x, rfl, g, by omega, by omega, by omega, hx, hs, ?_⟩
  walk_at "r"
  exact q
theorem law_3 {EI : XI} {D : IEnds} {S : Sto} {x_files x_rows x_calls_here x_some x_told x_k x_thing x_shown x_due x_free : Slot} {sc : W} {ad : Addr} {tn : Int} (hb : Bg S ad) (q : ∀ (x_turn x_files x_rows x_calls_here x_some x_told x_k x_thing x_shown x_due x_free : Slot) S', Bg S' ad → D.nx ⟨[.val (sc), .val (.ref ad), x_turn, x_files, x_rows, x_calls_here, x_some, x_told, x_k, x_thing, x_shown, x_due, x_free], S'⟩) : ib_law_3 EI D ⟨[.val (sc), .val (.ref ad), .val (.int tn), x_files, x_rows, x_calls_here, x_some, x_told, x_k, x_thing, x_shown, x_due, x_free], S⟩ := by
  unfold ib_law_3
  refine seq_cut (fun st => ∃ (F R : Int) (x_calls_here x_some x_told x_k x_thing x_shown x_due x_free : Slot) (S' : Sto), Bg S' ad ∧ Fil F ∧ 1 ≤ R ∧ R ≤ 400 ∧ st = ⟨[.val (sc), .val (.ref ad), .val (.int tn), .val (.int F), .val (.int R), x_calls_here, x_some, x_told, x_k, x_thing, x_shown, x_due, x_free], S'⟩) (fun nx k => ?_) (fun st ⟨F, R, x_calls_here, x_some, x_told, x_k, x_thing, x_shown, x_due, x_free, S2, hb2, hF, R1, R2, es⟩ => ?_)
  · walk_at "r"
    refine cl_take (by decide) (bd_of (by omega) (by omega)) hb fun f S1 f0 f1 b1 => ?_
    walk_at "r"
    refine cl_take (by decide) (bd_of (by omega) (by omega)) b1.bg fun i S2 i0 i1 b2 => ?_
    have hF : Fil (2 + f) := by unfold Fil; omega
    have : i = 0 ∨ i = 1 ∨ i = 2 ∨ i = 3 := by omega
    rcases this with rfl | rfl | rfl | rfl
    · walk_at "r"
      refine cl_take (by decide) (bd_of (by omega) (by omega)) b2.bg fun r S3 r0 r1 b3 => ?_
      walk_at "r"
      exact k _ ⟨2 + f, 1 + r, _, _, _, _, _, _, _, _, S3, b3.bg, hF, by omega, by omega, rfl⟩
    · walk_at "r"
      refine cl_take (by decide) (bd_of (by omega) (by omega)) b2.bg fun r S3 r0 r1 b3 => ?_
      walk_at "r"
      exact k _ ⟨2 + f, 1 + r, _, _, _, _, _, _, _, _, S3, b3.bg, hF, by omega, by omega, rfl⟩
    · walk_at "r"
      refine cl_take (by decide) (bd_of (by omega) (by omega)) b2.bg fun r S3 r0 r1 b3 => ?_
      walk_at "r"
      exact k _ ⟨2 + f, 1 + r, _, _, _, _, _, _, _, _, S3, b3.bg, hF, by omega, by omega, rfl⟩
    · walk_at "r"
      refine cl_take (by decide) (bd_of (by omega) (by omega)) b2.bg fun r S3 r0 r1 b3 => ?_
      walk_at "r"
      exact k _ ⟨2 + f, 1 + r, _, _, _, _, _, _, _, _, S3, b3.bg, hF, by omega, by omega, rfl⟩
  subst es
  have hF2 := hF
  unfold Fil at hF2
  refine seq_cut (fun st => ∃ (cs : List Call) (x_some x_told x_k x_thing x_shown x_due x_free : Slot) (S' : Sto), Bg S' ad ∧ Gd F cs ∧ strB cs = true ∧ cs.length ≤ 20 ∧ st = ⟨[.val (sc), .val (.ref ad), .val (.int tn), .val (.int F), .val (.int R), .val (.lst (cs.map Call.w)), x_some, x_told, x_k, x_thing, x_shown, x_due, x_free], S'⟩) (fun nx k => ?_) (fun st ⟨cs, x_some, x_told, x_k, x_thing, x_shown, x_due, x_free, S3, hb3, g, hs, hl, es⟩ => ?_)
  · walk_at "r"
    refine ⟨rfl, ?_⟩
    refine cl_take (by decide) (bd_of (by omega) (by omega)) hb2 fun n S3 n0 n1 b3 => ?_
    walk_at "r"
    refine ⟨ad, F, n, ["all", "up", "up", "swap", "wheel", "wheel", "about", "front", "front"], rfl, by omega, by omega, n0, by omega, by decide, by decide, by decide, b3.bg, fun cs S4 g hl _ hw b4 => ?_⟩
    walk_at "r"
    exact k _ ⟨cs, _, _, _, _, _, _, _, S4, b4.bg, g, strB_of fun c hc => straight_word (hw c hc), by omega, rfl⟩
  subst es
  refine seq_cut (fun st => ∃ (m : List Sr) (x_k x_thing x_shown x_due x_free : Slot), Can F R (run F R cs) m 0 0 ∧ st = ⟨[.val (sc), .val (.ref ad), .val (.int tn), .val (.int F), .val (.int R), .val (.lst (cs.map Call.w)), .val (scrW F cs), .val (.lst (m.map Sr.w)), x_k, x_thing, x_shown, x_due, x_free], S3⟩) (fun nx k => ?_) (fun st ⟨m, x_k, x_thing, x_shown, x_due, x_free, hm, es⟩ => ?_)
  · walk_at "r"
    refine fun a ha => mk_Script (cs := cs) ha (.inl rfl) g ⟨rfl, ?_⟩; simp only [Sto.put_same, so_ins, Sto.del_put ha]
    refine ⟨F, R, cs, rfl, hF, g.ok, R1, by omega, fun m hm => ?_⟩
    walk_at "r"
    exact k _ ⟨m, _, _, _, _, _, hm, rfl⟩
  subst es
  refine seq_cut (fun st => ∃ (x_k x_thing x_shown x_due x_free : Slot) (S' : Sto), Bg S' ad ∧ st = ⟨[.val (sc), .val (.ref ad), .val (.int tn), .val (.int F), .val (.int R), .val (.lst (cs.map Call.w)), .val (scrW F cs), .val (.lst (m.map Sr.w)), x_k, x_thing, x_shown, x_due, x_free], S'⟩) (fun nx k => ?_) (fun st ⟨x_k, x_thing, x_shown, x_due, x_free, S4, hb4, es⟩ => ?_)
  · walk_at "rsFor_lRange1"
    refine ⟨by unfold i62; omega, ?_⟩
    refine for_same (fun st => ∃ (x_k x_thing x_shown x_due x_free : Slot) (S' : Sto), Bg S' ad ∧ st = ⟨[.val (sc), .val (.ref ad), .val (.int tn), .val (.int F), .val (.int R), .val (.lst (cs.map Call.w)), .val (scrW F cs), .val (.lst (m.map Sr.w)), x_k, x_thing, x_shown, x_due, x_free], S'⟩) _ _ ⟨_, _, _, _, _, S3, hb3, rfl⟩ (fun st => k st) fun w hw st nx ⟨x_k, x_thing, x_shown, x_due, x_free, S', hb', es⟩ hn => ?_
    subst es
    exact law_1 hb' g hs hl R1 R2 hm fun x y z S hb => hn _ ⟨_, _, _, _, _, S, hb, rfl⟩
  subst es
  have b100 : (1000 : Int) < 10 ^ 100 := by decide
  refine seq_go fun nx e => ?_
  walk_at "r"
  refine ⟨F, R, cs, scrW F cs, rfl, g, by omega, by omega, by omega, .inr ⟨F, cs, rfl⟩, fun _ m2 hm2 => ?_, fun z => by rw [hs] at z; (cases z)⟩
  have nl : lisB (scrW F cs) = false := rfl
  rw [nl, Bool.false_and]
  walk_at "r"
  subst e
  have len : (cs.map Call.w).length ≤ 20 := by rw [List.length_map]; exact hl
  have gb : Gd F (.others :: cs) := ⟨hF, fun d hd => ?_, ?_⟩
  · refine seq_go fun nx e => ?_
    walk_at "r"
    refine ⟨by rw [sizeLine_eq]; omega, ?_⟩
    refine fun a ha => mk_Script (cs := .others :: cs) ha (.inl rfl) gb ⟨rfl, ?_⟩; simp only [Sto.put_same, so_ins, Sto.del_put ha]
    subst e
    have okt : okN 60 (.lst (m.map Sr.w)) = true := (toN_of _ (lis_okD (rows_lis m))).2
    have sb : strB (.others :: cs) = false := rfl
    walk_at "rsFor_lSeq_gItems"
    refine for_same (fun st => ∃ x8 x9 x10 x11, st = ⟨[.val (sc), .val (.ref ad), .val (.int tn), .val (.int F), .val (.int R), .val (.lst (cs.map Call.w)), .val (scrW F cs), .val (.lst (m.map Sr.w)), x8, x9, x10, x11, .val (scrW F (.others :: cs))], S4⟩) _ _ ⟨_, _, _, _, rfl⟩ (fun st ⟨x8, x9, x10, x11, es⟩ => ?_) fun w hw st nx ⟨x8, x9, x10, x11, es⟩ hn => ?_
    · subst es
      exact q _ _ _ _ _ _ _ _ _ _ _ S4 hb4
    · subst es
      refine law_2 gb sb (by rw [List.length_cons]; omega) R1 R2 ?_ (hn _ ⟨_, _, _, _, rfl⟩)
      simp only [List.mem_cons, List.not_mem_nil, or_false] at hw
      rcases hw with rfl | rfl | rfl | rfl | rfl | rfl | rfl
      · exact okt
      · rfl
      · rfl
      · rfl
      · rfl
      · rfl
      · exact okt
  · rcases List.mem_cons.mp hd with rfl | hd
    · exact ⟨trivial, trivial⟩
    · exact g.gd d hd
  · rw [List.length_cons]
    omega
theorem pure_law (ns : List Int) (hn : ns.length ≤ 63) : bodyI 13 ib_law [.scr ns] S0 (fun r _ => r = .val (.bl true)) fun _ _ => False := by
  unfold ib_law
  refine seq_go fun nx e => ?_
  walk_at "r"
  refine ⟨ns, rfl, hn, fun o hb ad _ => ?_⟩
  subst e
  refine seq_cut (fun _ => True) (fun nx h => ?_) (fun st _ => rfl)
  walk_at "rsFor_lRange1"
  refine ⟨by unfold i62; omega, for_rng (fun i st => ∃ (x_turn x_files x_rows x_calls_here x_some x_told x_k x_thing x_shown x_due x_free : Slot) (S : Sto), Bg S ad ∧ st = ⟨[.val (.scr ns), .val (.ref ad), x_turn, x_files, x_rows, x_calls_here, x_some, x_told, x_k, x_thing, x_shown, x_due, x_free], S⟩) _ _ ⟨_, _, _, _, _, _, _, _, _, _, _, _, ⟨o, Sto.put_same, hb⟩, rfl⟩ (fun st _ => h st trivial) fun i hi st nx ⟨x_turn, x_files, x_rows, x_calls_here, x_some, x_told, x_k, x_thing, x_shown, x_due, x_free, S, hb, es⟩ hn => ?_⟩
  subst es
  walk_at "r"
  exact law_3 hb fun x_turn x_files x_rows x_calls_here x_some x_told x_k x_thing x_shown x_due x_free S hb => hn _ ⟨x_turn, x_files, x_rows, x_calls_here, x_some, x_told, x_k, x_thing, x_shown, x_due, x_free, S, hb, rfl⟩
end Sh
namespace Law
open PySem PySem.Spec L2 Sh
open PyProof.Rows hiding St
open Law0
section
variable {P : Program} {w : World} {K : PySem.W.Frag} {mg : Str → Option Value} {base : Heap}
theorem sc_l_bag : FnScope ["_law_script", "_law_cell"] ["_law_script"] (defScope s_l_bag) := ⟨rfl, rfl, rfl, by decide +kernel, rfl, by decide +kernel, by decide +kernel⟩
theorem d_l_bag (D : Df K mg "_law_bag" s_l_bag) (b_abs : mg "abs" = none) : Cal P w K mg base "_law_bag" 1 1 (bodyI 2 ib_l_bag) := by
  refine calI (k := 0) (ps := ["_law_script"]) (N := ["_law_script", "_law_cell"]) D sc_l_bag (fun _ _ _ _ _ _ us hl => match us, hl with | [_], _ => rfl) fun f cdv A outer s H E hr gu F Wx tk => ?_
  have hN := sc_l_bag.nd
  have hu := hr.units
  exact (s_one (s_retN (n_lst (ia_cons i_int (ia_cons i_int (ia_cons i_int (ia_cons (i_fz (n_lc [("_law_cell", 1)] hN (l_seq (i_sl (i_var 0) o_none (o_some i_int))) (blkOk_by rfl) (fun s H C cl fp F => (g_name (vs := [1]) 1 hN)) (fun s H C cl fp => ti_nil) (fun s H C cl fp F => (i_abs b_abs (ia_cons (i_var 1) ia_nil))))) ia_nil)))))))
theorem sc_l_take : FnScope ["_law_bag_here", "_law_many", "_law_cell", "_law_mixed_here", "_law_drawn", "_law_begin", "_law_second"] ["_law_bag_here", "_law_many"] (defScope s_l_take) := ⟨rfl, rfl, rfl, by decide +kernel, rfl, by decide +kernel, by decide +kernel⟩
theorem d_l_take (D : Df K mg "_law_take" s_l_take) (b_len : mg "len" = none) (b_int : mg "int" = none) : Cal P w K mg base "_law_take" 1 2 (bodyI 7 ib_l_take) := by
  refine calI (k := 0) (ps := ["_law_bag_here", "_law_many"]) (N := ["_law_bag_here", "_law_many", "_law_cell", "_law_mixed_here", "_law_drawn", "_law_begin", "_law_second"]) D sc_l_take (fun _ _ _ _ _ _ us hl => match us, hl with | [_, _], _ => rfl) fun f cdv A outer s H E hr gu F Wx tk => ?_
  have hN := sc_l_take.nd
  have hu := hr.units
  exact (s_cons (s_if (t_eq hu (i_ix (i_var 0) i_int) i_int) (s_cons (s_set 2 hN i_int)
    (s_cons (s_if (t_lt (i_ix (i_var 0) i_int) (i_len b_len (ia_cons (i_ix (i_var 0) i_int) ia_nil))) (s_one (s_set 2 hN (i_ix (i_ix (i_var 0) i_int) (i_ix (i_var 0) i_int)))) s_nil)
    (s_cons (s_augS 0 ip_add i_int i_int)
    (s_cons (s_if (t_ge (i_var 2) i_int) (s_one (s_ixS 0 (i_var 2) i_int)) s_nil)
    (s_cons (s_set 3 hN (i_add (i_add (i_mul (i_ix (i_var 0) i_int) i_int) (i_mod (i_toint b_int (ia_cons (i_var 2) ia_nil)) i_int)) (i_mul i_int (i_ix (i_var 0) i_int))))
    (s_one (s_ixS 0 (i_mod (i_toint b_int (ia_cons (i_var 3) ia_nil)) i_int) i_int))))))) s_nil)
  (s_cons (s_if (t_gt (i_ix (i_var 0) i_int) i_int) (s_cons (s_set 4 hN (i_mod (i_toint b_int (ia_cons (i_ix (i_var 0) i_int) ia_nil)) (i_var 1)))
    (s_cons (s_ixS 0 (i_div (i_toint b_int (ia_cons (i_ix (i_var 0) i_int) ia_nil)) (i_var 1)) i_int)
    (s_one (s_ret (i_var 4))))) s_nil)
  (s_cons (s_set 5 hN (i_mod (i_toint b_int (ia_cons (i_mul (i_add (i_ix (i_var 0) i_int) i_int) i_int) ia_nil)) i_int))
  (s_cons (s_set 6 hN (i_mod (i_toint b_int (ia_cons (i_mul (i_mod (i_toint b_int (ia_cons (i_mul (i_var 5) (i_var 5)) ia_nil)) i_int) i_int) ia_nil)) i_int))
  (s_one (s_ret (i_mod (i_toint b_int (ia_cons (i_div (i_var 6) i_int) ia_nil)) (i_var 1))))))))
theorem sc_l_one : FnScope ["_law_bag_here", "_law_some"] ["_law_bag_here", "_law_some"] (defScope s_l_one) := ⟨rfl, rfl, rfl, by decide +kernel, rfl, by decide +kernel, by decide +kernel⟩
theorem d_l_one (D : Df K mg "_law_one" s_l_one) (b_len : mg "len" = none) (c_l_take : Cal P w K mg base "_law_take" 1 2 sp_l_take) : Cal P w K mg base "_law_one" 2 2 (bodyI 2 ib_l_one) := by
  refine calI (k := 1) (ps := ["_law_bag_here", "_law_some"]) (N := ["_law_bag_here", "_law_some"]) D sc_l_one (fun _ _ _ _ _ _ us hl => match us, hl with | [_, _], _ => rfl) fun f cdv A outer s H E hr gu F Wx tk => ?_
  have hN := sc_l_one.nd
  have hu := hr.units
  exact (s_one (s_ret (i_ix (i_var 1) (i_cal c_l_take (hr.mono (by decide)) gu tk (ia_cons (i_var 0) (ia_cons (i_len b_len (ia_cons (i_var 1) ia_nil)) ia_nil))))))
theorem sc_l_number : FnScope ["_law_bag_here", "_law_most", "_law_number_here"] ["_law_bag_here", "_law_most"] (defScope s_l_number) := ⟨rfl, rfl, rfl, by decide +kernel, rfl, by decide +kernel, by decide +kernel⟩
theorem d_l_number (D : Df K mg "_law_number" s_l_number) (c_l_take : Cal P w K mg base "_law_take" 1 2 sp_l_take) : Cal P w K mg base "_law_number" 2 2 (bodyI 3 ib_l_number) := by
  refine calI (k := 1) (ps := ["_law_bag_here", "_law_most"]) (N := ["_law_bag_here", "_law_most", "_law_number_here"]) D sc_l_number (fun _ _ _ _ _ _ us hl => match us, hl with | [_, _], _ => rfl) fun f cdv A outer s H E hr gu F Wx tk => ?_
  have hN := sc_l_number.nd
  have hu := hr.units
  exact (s_cons (s_set 2 hN (i_add i_int (i_cal c_l_take (hr.mono (by decide)) gu tk (ia_cons (i_var 0) (ia_cons (i_ix (i_lst (ia_cons i_int (ia_cons i_int (ia_cons i_int (ia_cons (i_var 1) ia_nil))))) (i_cal c_l_take (hr.mono (by decide)) gu tk (ia_cons (i_var 0) (ia_cons i_int ia_nil)))) ia_nil)))))
  (s_one (s_ret (i_if (t_eq hu (i_cal c_l_take (hr.mono (by decide)) gu tk (ia_cons (i_var 0) (ia_cons i_int ia_nil))) i_int) (i_var 2) (i_neg (i_var 2))))))
theorem sc_l_mixed : FnScope ["_law_bag_here", "_law_things", "_law_found", "_law_thing"] ["_law_bag_here", "_law_things"] (defScope s_l_mixed) := ⟨rfl, rfl, rfl, by decide +kernel, rfl, by decide +kernel, by decide +kernel⟩
theorem d_l_mixed (D : Df K mg "_law_mixed" s_l_mixed) (b_len : mg "len" = none) (c_l_take : Cal P w K mg base "_law_take" 1 2 sp_l_take) : Cal P w K mg base "_law_mixed" 2 2 (bodyI 4 ib_l_mixed) := by
  refine calI (k := 1) (ps := ["_law_bag_here", "_law_things"]) (N := ["_law_bag_here", "_law_things", "_law_found", "_law_thing"]) D sc_l_mixed (fun _ _ _ _ _ _ us hl => match us, hl with | [_, _], _ => rfl) fun f cdv A outer s H E hr gu F Wx tk => ?_
  have hN := sc_l_mixed.nd
  have hu := hr.units
  exact (s_cons (s_setN 2 hN (n_lst ia_nil))
  (s_cons (s_for (passes_of rfl) (l_seq (i_var 1)) (g_name (vs := [3]) 3 hN) (s_one (s_expr (i_mtO 2 mg_insert mt_insert PySem.F.slot_list_insert PySem.F.type_list_insert (ia_cons (i_cal c_l_take (hr.mono (by decide)) gu tk (ia_cons (i_var 0) (ia_cons (i_add (i_lenO 2 b_len) i_int) ia_nil))) (ia_cons (i_var 3) ia_nil))))))
  (s_one (s_retO (i := 2)))))
theorem sc_l_two : FnScope ["_law_bag_here", "_law_files", "_law_some"] ["_law_bag_here", "_law_files"] (defScope s_l_two) := ⟨rfl, rfl, rfl, by decide +kernel, rfl, by decide +kernel, by decide +kernel⟩
theorem d_l_two (D : Df K mg "_law_two" s_l_two) (b_list : mg "list" = none) (b_range : mg "range" = none) (c_l_mixed : Cal P w K mg base "_law_mixed" 2 2 sp_l_mixed) : Cal P w K mg base "_law_two" 3 2 (bodyI 3 ib_l_two) := by
  refine calI (k := 2) (ps := ["_law_bag_here", "_law_files"]) (N := ["_law_bag_here", "_law_files", "_law_some"]) D sc_l_two (fun _ _ _ _ _ _ us hl => match us, hl with | [_, _], _ => rfl) fun f cdv A outer s H E hr gu F Wx tk => ?_
  have hN := sc_l_two.nd
  have hu := hr.units
  exact (s_cons (s_set 2 hN (i_cal c_l_mixed (hr.mono (by decide)) gu tk (ia_cons (i_var 0) (ia_cons (i_listRg b_list b_range (i_var 1)) ia_nil))))
  (s_one (s_ret (i_tup (ia_cons (i_ix (i_var 2) i_int) (ia_cons (i_ix (i_var 2) i_int) ia_nil))))))
theorem sc_l_call : FnScope ["_law_bag_here", "_law_files", "_law_kinds", "_law_most", "_law_kind"] ["_law_bag_here", "_law_files", "_law_kinds", "_law_most"] (defScope s_l_call) := ⟨rfl, rfl, rfl, by decide +kernel, rfl, by decide +kernel, by decide +kernel⟩
theorem d_l_call (D : Df K mg "_law_call" s_l_call) (c_l_one : Cal P w K mg base "_law_one" 2 2 sp_l_one) (c_l_number : Cal P w K mg base "_law_number" 2 2 sp_l_number) (c_l_take : Cal P w K mg base "_law_take" 1 2 sp_l_take) (c_l_two : Cal P w K mg base "_law_two" 3 2 sp_l_two) : Cal P w K mg base "_law_call" 4 4 (bodyI 5 ib_l_call) := by
  refine calI (k := 3) (ps := ["_law_bag_here", "_law_files", "_law_kinds", "_law_most"]) (N := ["_law_bag_here", "_law_files", "_law_kinds", "_law_most", "_law_kind"]) D sc_l_call (fun _ _ _ _ _ _ us hl => match us, hl with | [_, _, _, _], _ => rfl) fun f cdv A outer s H E hr gu F Wx tk => ?_
  have hN := sc_l_call.nd
  have hu := hr.units
  exact (s_cons (s_set 4 hN (i_cal c_l_one (hr.mono (by decide)) gu tk (ia_cons (i_var 0) (ia_cons (i_var 2) ia_nil))))
  (s_cons (s_if (t_eq hu (i_var 4) i_str) (s_one (s_ret (i_tup (ia_cons i_str (ia_cons (i_cal c_l_number (hr.mono (by decide)) gu tk (ia_cons (i_var 0) (ia_cons (i_var 3) ia_nil))) ia_nil))))) s_nil)
  (s_cons (s_if (t_eq hu (i_var 4) i_str) (s_one (s_ret (i_tup (ia_cons i_str (ia_cons (i_cal c_l_take (hr.mono (by decide)) gu tk (ia_cons (i_var 0) (ia_cons (i_var 1) ia_nil))) (ia_cons (i_cal c_l_number (hr.mono (by decide)) gu tk (ia_cons (i_var 0) (ia_cons (i_var 3) ia_nil))) ia_nil)))))) s_nil)
  (s_cons (s_if (t_in (i_var 4) (i_tup (ia_cons i_str (ia_cons i_str ia_nil)))) (s_one (s_ret (i_add (i_tup (ia_cons (i_var 4) ia_nil)) (i_cal c_l_two (hr.mono (by decide)) gu tk (ia_cons (i_var 0) (ia_cons (i_var 1) ia_nil)))))) s_nil)
  (s_cons (s_if (t_eq hu (i_var 4) i_str) (s_one (s_ret (i_add (i_add (i_tup (ia_cons i_str ia_nil)) (i_cal c_l_two (hr.mono (by decide)) gu tk (ia_cons (i_var 0) (ia_cons (i_var 1) ia_nil)))) (i_tup (ia_cons (i_cal c_l_number (hr.mono (by decide)) gu tk (ia_cons (i_var 0) (ia_cons (i_var 3) ia_nil))) ia_nil))))) s_nil)
  (s_one (s_ret (i_tup (ia_cons (i_var 4) ia_nil)))))))))
theorem sc_l_calls : FnScope ["_law_bag_here", "_law_files", "_law_kinds", "_law_many", "_law_found", "_law_left", "_law_k", "_law_call_here", "_law_size"] ["_law_bag_here", "_law_files", "_law_kinds", "_law_many"] (defScope s_l_calls) := ⟨rfl, rfl, rfl, by decide +kernel, rfl, by decide +kernel, by decide +kernel⟩
theorem d_l_calls (D : Df K mg "_law_calls" s_l_calls) (b_range : mg "range" = none) (b_abs : mg "abs" = none) (c_l_call : Cal P w K mg base "_law_call" 4 4 sp_l_call) : Cal P w K mg base "_law_calls" 5 4 (bodyI 9 ib_l_calls) := by
  refine calI (k := 4) (ps := ["_law_bag_here", "_law_files", "_law_kinds", "_law_many"]) (N := ["_law_bag_here", "_law_files", "_law_kinds", "_law_many", "_law_found", "_law_left", "_law_k", "_law_call_here", "_law_size"]) D sc_l_calls (fun _ _ _ _ _ _ us hl => match us, hl with | [_, _, _, _], _ => rfl) fun f cdv A outer s H E hr gu F Wx tk => ?_
  have hN := sc_l_calls.nd
  have hu := hr.units
  exact (s_cons (s_parNE 4 5 hN (n_lst ia_nil) (fun F => i_int))
  (s_cons (s_for (passes_of rfl) (l_range1 b_range (i_var 3)) (g_name (vs := [6]) 6 hN) (s_cons (s_set 7 hN (i_cal c_l_call (hr.mono (by decide)) gu tk (ia_cons (i_var 0) (ia_cons (i_var 1) (ia_cons (i_var 2) (ia_cons i_int ia_nil))))))
    (s_cons (s_set 8 hN (i_if (t_in (i_ix (i_var 7) i_int) (i_tup (ia_cons i_str (ia_cons i_str (ia_cons i_str ia_nil))))) (i_abs b_abs (ia_cons (i_ix (i_var 7) (i_neg i_int)) ia_nil)) i_int))
    (s_one (s_if (t_le (i_var 8) (i_var 5)) (s_cons (s_expr (i_mtO 4 mg_append mt_append PySem.F.slot_list_append PySem.F.type_list_append (ia_cons (i_var 7) ia_nil)))
      (s_one (s_augI 5 ip_sub hN (i_var 8)))) s_nil)))))
  (s_one (s_retO (i := 4)))))
theorem sc_l_straight_kinds : FnScope [] [] (defScope s_l_straight_kinds) := ⟨rfl, rfl, rfl, by decide +kernel, rfl, by decide +kernel, by decide +kernel⟩
theorem d_l_straight_kinds (D : Df K mg "_law_straight_kinds" s_l_straight_kinds) : Cal P w K mg base "_law_straight_kinds" 1 0 (bodyI 0 ib_l_straight_kinds) := by
  refine calI (k := 0) (ps := []) (N := []) D sc_l_straight_kinds (fun _ _ _ _ _ _ us hl => match us, hl with | [], _ => rfl) fun f cdv A outer s H E hr gu F Wx tk => ?_
  have hN := sc_l_straight_kinds.nd
  have hu := hr.units
  exact (s_one (s_ret (i_lst (ia_cons i_str (ia_cons i_str (ia_cons i_str (ia_cons i_str (ia_cons i_str (ia_cons i_str (ia_cons i_str (ia_cons i_str (ia_cons i_str ia_nil))))))))))))
theorem sc_p_is_integer : FnScope ["thing"] ["thing"] (defScope s_p_is_integer) := ⟨rfl, rfl, rfl, by decide +kernel, rfl, by decide +kernel, by decide +kernel⟩
theorem d_p_is_integer (D : Df K mg "is_integer" s_p_is_integer) (b_isinstance : mg "isinstance" = none) (b_int : mg "int" = none) (b_bool : mg "bool" = none) : Cal P w K mg base "is_integer" 1 1 (bodyI 1 ib_p_is_integer) := by
  refine calI (k := 0) (ps := ["thing"]) (N := ["thing"]) D sc_p_is_integer (fun _ _ _ _ _ _ us hl => match us, hl with | [_], _ => rfl) fun f cdv A outer s H E hr gu F Wx tk => ?_
  have hN := sc_p_is_integer.nd
  have hu := hr.units
  exact (s_one (s_ret (i_and (i_isi b_isinstance (ia_cons (i_var 0) (ia_cons (i_tyv b_int boot_int') ia_nil))) (i_one (i_not (i_isi b_isinstance (ia_cons (i_var 0) (ia_cons (i_tyv b_bool boot_bool') ia_nil))))))))
theorem sc_p_is_files : FnScope ["thing"] ["thing"] (defScope s_p_is_files) := ⟨rfl, rfl, rfl, by decide +kernel, rfl, by decide +kernel, by decide +kernel⟩
theorem d_p_is_files (D : Df K mg "is_files" s_p_is_files) (c_p_is_integer : Cal P w K mg base "is_integer" 1 1 sp_p_is_integer) : Cal P w K mg base "is_files" 2 1 (bodyI 1 ib_p_is_files) := by
  refine calI (k := 1) (ps := ["thing"]) (N := ["thing"]) D sc_p_is_files (fun _ _ _ _ _ _ us hl => match us, hl with | [_], _ => rfl) fun f cdv A outer s H E hr gu F Wx tk => ?_
  have hN := sc_p_is_files.nd
  have hu := hr.units
  exact (s_one (s_ret (i_and (i_cal c_p_is_integer (hr.mono (by decide)) gu tk (ia_cons (i_var 0) ia_nil)) (i_one (i_in (i_var 0) (i_tup (ia_cons i_int (ia_cons i_int ia_nil))))))))
theorem sc_p_is_index : FnScope ["thing", "many"] ["thing", "many"] (defScope s_p_is_index) := ⟨rfl, rfl, rfl, by decide +kernel, rfl, by decide +kernel, by decide +kernel⟩
theorem d_p_is_index (D : Df K mg "is_index" s_p_is_index) (c_p_is_integer : Cal P w K mg base "is_integer" 1 1 sp_p_is_integer) : Cal P w K mg base "is_index" 2 2 (bodyI 2 ib_p_is_index) := by
  refine calI (k := 1) (ps := ["thing", "many"]) (N := ["thing", "many"]) D sc_p_is_index (fun _ _ _ _ _ _ us hl => match us, hl with | [_, _], _ => rfl) fun f cdv A outer s H E hr gu F Wx tk => ?_
  have hN := sc_p_is_index.nd
  have hu := hr.units
  exact (s_one (s_ret (i_and (i_cal c_p_is_integer (hr.mono (by decide)) gu tk (ia_cons (i_var 0) ia_nil)) (i_one (i_chain op_le op_lt og_le og_lt i_int (i_var 0) (i_var 1))))))
theorem sc_p_is_call : FnScope ["files", "thing", "many", "numbers", "file"] ["files", "thing"] (defScope s_p_is_call) := ⟨rfl, rfl, rfl, by decide +kernel, rfl, by decide +kernel, by decide +kernel⟩
theorem d_p_is_call (D : Df K mg "is_call" s_p_is_call) (b_isinstance : mg "isinstance" = none) (b_tuple : mg "tuple" = none) (b_len : mg "len" = none) (b_str : mg "str" = none) (b_int : mg "int" = none) (b_all : mg "all" = none) (k_BY_FILES : Kd K w mg "BY_FILES" kT_BY_FILES) (k_BY_NUMBER : Kc K mg "BY_NUMBER" kC_BY_NUMBER) (c_p_is_index : Cal P w K mg base "is_index" 2 2 sp_p_is_index) (c_p_is_integer : Cal P w K mg base "is_integer" 1 1 sp_p_is_integer) : Cal P w K mg base "is_call" 3 2 (bodyI 5 ib_p_is_call) := by
  refine calI (k := 2) (ps := ["files", "thing"]) (N := ["files", "thing", "many", "numbers", "file"]) D sc_p_is_call (fun _ _ _ _ _ _ us hl => match us, hl with | [_, _], _ => rfl) fun f cdv A outer s H E hr gu F Wx tk => ?_
  have hN := sc_p_is_call.nd
  have hu := hr.units
  exact (s_cons (s_if (pt_w (w_or (t_not (t_tru (i_isi b_isinstance (ia_cons (i_var 1) (ia_cons (i_tyv b_tuple boot_tuple') ia_nil))))) (w_or (t_eq hu (i_len b_len (ia_cons (i_var 1) ia_nil)) i_int) (w_or (t_not (t_tru (i_isi b_isinstance (ia_cons (i_ix (i_var 1) i_int) (ia_cons (i_tyv b_str boot_str') ia_nil))))) (w_or1 (t_kdnotin k_BY_FILES (i_ix (i_var 1) i_int))))))) (s_one (s_ret i_bl)) s_nil)
  (s_cons (s_par 2 3 hN (i_kdix k_BY_FILES (i_ix (i_var 1) i_int)) (i_toint b_int (ia_cons (i_in (i_ix (i_var 1) i_int) (i_k k_BY_NUMBER)) ia_nil)))
  (s_cons (s_if (pt_w (w_or (t_ne hu (i_len b_len (ia_cons (i_var 1) ia_nil)) (i_add (i_add i_int (i_var 2)) (i_var 3))) (w_or1 (t_not (t_tru (i_all b_all (ia_cons (i_fz (n_lc [("file", 4)] hN (l_seq (i_sl (i_var 1) (o_some i_int) (o_some (i_add i_int (i_var 2))))) (blkOk_by rfl) (fun s H C cl fp F => (g_name (vs := [4]) 4 hN)) (fun s H C cl fp => ti_nil) (fun s H C cl fp F => (i_cal c_p_is_index (hr.mono (by decide)) gu takes0 (ia_cons (i_var 4) (ia_cons (i_var 0) ia_nil)))))) ia_nil))))))) (s_one (s_ret i_bl)) s_nil)
  (s_cons (s_if (pt_w (w_and (t_eq hu (i_var 2) i_int) (w_and1 (t_eq hu (i_ix (i_var 1) i_int) (i_ix (i_var 1) i_int))))) (s_one (s_ret i_bl)) s_nil)
  (s_one (s_ret (i_or (i_eq hu (i_var 3) i_int) (i_one (i_and (i_cal c_p_is_integer (hr.mono (by decide)) gu tk (ia_cons (i_ix (i_var 1) (i_neg i_int)) ia_nil)) (i_one (i_ne hu (i_ix (i_var 1) (i_neg i_int)) i_int)))))))))))
theorem sc_k_Script : FnScope ["self", "files", "calls", "call"] ["self", "files", "calls"] (defScope s_k_Script) := ⟨rfl, rfl, rfl, by decide +kernel, rfl, by decide +kernel, by decide +kernel⟩
theorem d_k_Script (D : DfM K "Script" "__init__" "Script.__init__" s_k_Script) (mk : Mk K (He.ga K "Script") (He.ma K (He.ga K "Script") "__init__")) (glo : mg "Script" = some (.ref (He.ga K "Script"))) (b_isinstance : mg "isinstance" = none) (b_list : mg "list" = none) (b_tuple : mg "tuple" = none) (b_all : mg "all" = none) (a_width : Atr K ["Script"] "width") (a_steps : Atr K ["Script"] "steps") (kf_ : KitF K []) (c_p_is_files : Cal P w K mg base "is_files" 2 1 sp_p_is_files) (c_p_is_call : Cal P w K mg base "is_call" 3 2 sp_p_is_call) : CalK P w K mg base "Script" 4 2 (bodyI 4 ib_k_Script) := by
  refine calKI (k := 3) (ps := ["self", "files", "calls"]) (N := ["self", "files", "calls", "call"]) D mk glo sc_k_Script rfl (fun _ _ _ _ _ _ us hl => match us, hl with | [_, _, _], _ => rfl) fun f cdv A outer s H E hr gu F Wx tk => ?_
  have hN := sc_k_Script.nd
  have hu := hr.units
  exact (s_cons (s_if (t_not (t_tru (i_cal c_p_is_files (hr.mono (by decide)) gu tk (ia_cons (i_var 1) ia_nil)))) (s_one s_never) s_nil)
  (s_cons (s_if (pt_w (w_or (t_not (t_tru (i_isiX kf_ b_isinstance (ia_cons (i_var 2) (ia_cons (i_tup (ia_cons (i_tyv b_tuple boot_tuple') (ia_cons (i_tyv b_list boot_list') ia_nil))) ia_nil))))) (w_or1 (t_not (t_tru (i_all b_all (ia_cons (i_fz (n_lc [("call", 3)] hN (l_seq (i_var 2)) (blkOk_by rfl) (fun s H C cl fp F => (g_name (vs := [3]) 3 hN)) (fun s H C cl fp => ti_nil) (fun s H C cl fp F => (i_cal c_p_is_call (hr.mono (by decide)) gu takes0 (ia_cons (i_var 1) (ia_cons (i_var 3) ia_nil)))))) ia_nil))))))) (s_one s_never) s_nil)
  (s_cons (s_att a_width (i_var 0) (i_var 1))
  (s_one (s_att a_steps (i_var 0) (i_tuple b_tuple (ia_cons (i_var 2) ia_nil)))))))
theorem sc_l_brought_open : FnScope ["_law_call_here", "_law_files", "_law_rows", "_law_place", "_law_row", "_law_file", "_law_half"] ["_law_call_here", "_law_files", "_law_rows", "_law_place"] (defScope s_l_brought_open) := ⟨rfl, rfl, rfl, by decide +kernel, rfl, by decide +kernel, by decide +kernel⟩
theorem d_l_brought_open (D : Df K mg "_law_brought_open" s_l_brought_open) (b_int : mg "int" = none) : Cal P w K mg base "_law_brought_open" 1 4 (bodyI 7 ib_l_brought_open) := by
  refine calI (k := 0) (ps := ["_law_call_here", "_law_files", "_law_rows", "_law_place"]) (N := ["_law_call_here", "_law_files", "_law_rows", "_law_place", "_law_row", "_law_file", "_law_half"]) D sc_l_brought_open (fun _ _ _ _ _ _ us hl => match us, hl with | [_, _, _, _], _ => rfl) fun f cdv A outer s H E hr gu F Wx tk => ?_
  have hN := sc_l_brought_open.nd
  have hu := hr.units
  exact (s_cons (s_asg (i_var 3) (g_tup (gs_cons (g_name (vs := [4, 5]) 4 hN) (gs_cons (g_name (vs := [4, 5]) 5 hN) gs_nil))))
  (s_cons (s_if (t_eq hu (i_ix (i_var 0) i_int) i_str) (s_one (s_ret (i_tup (ia_cons (i_mod (i_toint b_int (ia_cons (i_add (i_mul (i_var 4) (i_var 1)) (i_var 5)) ia_nil)) (i_var 2)) (ia_cons (i_div (i_toint b_int (ia_cons (i_add (i_mul (i_var 4) (i_var 1)) (i_var 5)) ia_nil)) (i_var 2)) ia_nil))))) s_nil)
  (s_cons (s_if (t_eq hu (i_ix (i_var 0) i_int) i_str) (s_one (s_ret (i_tup (ia_cons (i_div (i_toint b_int (ia_cons (i_add (i_mul (i_var 5) (i_var 2)) (i_var 4)) ia_nil)) (i_var 1)) (ia_cons (i_mod (i_toint b_int (ia_cons (i_add (i_mul (i_var 5) (i_var 2)) (i_var 4)) ia_nil)) (i_var 1)) ia_nil))))) s_nil)
  (s_cons (s_set 6 hN (i_div (i_toint b_int (ia_cons (i_add (i_var 2) i_int) ia_nil)) i_int))
  (s_cons (s_if (t_eq hu (i_ix (i_var 0) i_int) i_str) (s_one (s_ret (i_tup (ia_cons (i_add (i_div (i_toint b_int (ia_cons (i_var 4) ia_nil)) i_int) (i_mul (i_var 6) (i_mod (i_toint b_int (ia_cons (i_var 4) ia_nil)) i_int))) (ia_cons (i_var 5) ia_nil))))) s_nil)
  (s_cons (s_if (t_eq hu (i_ix (i_var 0) i_int) i_str) (s_one (s_ret (i_tup (ia_cons (i_if (t_lt (i_var 4) (i_var 6)) (i_mul i_int (i_var 4)) (i_add (i_mul i_int (i_sub (i_var 4) (i_var 6))) i_int)) (ia_cons (i_var 5) ia_nil))))) s_nil)
  (s_one (s_ret (i_var 3)))))))))
theorem sc_l_brought : FnScope ["_law_call_here", "_law_files", "_law_rows", "_law_place", "_law_row", "_law_file", "_law_seat"] ["_law_call_here", "_law_files", "_law_rows", "_law_place"] (defScope s_l_brought) := ⟨rfl, rfl, rfl, by decide +kernel, rfl, by decide +kernel, by decide +kernel⟩
theorem d_l_brought (D : Df K mg "_law_brought" s_l_brought) (b_int : mg "int" = none) (c_l_brought_open : Cal P w K mg base "_law_brought_open" 1 4 sp_l_brought_open) : Cal P w K mg base "_law_brought" 2 4 (bodyI 7 ib_l_brought) := by
  refine calI (k := 1) (ps := ["_law_call_here", "_law_files", "_law_rows", "_law_place"]) (N := ["_law_call_here", "_law_files", "_law_rows", "_law_place", "_law_row", "_law_file", "_law_seat"]) D sc_l_brought (fun _ _ _ _ _ _ us hl => match us, hl with | [_, _, _, _], _ => rfl) fun f cdv A outer s H E hr gu F Wx tk => ?_
  have hN := sc_l_brought.nd
  have hu := hr.units
  exact (s_cons (s_asg (i_var 3) (g_tup (gs_cons (g_name (vs := [4, 5]) 4 hN) (gs_cons (g_name (vs := [4, 5]) 5 hN) gs_nil))))
  (s_cons (s_if (pt_w (w_or (t_eq hu (i_ix (i_var 0) i_int) i_str) (w_or1 (pt_w (w_and (t_eq hu (i_ix (i_var 0) i_int) i_str) (w_and1 (t_eq hu (i_ix (i_var 0) i_int) (i_var 5)))))))) (s_one (s_ret (i_tup (ia_cons (i_mod (i_toint b_int (ia_cons (i_sub (i_var 4) (i_ix (i_var 0) (i_neg i_int))) ia_nil)) (i_var 2)) (ia_cons (i_var 5) ia_nil))))) s_nil)
  (s_cons (s_if (pt_w (w_or (pt_w (w_and (t_eq hu (i_ix (i_var 0) i_int) i_str) (w_and1 (t_in (i_var 5) (i_sl (i_var 0) (o_some i_int) o_none))))) (w_or1 (pt_w (w_and (t_eq hu (i_ix (i_var 0) i_int) i_str) (w_and (t_in (i_var 5) (i_sl (i_var 0) (o_some i_int) o_none)) (w_and1 (t_eq hu (i_var 4) i_int)))))))) (s_one (s_ret (i_tup (ia_cons (i_var 4) (ia_cons (i_sub (i_add (i_ix (i_var 0) i_int) (i_ix (i_var 0) i_int)) (i_var 5)) ia_nil))))) s_nil)
  (s_cons (s_if (pt_w (w_and (t_eq hu (i_ix (i_var 0) i_int) i_str) (w_and1 (t_in (i_var 5) (i_sl (i_var 0) (o_some i_int) (o_some i_int)))))) (s_cons (s_set 6 hN (i_ix (i_lst (ia_cons (i_sub (i_sub (i_var 2) i_int) (i_var 4)) (ia_cons (i_add (i_var 2) (i_var 4)) ia_nil))) (i_idxT (i_var 0) (o_some i_int) (o_some i_int) (ia_cons (i_var 5) ia_nil))))
    (s_cons (s_set 6 hN (i_mod (i_toint b_int (ia_cons (i_add (i_var 6) (i_ix (i_var 0) i_int)) ia_nil)) (i_mul i_int (i_var 2))))
    (s_one (s_ret (i_if (t_lt (i_var 6) (i_var 2)) (i_tup (ia_cons (i_sub (i_sub (i_var 2) i_int) (i_var 6)) (ia_cons (i_ix (i_var 0) i_int) ia_nil))) (i_tup (ia_cons (i_sub (i_var 6) (i_var 2)) (ia_cons (i_ix (i_var 0) i_int) ia_nil)))))))) s_nil)
  (s_cons (s_if (t_eq hu (i_ix (i_var 0) i_int) i_str) (s_one (s_ret (i_tup (ia_cons (i_sub (i_sub (i_var 2) i_int) (i_var 4)) (ia_cons (i_sub (i_sub (i_var 1) i_int) (i_var 5)) ia_nil))))) s_nil)
  (s_one (s_ret (i_cal c_l_brought_open (hr.mono (by decide)) gu tk (ia_cons (i_var 0) (ia_cons (i_var 1) (ia_cons (i_var 2) (ia_cons (i_var 3) ia_nil))))))))))))
theorem sc_l_led : FnScope ["_law_calls_here", "_law_files", "_law_rows", "_law_place", "_law_call_here"] ["_law_calls_here", "_law_files", "_law_rows", "_law_place"] (defScope s_l_led) := ⟨rfl, rfl, rfl, by decide +kernel, rfl, by decide +kernel, by decide +kernel⟩
theorem d_l_led (D : Df K mg "_law_led" s_l_led) (c_l_brought : Cal P w K mg base "_law_brought" 2 4 sp_l_brought) : Cal P w K mg base "_law_led" 3 4 (bodyI 5 ib_l_led) := by
  refine calI (k := 2) (ps := ["_law_calls_here", "_law_files", "_law_rows", "_law_place"]) (N := ["_law_calls_here", "_law_files", "_law_rows", "_law_place", "_law_call_here"]) D sc_l_led (fun _ _ _ _ _ _ us hl => match us, hl with | [_, _, _, _], _ => rfl) fun f cdv A outer s H E hr gu F Wx tk => ?_
  have hN := sc_l_led.nd
  have hu := hr.units
  exact (s_cons (s_for (passes_of rfl) (l_seq (i_var 0)) (g_name (vs := [4]) 4 hN) (s_one (s_set 3 hN (i_cal c_l_brought (hr.mono (by decide)) gu tk (ia_cons (i_var 4) (ia_cons (i_var 1) (ia_cons (i_var 2) (ia_cons (i_var 3) ia_nil))))))))
  (s_one (s_ret (i_var 3))))
theorem sc_l_stretches : FnScope ["_law_calls_here", "_law_files", "_law_rows", "_law_found", "_law_file", "_law_goals", "_law_first", "_law_last", "_law_rise", "_law_to", "_law_row"] ["_law_calls_here", "_law_files", "_law_rows"] (defScope s_l_stretches) := ⟨rfl, rfl, rfl, by decide +kernel, rfl, by decide +kernel, by decide +kernel⟩
theorem d_l_stretches (D : Df K mg "_law_stretches" s_l_stretches) (b_range : mg "range" = none) (b_abs : mg "abs" = none) (c_l_led : Cal P w K mg base "_law_led" 3 4 sp_l_led) : Cal P w K mg base "_law_stretches" 4 3 (bodyI 11 ib_l_stretches) := by
  refine calI (k := 3) (ps := ["_law_calls_here", "_law_files", "_law_rows"]) (N := ["_law_calls_here", "_law_files", "_law_rows", "_law_found", "_law_file", "_law_goals", "_law_first", "_law_last", "_law_rise", "_law_to", "_law_row"]) D sc_l_stretches (fun _ _ _ _ _ _ us hl => match us, hl with | [_, _, _], _ => rfl) fun f cdv A outer s H E hr gu F Wx tk => ?_
  have hN := sc_l_stretches.nd
  have hu := hr.units
  exact (s_cons (s_setN 3 hN (n_lst ia_nil))
  (s_cons (s_for (passes_of rfl) (l_range1 b_range (i_var 1)) (g_name (vs := [4]) 4 hN) (s_cons (s_setLc 5 [("_law_row", 10)] hN (l_range1 b_range (i_var 2)) (blkOk_by rfl) (fun s H C cl fp F => (g_name (vs := [10]) 10 hN)) (fun s H C cl fp => ti_nil) (fun s H C cl fp F => (i_cal c_l_led (hr.mono (by decide)) gu takes0 (ia_cons (i_var 0) (ia_cons (i_var 1) (ia_cons (i_var 2) (ia_cons (i_tup (ia_cons (i_var 10) (ia_cons (i_var 4) ia_nil))) ia_nil)))))) (sw_true rfl rfl rfl (by decide +kernel)))
    (s_cons (s_set 6 hN i_int)
    (s_one (s_while (passes_of rfl) (t_lt (i_var 6) (i_var 2)) (s_cons (s_par3 7 8 9 hN (i_var 6) i_int (i_ix (i_ix (i_var 5) (i_var 6)) i_int))
      (s_cons (s_if (pt_w (w_and (t_lt (i_add (i_var 6) i_int) (i_var 2)) (w_and (t_eq hu (i_ix (i_ix (i_var 5) (i_add (i_var 6) i_int)) i_int) (i_var 9)) (w_and1 (t_eq hu (i_abs b_abs (ia_cons (i_sub (i_ix (i_ix (i_var 5) (i_add (i_var 6) i_int)) i_int) (i_ix (i_ix (i_var 5) (i_var 6)) i_int)) ia_nil)) i_int))))) (s_cons (s_set 8 hN (i_sub (i_ix (i_ix (i_var 5) (i_add (i_var 6) i_int)) i_int) (i_ix (i_ix (i_var 5) (i_var 6)) i_int)))
        (s_one (s_while (passes_of rfl) (pt_w (w_and (t_lt (i_add (i_var 7) i_int) (i_var 2)) (w_and1 (t_eq hu (i_ix (i_var 5) (i_add (i_var 7) i_int)) (i_tup (ia_cons (i_add (i_ix (i_ix (i_var 5) (i_var 7)) i_int) (i_var 8)) (ia_cons (i_var 9) ia_nil))))))) (s_one (s_augI 7 ip_add hN i_int))))) s_nil)
      (s_cons (s_expr (i_mtO 3 mg_append mt_append PySem.F.slot_list_append PySem.F.type_list_append (ia_cons (i_tup (ia_cons (i_var 4) (ia_cons (i_var 6) (ia_cons (i_var 7) (ia_cons (i_var 9) (ia_cons (i_var 8) (ia_cons (i_sub (i_ix (i_ix (i_var 5) (i_var 6)) i_int) (i_mul (i_var 8) (i_var 6))) ia_nil))))))) ia_nil)))
      (s_one (s_set 6 hN (i_add (i_var 7) i_int)))))))))))
  (s_one (s_retO (i := 3)))))
theorem sc_l_bent : FnScope ["_law_bag_here", "_law_told", "_law_found", "_law_at", "_law_way", "_law_one_here", "_law_spot", "_law_first"] ["_law_bag_here", "_law_told"] (defScope s_l_bent) := ⟨rfl, rfl, rfl, by decide +kernel, rfl, by decide +kernel, by decide +kernel⟩
theorem d_l_bent (D : Df K mg "_law_bent" s_l_bent) (b_list : mg "list" = none) (b_len : mg "len" = none) (b_tuple : mg "tuple" = none) (c_l_take : Cal P w K mg base "_law_take" 1 2 sp_l_take) (c_l_one : Cal P w K mg base "_law_one" 2 2 sp_l_one) : Cal P w K mg base "_law_bent" 3 2 (bodyI 8 ib_l_bent) := by
  refine calI (k := 2) (ps := ["_law_bag_here", "_law_told"]) (N := ["_law_bag_here", "_law_told", "_law_found", "_law_at", "_law_way", "_law_one_here", "_law_spot", "_law_first"]) D sc_l_bent (fun _ _ _ _ _ _ us hl => match us, hl with | [_, _], _ => rfl) fun f cdv A outer s H E hr gu F Wx tk => ?_
  have hN := sc_l_bent.nd
  have hu := hr.units
  exact (s_cons (s_parM3 2 3 4 hN (pm_n (n_list b_list (ia_cons (i_var 1) ia_nil)) (fun _ => (pm_e (i_cal c_l_take (hr.mono (by decide)) gu tk (ia_cons (i_var 0) (ia_cons (i_len b_len (ia_cons (i_var 1) ia_nil)) ia_nil))) (pm_e (i_cal c_l_take (hr.mono (by decide)) gu tk (ia_cons (i_var 0) (ia_cons i_int ia_nil))) pm_nil)))))
  (s_cons (s_set 5 hN (i_ixO (i := 2) (i_var 3)))
  (s_cons (s_if (t_eq hu (i_var 4) i_int) (s_one (s_ret (i_add (i_sl (i_var 2) o_none (o_some (i_var 3))) (i_sl (i_var 2) (o_some (i_add (i_var 3) i_int)) o_none)))) s_nil)
  (s_cons (s_if (t_eq hu (i_var 4) i_int) (s_cons (s_set 6 hN (i_cal c_l_take (hr.mono (by decide)) gu tk (ia_cons (i_var 0) (ia_cons i_int ia_nil))))
    (s_one (s_ixO 2 (i_add (i_add (i_sl (i_var 5) o_none (o_some (i_var 6))) (i_tup (ia_cons (i_cal c_l_one (hr.mono (by decide)) gu tk (ia_cons (i_var 0) (ia_cons (i_lst (ia_cons (i_add (i_ix (i_var 5) (i_var 6)) i_int) (ia_cons (i_sub (i_ix (i_var 5) (i_var 6)) i_int) (ia_cons i_bl (ia_cons i_non (ia_cons i_str ia_nil)))))) ia_nil))) ia_nil))) (i_sl (i_var 5) (o_some (i_add (i_var 6) i_int)) o_none)) (i_var 3)))) s_nil)
  (s_cons (s_if (pt_w (w_and (t_eq hu (i_var 4) i_int) (w_and1 (t_lt (i_ix (i_var 5) i_int) (i_ix (i_var 5) i_int))))) (s_cons (s_set 7 hN (i_add (i_add (i_sl (i_var 5) o_none (o_some i_int)) (i_tup (ia_cons (i_ix (i_var 5) i_int) ia_nil))) (i_sl (i_var 5) (o_some i_int) o_none)))
    (s_one (s_ret (i_add (i_add (i_sl (i_var 2) o_none (o_some (i_var 3))) (i_lst (ia_cons (i_var 7) (ia_cons (i_add (i_add (i_sl (i_var 5) o_none (o_some i_int)) (i_tup (ia_cons (i_add (i_ix (i_var 5) i_int) i_int) ia_nil))) (i_sl (i_var 5) (o_some i_int) o_none)) ia_nil)))) (i_sl (i_var 2) (o_some (i_add (i_var 3) i_int)) o_none))))) s_nil)
  (s_cons (s_if (t_eq hu (i_var 4) i_int) (s_one (s_ret (i_revL (i_var 2)))) s_nil)
  (s_cons (s_if (t_eq hu (i_var 4) i_int) (s_one (s_ixO 2 (i_list b_list (ia_cons (i_var 5) ia_nil)) (i_var 3))) s_nil)
  (s_cons (s_if (t_eq hu (i_var 4) i_int) (s_one (s_ret (i_tuple b_tuple (ia_cons (i_var 2) ia_nil)))) s_nil)
  (s_cons (s_if (t_eq hu (i_var 4) i_int) (s_one (s_ret (i_cal c_l_one (hr.mono (by decide)) gu tk (ia_cons (i_var 0) (ia_cons (i_lst (ia_cons i_non (ia_cons i_int (ia_cons (i_lst ia_nil) (ia_cons (i_tup ia_nil) (ia_cons (i_fz n_dnew) (ia_cons i_str (ia_cons (i_lst (ia_cons i_non ia_nil)) (ia_cons (i_lst (ia_cons (i_tup ia_nil) ia_nil)) (ia_cons (i_lst (ia_cons (i_var 2) ia_nil)) (ia_cons (i_lst (ia_cons (i_lst ia_nil) ia_nil)) (ia_cons i_bl ia_nil)))))))))))) ia_nil))))) s_nil)
  (s_cons (s_if (pt_w (w_and (t_eq hu (i_var 4) i_int) (w_and1 (t_eq hu (i_ix (i_var 5) i_int) (i_ix (i_var 5) i_int))))) (s_one (s_ixO 2 (i_add (i_sl (i_var 5) o_none (o_some i_int)) (i_tup (ia_cons (i_neg i_int) (ia_cons (i_add (i_mul i_int (i_ix (i_var 5) i_int)) (i_ix (i_var 5) i_int)) ia_nil)))) (i_var 3))) s_nil)
  (s_cons (s_if (t_eq hu (i_var 4) i_int) (s_one (s_expr (i_mtO 2 mg_insert mt_insert PySem.F.slot_list_insert PySem.F.type_list_insert (ia_cons (i_var 3) (ia_cons (i_var 5) ia_nil))))) s_nil)
  (s_one (s_retO (i := 2))))))))))))))
theorem sc_p_is_straight_calls : FnScope ["call"] ["call"] (defScope s_p_is_straight_calls) := ⟨rfl, rfl, rfl, by decide +kernel, rfl, by decide +kernel, by decide +kernel⟩
theorem d_p_is_straight_calls (D : DfA K mg "is_straight_calls" "is_straight" s_p_is_straight_calls) (k_OPEN_CALLS : Kd K w mg "OPEN_CALLS" kT_OPEN_CALLS) : Cal P w K mg base "is_straight_calls" 1 1 (bodyI 1 ib_p_is_straight_calls) := by
  refine calA (k := 0) (ps := ["call"]) (N := ["call"]) D sc_p_is_straight_calls (fun _ _ _ _ _ _ us hl => match us, hl with | [_], _ => rfl) fun f cdv A outer s H E hr gu F Wx tk => ?_
  have hN := sc_p_is_straight_calls.nd
  have hu := hr.units
  exact (s_one (s_ret (i_kdnotin k_OPEN_CALLS (i_ix (i_var 0) i_int))))
theorem sc_m_Script_is_straight : FnScope ["self", "call"] ["self"] (defScope s_m_Script_is_straight) := ⟨rfl, rfl, rfl, by decide +kernel, rfl, by decide +kernel, by decide +kernel⟩
theorem d_m_Script_is_straight (D : DfM K "Script" "is_straight" "Script.is_straight" s_m_Script_is_straight) (cls : Cls K (He.ga K "Script")) (mth : Meth K (He.ga K "Script") "is_straight" (He.ma K (He.ga K "Script") "is_straight")) (b_all : mg "all" = none) (a_steps : Atr K ["Script"] "steps") (c_p_is_straight_calls : Cal P w K mg base "is_straight_calls" 1 1 sp_p_is_straight_calls) : CalM P w K mg base "Script" "is_straight" 2 0 (bodyI 2 ib_m_Script_is_straight) := by
  refine calMI (k := 1) (ps := ["self"]) (N := ["self", "call"]) D cls mth sc_m_Script_is_straight rfl (fun _ _ _ _ _ _ us hl => match us, hl with | [_], _ => rfl) fun f cdv A outer s H E hr gu F Wx tk => ?_
  have hN := sc_m_Script_is_straight.nd
  have hu := hr.units
  exact (s_one (s_ret (i_all b_all (ia_cons (i_fz (n_lc [("call", 1)] hN (l_seq (i_fld a_steps (i_var 0))) (blkOk_by rfl) (fun s H C cl fp F => (g_name (vs := [1]) 1 hN)) (fun s H C cl fp => ti_nil) (fun s H C cl fp F => (i_cal c_p_is_straight_calls (hr.mono (by decide)) gu takes0 (ia_cons (i_var 1) ia_nil))))) ia_nil))))
theorem sc_p_check_straight : FnScope ["script"] ["script"] (defScope s_p_check_straight) := ⟨rfl, rfl, rfl, by decide +kernel, rfl, by decide +kernel, by decide +kernel⟩
theorem d_p_check_straight (D : Df K mg "check_straight" s_p_check_straight) (er0_Open : Err0 K mg "Open") (c_m_Script_is_straight : CalM P w K mg base "Script" "is_straight" 2 0 sp_m_Script_is_straight) : Cal P w K mg base "check_straight" 3 1 (bodyI 1 ib_p_check_straight) := by
  refine calI (k := 2) (ps := ["script"]) (N := ["script"]) D sc_p_check_straight (fun _ _ _ _ _ _ us hl => match us, hl with | [_], _ => rfl) fun f cdv A outer s H E hr gu F Wx tk => ?_
  have hN := sc_p_check_straight.nd
  have hu := hr.units
  exact (s_one (s_if (t_not (t_tru (i_meth0 (k' := 2) (Ms.cons c_m_Script_is_straight (by decide) Ms.nil) (hr.mono (by decide)) gu tk (i_var 0)))) (s_one (s_raise0 er0_Open tk)) s_nil))
theorem sc_m_Script_files : FnScope ["self"] ["self"] (defScope s_m_Script_files) := ⟨rfl, rfl, rfl, by decide +kernel, rfl, by decide +kernel, by decide +kernel⟩
theorem d_m_Script_files (D : DfP K "Script" "files" "Script.files" s_m_Script_files) (cls : Cls K (He.ga K "Script")) (a_width : Atr K ["Script"] "width") : CalP P w K mg base "Script" "files" 1 (bodyI 1 ib_m_Script_files) := by
  refine calPI (k := 0) (ps := ["self"]) (N := ["self"]) D cls sc_m_Script_files rfl (fun _ _ _ _ _ _ us hl => match us, hl with | [_], _ => rfl) fun f cdv A outer s H E hr gu F Wx tk => ?_
  have hN := sc_m_Script_files.nd
  have hu := hr.units
  exact (s_one (s_ret (i_fld a_width (i_var 0))))
theorem sc_i_Script : FnScope ["self"] ["self"] (defScope s_i_Script) := ⟨rfl, rfl, rfl, by decide +kernel, rfl, by decide +kernel, by decide +kernel⟩
theorem d_i_Script (D : DfM K "Script" "__iter__" "Script.__iter__" s_i_Script) (cls : Cls K (He.ga K "Script")) (mth : Meth K (He.ga K "Script") "__iter__" (He.ma K (He.ga K "Script") "__iter__")) (nf : NoAttr K (He.ga K "Script") "steps") (b_iter : mg "iter" = none) : CalI P w K mg base "Script" "steps" 1 :=
  calII (N := ["self"]) D cls mth nf sc_i_Script rfl b_iter rfl (fun _ _ _ _ _ _ us hl => match us, hl with | [_], _ => rfl) fun _ _ _ _ _ _ _ => by rfl
theorem sc_p_through : FnScope ["early", "late", "file", "first", "last", "to", "sign", "shift", "ends", "low", "high"] ["early", "late"] (defScope s_p_through) := ⟨rfl, rfl, rfl, by decide +kernel, rfl, by decide +kernel, by decide +kernel⟩
theorem d_p_through (D : Df K mg "through" s_p_through) (b_sorted : mg "sorted" = none) (b_max : mg "max" = none) (b_min : mg "min" = none) : Cal P w K mg base "through" 1 2 (bodyI 11 ib_p_through) := by
  refine calI (k := 0) (ps := ["early", "late"]) (N := ["early", "late", "file", "first", "last", "to", "sign", "shift", "ends", "low", "high"]) D sc_p_through (fun _ _ _ _ _ _ us hl => match us, hl with | [_, _], _ => rfl) fun f cdv A outer s H E hr gu F Wx tk => ?_
  have hN := sc_p_through.nd
  have hu := hr.units
  exact (s_cons (s_asg (i_var 0) (g_tup (gs_cons (g_name (vs := [2, 3, 4, 5, 6, 7]) 2 hN) (gs_cons (g_name (vs := [2, 3, 4, 5, 6, 7]) 3 hN) (gs_cons (g_name (vs := [2, 3, 4, 5, 6, 7]) 4 hN) (gs_cons (g_name (vs := [2, 3, 4, 5, 6, 7]) 5 hN) (gs_cons (g_name (vs := [2, 3, 4, 5, 6, 7]) 6 hN) (gs_cons (g_name (vs := [2, 3, 4, 5, 6, 7]) 7 hN) gs_nil))))))))
  (s_cons (s_set 8 hN (i_sorted b_sorted (ia_cons (i_lst (ia_cons (i_mul (i_var 6) (i_sub (i_ix (i_var 1) i_int) (i_var 7))) (ia_cons (i_mul (i_var 6) (i_sub (i_ix (i_var 1) i_int) (i_var 7))) ia_nil))) ia_nil)))
  (s_cons (s_par 9 10 hN (i_max2 b_max (ia_cons (i_var 3) (ia_cons (i_ix (i_var 8) i_int) ia_nil))) (i_min2 b_min (ia_cons (i_var 4) (ia_cons (i_ix (i_var 8) i_int) ia_nil))))
  (s_cons (s_if (pt_w (w_or (t_ne hu (i_var 5) (i_ix (i_var 1) i_int)) (w_or1 (t_gt (i_var 9) (i_var 10))))) (s_one (s_ret (i_lst ia_nil))) s_nil)
  (s_one (s_ret (i_lst (ia_cons (i_tup (ia_cons (i_var 2) (ia_cons (i_var 9) (ia_cons (i_var 10) (ia_cons (i_ix (i_var 1) i_int) (ia_cons (i_mul (i_var 6) (i_ix (i_var 1) i_int)) (ia_cons (i_add (i_mul (i_ix (i_var 1) i_int) (i_var 7)) (i_ix (i_var 1) i_int)) ia_nil))))))) ia_nil))))))))
theorem sc_p_image : FnScope ["stretch", "row"] ["stretch", "row"] (defScope s_p_image) := ⟨rfl, rfl, rfl, by decide +kernel, rfl, by decide +kernel, by decide +kernel⟩
theorem d_p_image (D : Df K mg "image" s_p_image) : Cal P w K mg base "image" 1 2 (bodyI 2 ib_p_image) := by
  refine calI (k := 0) (ps := ["stretch", "row"]) (N := ["stretch", "row"]) D sc_p_image (fun _ _ _ _ _ _ us hl => match us, hl with | [_, _], _ => rfl) fun f cdv A outer s H E hr gu F Wx tk => ?_
  have hN := sc_p_image.nd
  have hu := hr.units
  exact (s_one (s_ret (i_add (i_mul (i_ix (i_var 0) i_int) (i_var 1)) (i_ix (i_var 0) i_int))))
theorem sc_p_plain : FnScope ["stretch"] ["stretch"] (defScope s_p_plain) := ⟨rfl, rfl, rfl, by decide +kernel, rfl, by decide +kernel, by decide +kernel⟩
theorem d_p_plain (D : Df K mg "plain" s_p_plain) (c_p_image : Cal P w K mg base "image" 1 2 sp_p_image) : Cal P w K mg base "plain" 2 1 (bodyI 1 ib_p_plain) := by
  refine calI (k := 1) (ps := ["stretch"]) (N := ["stretch"]) D sc_p_plain (fun _ _ _ _ _ _ us hl => match us, hl with | [_], _ => rfl) fun f cdv A outer s H E hr gu F Wx tk => ?_
  have hN := sc_p_plain.nd
  have hu := hr.units
  exact (s_cons (s_if (t_lt (i_ix (i_var 0) i_int) (i_ix (i_var 0) i_int)) (s_one (s_ret (i_var 0))) s_nil)
  (s_one (s_ret (i_add (i_sl (i_var 0) o_none (o_some i_int)) (i_tup (ia_cons i_int (ia_cons (i_sub (i_cal c_p_image (hr.mono (by decide)) gu tk (ia_cons (i_var 0) (ia_cons (i_ix (i_var 0) i_int) ia_nil))) (i_ix (i_var 0) i_int)) ia_nil)))))))
theorem sc_p_merged : FnScope ["one", "other", "rise"] ["one", "other"] (defScope s_p_merged) := ⟨rfl, rfl, rfl, by decide +kernel, rfl, by decide +kernel, by decide +kernel⟩
theorem d_p_merged (D : Df K mg "merged" s_p_merged) (c_p_image : Cal P w K mg base "image" 1 2 sp_p_image) : Cal P w K mg base "merged" 2 2 (bodyI 3 ib_p_merged) := by
  refine calI (k := 1) (ps := ["one", "other"]) (N := ["one", "other", "rise"]) D sc_p_merged (fun _ _ _ _ _ _ us hl => match us, hl with | [_, _], _ => rfl) fun f cdv A outer s H E hr gu F Wx tk => ?_
  have hN := sc_p_merged.nd
  have hu := hr.units
  exact (s_cons (s_if (pt_w (w_or (t_ne hu (i_ix (i_var 0) i_int) (i_ix (i_var 1) i_int)) (w_or1 (t_ne hu (i_ix (i_var 0) i_int) (i_ix (i_var 1) i_int))))) (s_one (s_ret i_non)) s_nil)
  (s_cons (s_set 2 hN (i_sub (i_cal c_p_image (hr.mono (by decide)) gu tk (ia_cons (i_var 1) (ia_cons (i_ix (i_var 1) i_int) ia_nil))) (i_cal c_p_image (hr.mono (by decide)) gu tk (ia_cons (i_var 0) (ia_cons (i_ix (i_var 0) i_int) ia_nil)))))
  (s_cons (s_if (t_notin (i_var 2) (i_tup (ia_cons i_int (ia_cons (i_neg i_int) ia_nil)))) (s_one (s_ret i_non)) s_nil)
  (s_cons (s_if (pt_w (w_or (pt_w (w_and (t_lt (i_ix (i_var 0) i_int) (i_ix (i_var 0) i_int)) (w_and1 (t_ne hu (i_ix (i_var 0) i_int) (i_var 2))))) (w_or1 (pt_w (w_and (t_lt (i_ix (i_var 1) i_int) (i_ix (i_var 1) i_int)) (w_and1 (t_ne hu (i_ix (i_var 1) i_int) (i_var 2)))))))) (s_one (s_ret i_non)) s_nil)
  (s_one (s_ret (i_tup (ia_cons (i_ix (i_var 0) i_int) (ia_cons (i_ix (i_var 0) i_int) (ia_cons (i_ix (i_var 1) i_int) (ia_cons (i_ix (i_var 0) i_int) (ia_cons (i_var 2) (ia_cons (i_sub (i_cal c_p_image (hr.mono (by decide)) gu tk (ia_cons (i_var 0) (ia_cons (i_ix (i_var 0) i_int) ia_nil))) (i_mul (i_var 2) (i_ix (i_var 0) i_int))) ia_nil)))))))))))))
theorem sc_p_longest : FnScope ["found", "made", "stretch", "both", "one"] ["found"] (defScope s_p_longest) := ⟨rfl, rfl, rfl, by decide +kernel, rfl, by decide +kernel, by decide +kernel⟩
theorem d_p_longest (D : Df K mg "longest" s_p_longest) (b_sorted : mg "sorted" = none) (c_p_plain : Cal P w K mg base "plain" 2 1 sp_p_plain) (c_p_merged : Cal P w K mg base "merged" 2 2 sp_p_merged) : Cal P w K mg base "longest" 3 1 (bodyI 5 ib_p_longest) := by
  refine calI (k := 2) (ps := ["found"]) (N := ["found", "made", "stretch", "both", "one"]) D sc_p_longest (fun _ _ _ _ _ _ us hl => match us, hl with | [_], _ => rfl) fun f cdv A outer s H E hr gu F Wx tk => ?_
  have hN := sc_p_longest.nd
  have hu := hr.units
  exact (s_cons (s_setN 1 hN (n_lst ia_nil))
  (s_cons (s_for (passes_of rfl) (l_seq (i_sortedG hu b_sorted (ia_cons (i_fz (n_lc [("one", 4)] hN (l_seq (i_var 0)) (blkOk_by rfl) (fun s H C cl fp F => (g_name (vs := [4]) 4 hN)) (fun s H C cl fp => ti_nil) (fun s H C cl fp F => (i_cal c_p_plain (hr.mono (by decide)) gu takes0 (ia_cons (i_var 4) ia_nil))))) ia_nil))) (g_name (vs := [2]) 2 hN) (s_cons (s_set 3 hN (i_if (t_truO 1) (i_cal c_p_merged (hr.mono (by decide)) gu tk (ia_cons (i_ixO (i := 1) (i_neg i_int)) (ia_cons (i_var 2) ia_nil))) i_non))
    (s_one (s_if (t_is (i_var 3) i_non) (s_one (s_expr (i_mtO 1 mg_append mt_append PySem.F.slot_list_append PySem.F.type_list_append (ia_cons (i_var 2) ia_nil)))) (s_one (s_ixO 1 (i_var 3) (i_neg i_int)))))))
  (s_one (s_retO (i := 1)))))
theorem sc_p_joined : FnScope ["first", "second", "found", "early", "late"] ["first", "second"] (defScope s_p_joined) := ⟨rfl, rfl, rfl, by decide +kernel, rfl, by decide +kernel, by decide +kernel⟩
theorem d_p_joined (D : Df K mg "joined" s_p_joined) (c_p_through : Cal P w K mg base "through" 1 2 sp_p_through) (c_p_longest : Cal P w K mg base "longest" 3 1 sp_p_longest) : Cal P w K mg base "joined" 4 2 (bodyI 5 ib_p_joined) := by
  refine calI (k := 3) (ps := ["first", "second"]) (N := ["first", "second", "found", "early", "late"]) D sc_p_joined (fun _ _ _ _ _ _ us hl => match us, hl with | [_, _], _ => rfl) fun f cdv A outer s H E hr gu F Wx tk => ?_
  have hN := sc_p_joined.nd
  have hu := hr.units
  exact (s_cons (s_setN 2 hN (n_lst ia_nil))
  (s_cons (s_for (passes_of rfl) (l_seq (i_var 0)) (g_name (vs := [3]) 3 hN) (s_one (s_for (passes_of rfl) (l_seq (i_var 1)) (g_name (vs := [4]) 4 hN) (s_one (s_expr (i_mtO 2 mg_extend mt_extend PySem.F.slot_list_extend PySem.F.type_list_extend (ia_cons (i_cal c_p_through (hr.mono (by decide)) gu tk (ia_cons (i_var 3) (ia_cons (i_var 4) ia_nil))) ia_nil)))))))
  (s_one (s_retN (n_peek (n_cal c_p_longest (hr.mono (by decide)) gu tk (ia_cons (i_var 2) ia_nil)))))))
theorem sc_p_kept_in : FnScope ["file", "first", "last", "rows", "rule", "low", "high"] ["file", "first", "last", "rows", "rule"] (defScope s_p_kept_in) := ⟨rfl, rfl, rfl, by decide +kernel, rfl, by decide +kernel, by decide +kernel⟩
theorem d_p_kept_in (D : Df K mg "kept_in" s_p_kept_in) (b_max : mg "max" = none) (b_min : mg "min" = none) : Cal P w K mg base "kept_in" 1 5 (bodyI 7 ib_p_kept_in) := by
  refine calI (k := 0) (ps := ["file", "first", "last", "rows", "rule"]) (N := ["file", "first", "last", "rows", "rule", "low", "high"]) D sc_p_kept_in (fun _ _ _ _ _ _ us hl => match us, hl with | [_, _, _, _, _], _ => rfl) fun f cdv A outer s H E hr gu F Wx tk => ?_
  have hN := sc_p_kept_in.nd
  have hu := hr.units
  exact (s_cons (s_par 5 6 hN (i_max2 b_max (ia_cons i_int (ia_cons (i_var 1) ia_nil))) (i_min2 b_min (ia_cons (i_sub (i_var 3) i_int) (ia_cons (i_var 2) ia_nil))))
  (s_one (s_retN (n_if (t_le (i_var 5) (i_var 6)) (n_lst (ia_cons (i_add (i_tup (ia_cons (i_var 0) (ia_cons (i_var 5) (ia_cons (i_var 6) ia_nil)))) (i_var 4)) ia_nil)) (n_lst ia_nil)))))
theorem sc_p_wheels : FnScope ["call", "rows", "rising", "falling", "number", "found"] ["call", "rows"] (defScope s_p_wheels) := ⟨rfl, rfl, rfl, by decide +kernel, rfl, by decide +kernel, by decide +kernel⟩
theorem d_p_wheels (D : Df K mg "wheels" s_p_wheels) (c_p_kept_in : Cal P w K mg base "kept_in" 1 5 sp_p_kept_in) : Cal P w K mg base "wheels" 2 2 (bodyI 6 ib_p_wheels) := by
  refine calI (k := 1) (ps := ["call", "rows"]) (N := ["call", "rows", "rising", "falling", "number", "found"]) D sc_p_wheels (fun _ _ _ _ _ _ us hl => match us, hl with | [_, _], _ => rfl) fun f cdv A outer s H E hr gu F Wx tk => ?_
  have hN := sc_p_wheels.nd
  have hu := hr.units
  exact (s_cons (s_par3 2 3 4 hN (i_ix (i_var 0) i_int) (i_ix (i_var 0) i_int) (i_mod (i_ix (i_var 0) i_int) (i_mul i_int (i_var 1))))
  (s_cons (s_setN 5 hN (n_cal c_p_kept_in (hr.mono (by decide)) gu tk (ia_cons (i_var 2) (ia_cons (i_var 4) (ia_cons (i_sub (i_var 1) i_int) (ia_cons (i_var 1) (ia_cons (i_tup (ia_cons (i_var 2) (ia_cons i_int (ia_cons (i_neg (i_var 4)) ia_nil)))) ia_nil)))))))
  (s_cons (s_augL 5 hN (i_cal c_p_kept_in (hr.mono (by decide)) gu tk (ia_cons (i_var 2) (ia_cons (i_sub (i_var 4) (i_var 1)) (ia_cons (i_sub (i_var 4) i_int) (ia_cons (i_var 1) (ia_cons (i_tup (ia_cons (i_var 3) (ia_cons (i_neg i_int) (ia_cons (i_sub (i_var 4) i_int) ia_nil)))) ia_nil)))))))
  (s_cons (s_augL 5 hN (i_cal c_p_kept_in (hr.mono (by decide)) gu tk (ia_cons (i_var 2) (ia_cons i_int (ia_cons (i_sub (i_sub (i_var 4) (i_var 1)) i_int) (ia_cons (i_var 1) (ia_cons (i_tup (ia_cons (i_var 2) (ia_cons i_int (ia_cons (i_sub (i_mul i_int (i_var 1)) (i_var 4)) ia_nil)))) ia_nil)))))))
  (s_cons (s_augL 5 hN (i_cal c_p_kept_in (hr.mono (by decide)) gu tk (ia_cons (i_var 3) (ia_cons i_int (ia_cons (i_sub (i_sub (i_var 1) i_int) (i_var 4)) (ia_cons (i_var 1) (ia_cons (i_tup (ia_cons (i_var 3) (ia_cons i_int (ia_cons (i_var 4) ia_nil)))) ia_nil)))))))
  (s_cons (s_augL 5 hN (i_cal c_p_kept_in (hr.mono (by decide)) gu tk (ia_cons (i_var 3) (ia_cons (i_sub (i_var 1) (i_var 4)) (ia_cons (i_sub (i_sub (i_mul i_int (i_var 1)) i_int) (i_var 4)) (ia_cons (i_var 1) (ia_cons (i_tup (ia_cons (i_var 2) (ia_cons (i_neg i_int) (ia_cons (i_sub (i_sub (i_mul i_int (i_var 1)) i_int) (i_var 4)) ia_nil)))) ia_nil)))))))
  (s_one (s_retN (n_addO (j := 5) (i_cal c_p_kept_in (hr.mono (by decide)) gu tk (ia_cons (i_var 3) (ia_cons (i_sub (i_mul i_int (i_var 1)) (i_var 4)) (ia_cons (i_sub (i_var 1) i_int) (ia_cons (i_var 1) (ia_cons (i_tup (ia_cons (i_var 3) (ia_cons i_int (ia_cons (i_sub (i_var 4) (i_mul i_int (i_var 1))) ia_nil)))) ia_nil)))))))))))))))
theorem sc_p_ups : FnScope ["file", "rows", "number"] ["file", "rows", "number"] (defScope s_p_ups) := ⟨rfl, rfl, rfl, by decide +kernel, rfl, by decide +kernel, by decide +kernel⟩
theorem d_p_ups (D : Df K mg "ups" s_p_ups) : Cal P w K mg base "ups" 1 3 (bodyI 3 ib_p_ups) := by
  refine calI (k := 0) (ps := ["file", "rows", "number"]) (N := ["file", "rows", "number"]) D sc_p_ups (fun _ _ _ _ _ _ us hl => match us, hl with | [_, _, _], _ => rfl) fun f cdv A outer s H E hr gu F Wx tk => ?_
  have hN := sc_p_ups.nd
  have hu := hr.units
  exact (s_cons (s_if (t_eq hu (i_var 2) i_int) (s_one (s_ret (i_lst (ia_cons (i_tup (ia_cons (i_var 0) (ia_cons i_int (ia_cons (i_sub (i_var 1) i_int) (ia_cons (i_var 0) (ia_cons i_int (ia_cons i_int ia_nil))))))) ia_nil)))) s_nil)
  (s_one (s_ret (i_lst (ia_cons (i_tup (ia_cons (i_var 0) (ia_cons i_int (ia_cons (i_sub (i_var 2) i_int) (ia_cons (i_var 0) (ia_cons i_int (ia_cons (i_sub (i_var 1) (i_var 2)) ia_nil))))))) (ia_cons (i_tup (ia_cons (i_var 0) (ia_cons (i_var 2) (ia_cons (i_sub (i_var 1) i_int) (ia_cons (i_var 0) (ia_cons i_int (ia_cons (i_neg (i_var 2)) ia_nil))))))) ia_nil))))))
theorem sc_p_one_file : FnScope ["call", "files", "rows", "file", "goal"] ["call", "files", "rows", "file"] (defScope s_p_one_file) := ⟨rfl, rfl, rfl, by decide +kernel, rfl, by decide +kernel, by decide +kernel⟩
theorem d_p_one_file (D : Df K mg "one_file" s_p_one_file) (c_p_ups : Cal P w K mg base "ups" 1 3 sp_p_ups) (c_p_kept_in : Cal P w K mg base "kept_in" 1 5 sp_p_kept_in) : Cal P w K mg base "one_file" 2 4 (bodyI 5 ib_p_one_file) := by
  refine calI (k := 1) (ps := ["call", "files", "rows", "file"]) (N := ["call", "files", "rows", "file", "goal"]) D sc_p_one_file (fun _ _ _ _ _ _ us hl => match us, hl with | [_, _, _, _], _ => rfl) fun f cdv A outer s H E hr gu F Wx tk => ?_
  have hN := sc_p_one_file.nd
  have hu := hr.units
  exact (s_cons (s_if (t_eq hu (i_ix (i_var 0) i_int) i_str) (s_one (s_ret (i_cal c_p_ups (hr.mono (by decide)) gu tk (ia_cons (i_var 3) (ia_cons (i_var 2) (ia_cons (i_mod (i_ix (i_var 0) i_int) (i_var 2)) ia_nil)))))) s_nil)
  (s_cons (s_if (pt_w (w_and (t_eq hu (i_ix (i_var 0) i_int) i_str) (w_and1 (t_eq hu (i_var 3) (i_ix (i_var 0) i_int))))) (s_one (s_ret (i_cal c_p_ups (hr.mono (by decide)) gu tk (ia_cons (i_var 3) (ia_cons (i_var 2) (ia_cons (i_mod (i_ix (i_var 0) i_int) (i_var 2)) ia_nil)))))) s_nil)
  (s_cons (s_if (t_eq hu (i_ix (i_var 0) i_int) i_str) (s_one (s_ret (i_lst (ia_cons (i_tup (ia_cons (i_var 3) (ia_cons i_int (ia_cons (i_sub (i_var 2) i_int) (ia_cons (i_sub (i_sub (i_var 1) i_int) (i_var 3)) (ia_cons (i_neg i_int) (ia_cons (i_sub (i_var 2) i_int) ia_nil))))))) ia_nil)))) s_nil)
  (s_cons (s_if (pt_w (w_and (t_in (i_ix (i_var 0) i_int) (i_tup (ia_cons i_str (ia_cons i_str ia_nil)))) (w_and1 (t_in (i_var 3) (i_sl (i_var 0) (o_some i_int) o_none))))) (s_cons (s_set 4 hN (i_if (t_eq hu (i_var 3) (i_ix (i_var 0) i_int)) (i_ix (i_var 0) i_int) (i_ix (i_var 0) i_int)))
    (s_cons (s_if (t_eq hu (i_ix (i_var 0) i_int) i_str) (s_one (s_ret (i_lst (ia_cons (i_tup (ia_cons (i_var 3) (ia_cons i_int (ia_cons (i_sub (i_var 2) i_int) (ia_cons (i_var 4) (ia_cons i_int (ia_cons i_int ia_nil))))))) ia_nil)))) s_nil)
    (s_one (s_ret (i_add (i_lst (ia_cons (i_tup (ia_cons (i_var 3) (ia_cons i_int (ia_cons i_int (ia_cons (i_var 4) (ia_cons i_int (ia_cons i_int ia_nil))))))) ia_nil)) (i_cal c_p_kept_in (hr.mono (by decide)) gu tk (ia_cons (i_var 3) (ia_cons i_int (ia_cons (i_sub (i_var 2) i_int) (ia_cons (i_var 2) (ia_cons (i_tup (ia_cons (i_var 3) (ia_cons i_int (ia_cons i_int ia_nil)))) ia_nil))))))))))) s_nil)
  (s_one (s_ret (i_lst (ia_cons (i_tup (ia_cons (i_var 3) (ia_cons i_int (ia_cons (i_sub (i_var 2) i_int) (ia_cons (i_var 3) (ia_cons i_int (ia_cons i_int ia_nil))))))) ia_nil))))))))
theorem sc_p_by_call : FnScope ["call", "files", "rows", "found", "file"] ["call", "files", "rows"] (defScope s_p_by_call) := ⟨rfl, rfl, rfl, by decide +kernel, rfl, by decide +kernel, by decide +kernel⟩
theorem d_p_by_call (D : Df K mg "by_call" s_p_by_call) (b_range : mg "range" = none) (c_p_wheels : Cal P w K mg base "wheels" 2 2 sp_p_wheels) (c_p_one_file : Cal P w K mg base "one_file" 2 4 sp_p_one_file) : Cal P w K mg base "by_call" 3 3 (bodyI 5 ib_p_by_call) := by
  refine calI (k := 2) (ps := ["call", "files", "rows"]) (N := ["call", "files", "rows", "found", "file"]) D sc_p_by_call (fun _ _ _ _ _ _ us hl => match us, hl with | [_, _, _], _ => rfl) fun f cdv A outer s H E hr gu F Wx tk => ?_
  have hN := sc_p_by_call.nd
  have hu := hr.units
  exact (s_cons (s_setN 3 hN (n_if (t_eq hu (i_ix (i_var 0) i_int) i_str) (n_cal c_p_wheels (hr.mono (by decide)) gu tk (ia_cons (i_var 0) (ia_cons (i_var 2) ia_nil))) (n_lst ia_nil)))
  (s_cons (s_for (passes_of rfl) (l_range1 b_range (i_var 1)) (g_name (vs := [4]) 4 hN) (s_one (s_if (pt_w (w_or (t_ne hu (i_ix (i_var 0) i_int) i_str) (w_or1 (t_notin (i_var 4) (i_sl (i_var 0) (o_some i_int) (o_some i_int)))))) (s_one (s_expr (i_mtO 3 mg_extend mt_extend PySem.F.slot_list_extend PySem.F.type_list_extend (ia_cons (i_cal c_p_one_file (hr.mono (by decide)) gu tk (ia_cons (i_var 0) (ia_cons (i_var 1) (ia_cons (i_var 2) (ia_cons (i_var 4) ia_nil))))) ia_nil)))) s_nil)))
  (s_one (s_retO (i := 3)))))
theorem sc_p_stretches : FnScope ["script", "rows", "found", "call", "file"] ["script", "rows"] (defScope s_p_stretches) := ⟨rfl, rfl, rfl, by decide +kernel, rfl, by decide +kernel, by decide +kernel⟩
theorem d_p_stretches (D : Df K mg "stretches" s_p_stretches) (b_range : mg "range" = none) (c_p_check_straight : Cal P w K mg base "check_straight" 3 1 sp_p_check_straight) (c_m_Script_files : CalP P w K mg base "Script" "files" 1 sp_m_Script_files) (c_i_Script : CalI P w K mg base "Script" "steps" 1) (c_p_joined : Cal P w K mg base "joined" 4 2 sp_p_joined) (c_p_by_call : Cal P w K mg base "by_call" 3 3 sp_p_by_call) (c_p_longest : Cal P w K mg base "longest" 3 1 sp_p_longest) : Cal P w K mg base "stretches" 5 2 (bodyI 5 ib_p_stretches) := by
  refine calI (k := 4) (ps := ["script", "rows"]) (N := ["script", "rows", "found", "call", "file"]) D sc_p_stretches (fun _ _ _ _ _ _ us hl => match us, hl with | [_, _], _ => rfl) fun f cdv A outer s H E hr gu F Wx tk => ?_
  have hN := sc_p_stretches.nd
  have hu := hr.units
  exact (s_cons (s_expr (i_cal c_p_check_straight (hr.mono (by decide)) gu tk (ia_cons (i_var 0) ia_nil)))
  (s_cons (s_setLc 2 [("file", 4)] hN (l_range1 b_range (i_prop (k' := 1) (Ps.cons c_m_Script_files (by decide) Ps.nil) (hr.mono (by decide)) gu (i_var 0))) (blkOk_by rfl) (fun s H C cl fp F => (g_name (vs := [4]) 4 hN)) (fun s H C cl fp => ti_nil) (fun s H C cl fp F => (i_tup (ia_cons (i_var 4) (ia_cons i_int (ia_cons (i_sub (i_var 1) i_int) (ia_cons (i_var 4) (ia_cons i_int (ia_cons i_int ia_nil)))))))) (sw_true rfl rfl rfl (by decide +kernel)))
  (s_cons (s_for (passes_of rfl) (l_iter (k' := 1) (Is.cons c_i_Script Is.nil) (hr.mono (by decide)) gu (i_var 0)) (g_name (vs := [3]) 3 hN) (s_one (s_setN 2 hN (n_peek (n_cal c_p_joined (hr.mono (by decide)) gu tk (ia_cons (i_var 2) (ia_cons (i_cal c_p_by_call (hr.mono (by decide)) gu tk (ia_cons (i_var 3) (ia_cons (i_prop (k' := 1) (Ps.cons c_m_Script_files (by decide) Ps.nil) (hr.mono (by decide)) gu (i_var 0)) (ia_cons (i_var 1) ia_nil)))) ia_nil)))))))
  (s_one (s_retN (n_peek (n_cal c_p_longest (hr.mono (by decide)) gu tk (ia_cons (i_var 2) ia_nil))))))))
theorem sc_p_is_list_of : FnScope ["thing", "many", "row", "part"] ["thing", "many"] (defScope s_p_is_list_of) := ⟨rfl, rfl, rfl, by decide +kernel, rfl, by decide +kernel, by decide +kernel⟩
theorem d_p_is_list_of (D : Df K mg "is_list_of" s_p_is_list_of) (b_isinstance : mg "isinstance" = none) (b_list : mg "list" = none) (b_tuple : mg "tuple" = none) (b_len : mg "len" = none) (b_all : mg "all" = none) (kf_Script : KitF K ["Script"]) (c_p_is_integer : Cal P w K mg base "is_integer" 1 1 sp_p_is_integer) : Cal P w K mg base "is_list_of" 2 2 (bodyI 4 ib_p_is_list_of) := by
  refine calI (k := 1) (ps := ["thing", "many"]) (N := ["thing", "many", "row", "part"]) D sc_p_is_list_of (fun _ _ _ _ _ _ us hl => match us, hl with | [_, _], _ => rfl) fun f cdv A outer s H E hr gu F Wx tk => ?_
  have hN := sc_p_is_list_of.nd
  have hu := hr.units
  exact (s_cons (s_if (t_not (t_tru (i_isiX kf_Script b_isinstance (ia_cons (i_var 0) (ia_cons (i_tyv b_list boot_list') ia_nil))))) (s_one (s_ret i_bl)) s_nil)
  (s_cons (s_for (passes_of rfl) (l_seq (i_var 0)) (g_name (vs := [2]) 2 hN) (s_one (s_if (pt_w (w_or (t_not (t_tru (i_isiX kf_Script b_isinstance (ia_cons (i_var 2) (ia_cons (i_tyv b_tuple boot_tuple') ia_nil))))) (w_or (t_ne hu (i_len b_len (ia_cons (i_var 2) ia_nil)) (i_var 1)) (w_or1 (t_not (t_tru (i_all b_all (ia_cons (i_fz (n_lc [("part", 3)] hN (l_seq (i_var 2)) (blkOk_by rfl) (fun s H C cl fp F => (g_name (vs := [3]) 3 hN)) (fun s H C cl fp => ti_nil) (fun s H C cl fp F => (i_cal c_p_is_integer (hr.mono (by decide)) gu takes0 (ia_cons (i_var 3) ia_nil))))) ia_nil)))))))) (s_one (s_ret i_bl)) s_nil)))
  (s_one (s_ret i_bl))))
theorem sc_p_are_stretches : FnScope ["script", "rows", "thing", "due"] ["script", "rows", "thing"] (defScope s_p_are_stretches) := ⟨rfl, rfl, rfl, by decide +kernel, rfl, by decide +kernel, by decide +kernel⟩
theorem d_p_are_stretches (D : Df K mg "are_stretches" s_p_are_stretches) (c_p_stretches : Cal P w K mg base "stretches" 5 2 sp_p_stretches) (c_p_is_list_of : Cal P w K mg base "is_list_of" 2 2 sp_p_is_list_of) : Cal P w K mg base "are_stretches" 6 3 (bodyI 4 ib_p_are_stretches) := by
  refine calI (k := 5) (ps := ["script", "rows", "thing"]) (N := ["script", "rows", "thing", "due"]) D sc_p_are_stretches (fun _ _ _ _ _ _ us hl => match us, hl with | [_, _, _], _ => rfl) fun f cdv A outer s H E hr gu F Wx tk => ?_
  have hN := sc_p_are_stretches.nd
  have hu := hr.units
  exact (s_cons (s_set 3 hN (i_cal c_p_stretches (hr.mono (by decide)) gu tk (ia_cons (i_var 0) (ia_cons (i_var 1) ia_nil))))
  (s_one (s_ret (i_and (i_cal c_p_is_list_of (hr.mono (by decide)) gu tk (ia_cons (i_var 2) (ia_cons i_int ia_nil))) (i_one (i_eq hu (i_var 2) (i_var 3)))))))
theorem sc_ls_open : FnScope ["_law_some", "_law_rows", "_law_thing", "e"] ["_law_some", "_law_rows", "_law_thing"] (defScope s_ls_open) := ⟨rfl, rfl, rfl, by decide +kernel, rfl, by decide +kernel, by decide +kernel⟩
theorem d_ls_open (D : Df K mg "_law_open" s_ls_open) (b_isinstance : mg "isinstance" = none) (g_PupilError : mg "PupilError" = some (.ref (He.ga K "PupilError"))) (cat_PupilError : CatF K ["Wrong", "Open", "Unlike"] "PupilError") (ise_ : IsEF K ["Wrong", "Open", "Unlike"] ["Open"]) (g_Open : mg "Open" = some (.ref (He.ga K "Open"))) (c_p_are_stretches : Cal P w K mg base "are_stretches" 6 3 sp_p_are_stretches) : Cal P w K mg base "_law_open" 7 3 (bodyI 4 ib_ls_open) := by
  refine calI (k := 6) (ps := ["_law_some", "_law_rows", "_law_thing"]) (N := ["_law_some", "_law_rows", "_law_thing", "e"]) D sc_ls_open (fun _ _ _ _ _ _ us hl => match us, hl with | [_, _, _], _ => rfl) fun f cdv A outer s H E hr gu F Wx tk => ?_
  have hN := sc_ls_open.nd
  have hu := hr.units
  exact (s_one (s_tryE 3 cat_PupilError g_PupilError hN tk (fun W pn xe tk pw => (s_one (s_expr (i_cal c_p_are_stretches (hr.mono (by decide)) gu tk (ia_cons (i_var 0) (ia_cons (i_var 1) (ia_cons (i_var 2) ia_nil))))))) (fun h oe pn hz hf => (s_one (s_ret (i_isE ise_ hz hf b_isinstance (ia_cons (i_var 3) (ia_cons (i_glo g_Open) ia_nil)))))) (s_one (s_ret i_bl))))
theorem sc_law : FnScope ["_law_script", "_law_bag_here", "_law_turn", "_law_files", "_law_rows", "_law_calls_here", "_law_some", "_law_told", "_law_k", "_law_thing", "_law_shown", "_law_due", "_law_free"] ["_law_script"] (defScope s_law) := ⟨rfl, rfl, rfl, by decide +kernel, rfl, by decide +kernel, by decide +kernel⟩
theorem g_law {f : Addr} {fd : FuncData} (Fd : FunD K "law" "law" (defArgs s_law) (defBody s_law) (defScope s_law) [] [] f fd) (b_range : mg "range" = none) (b_repr : mg "repr" = none) (b_tuple : mg "tuple" = none) (sys_ : sysB K = true) (c_l_bag : Cal P w K mg base "_law_bag" 1 1 sp_l_bag) (c_l_take : Cal P w K mg base "_law_take" 1 2 sp_l_take) (c_l_calls : Cal P w K mg base "_law_calls" 5 4 sp_l_calls) (c_l_straight_kinds : Cal P w K mg base "_law_straight_kinds" 1 0 sp_l_straight_kinds) (c_k_Script : CalK P w K mg base "Script" 4 2 sp_k_Script) (c_l_stretches : Cal P w K mg base "_law_stretches" 4 3 sp_l_stretches) (c_l_bent : Cal P w K mg base "_law_bent" 3 2 sp_l_bent) (c_p_are_stretches : Cal P w K mg base "are_stretches" 6 3 sp_p_are_stretches) (c_ls_open : Cal P w K mg base "_law_open" 7 3 sp_ls_open) : FnG P w K mg base 8 f fd ["_law_script"] (spI K 1 (bodyI 13 ib_law)) := by
  refine fnI (k := 7) (ps := ["_law_script"]) (N := ["_law_script", "_law_bag_here", "_law_turn", "_law_files", "_law_rows", "_law_calls_here", "_law_some", "_law_told", "_law_k", "_law_thing", "_law_shown", "_law_due", "_law_free"]) Fd sc_law fun cdv A outer s H E hr gu F Wx tk => ?_
  have hN := sc_law.nd
  have hu := hr.units
  exact (s_cons (s_setP 1 hN (n_cal c_l_bag (hr.mono (by decide)) gu tk (ia_cons (i_var 0) ia_nil)))
  (s_cons (s_for (passes_of rfl) (l_range1 b_range i_int) (g_name (vs := [2]) 2 hN) (s_cons (s_par 3 4 hN (i_add i_int (i_cal c_l_take (hr.mono (by decide)) gu tk (ia_cons (i_var 1) (ia_cons i_int ia_nil)))) (i_add i_int (i_cal c_l_take (hr.mono (by decide)) gu tk (ia_cons (i_var 1) (ia_cons (i_ix (i_lst (ia_cons i_int (ia_cons i_int (ia_cons i_int (ia_cons i_int ia_nil))))) (i_cal c_l_take (hr.mono (by decide)) gu tk (ia_cons (i_var 1) (ia_cons i_int ia_nil)))) ia_nil)))))
    (s_cons (s_set 5 hN (i_cal c_l_calls (hr.mono (by decide)) gu tk (ia_cons (i_var 1) (ia_cons (i_var 3) (ia_cons (i_cal0 c_l_straight_kinds (hr.mono (by decide)) gu tk) (ia_cons (i_cal c_l_take (hr.mono (by decide)) gu tk (ia_cons (i_var 1) (ia_cons i_int ia_nil))) ia_nil))))))
    (s_cons (s_par 6 7 hN (i_make c_k_Script (hr.mono (by decide)) gu tk (ia_cons (i_var 3) (ia_cons (i_var 5) ia_nil))) (i_cal c_l_stretches (hr.mono (by decide)) gu tk (ia_cons (i_var 5) (ia_cons (i_var 3) (ia_cons (i_var 4) ia_nil)))))
    (s_cons (s_for (passes_of rfl) (l_range1 b_range i_int) (g_name (vs := [8]) 8 hN) (s_cons (s_set 9 hN (i_cal c_l_bent (hr.mono (by decide)) gu tk (ia_cons (i_var 1) (ia_cons (i_var 7) ia_nil))))
      (s_cons (s_par 10 11 hN (i_reprN sys_ gu hu b_repr (ia_cons (i_var 9) ia_nil)) (i_eq hu (i_reprN sys_ gu hu b_repr (ia_cons (i_var 9) ia_nil)) (i_reprN sys_ gu hu b_repr (ia_cons (i_var 7) ia_nil))))
      (s_cons (s_if (t_ne hu (i_reprN sys_ gu hu b_repr (ia_cons (i_lst (ia_cons (i_cal c_p_are_stretches (hr.mono (by decide)) gu tk (ia_cons (i_var 6) (ia_cons (i_var 4) (ia_cons (i_var 9) ia_nil)))) (ia_cons (i_cal c_p_are_stretches (hr.mono (by decide)) gu tk (ia_cons (i_var 6) (ia_cons (i_var 4) (ia_cons (i_var 9) ia_nil)))) ia_nil))) ia_nil)) (i_reprN sys_ gu hu b_repr (ia_cons (i_lst (ia_cons (i_var 11) (ia_cons (i_var 11) ia_nil))) ia_nil))) (s_one (s_ret i_bl)) s_nil)
      (s_one (s_if (t_ne hu (i_reprN sys_ gu hu b_repr (ia_cons (i_var 9) ia_nil)) (i_var 10)) (s_one (s_ret i_bl)) s_nil))))))
    (s_cons (s_if (t_isnotB (i_cal c_p_are_stretches (hr.mono (by decide)) gu tk (ia_cons (i_var 6) (ia_cons (i_var 4) (ia_cons (i_var 6) ia_nil)))) i_bl) (s_one (s_ret i_bl)) s_nil)
    (s_cons (s_set 12 hN (i_make c_k_Script (hr.mono (by decide)) gu tk (ia_cons (i_var 3) (ia_cons (i_add (i_lst (ia_cons (i_tup (ia_cons i_str ia_nil)) ia_nil)) (i_var 5)) ia_nil))))
    (s_one (s_for (passes_of rfl) (l_seq (i_tup (ia_cons (i_var 7) (ia_cons i_non (ia_cons i_int (ia_cons (i_tup ia_nil) (ia_cons (i_lst (ia_cons i_non ia_nil)) (ia_cons (i_lst (ia_cons (i_tup ia_nil) ia_nil)) (ia_cons (i_tuple b_tuple (ia_cons (i_var 7) ia_nil)) ia_nil))))))))) (g_name (vs := [9]) 9 hN) (s_one (s_if (t_not (t_tru (i_cal c_ls_open (hr.mono (by decide)) gu tk (ia_cons (i_var 12) (ia_cons (i_var 4) (ia_cons (i_var 9) ia_nil)))))) (s_one (s_ret i_bl)) s_nil)))))))))))
  (s_one (s_ret i_bl))))
end
theorem facts {P : Program} {w : World} {K : PySem.W.Frag} {h : Heap} {mg : Str → Option Value} {f : Addr} (X : K.In h) (G : h.Ns mainGlobals mg) (hfa : mg ("law" : Str) = some (.ref f)) (cX : SaysS fa fn tsL [] exL prL spL w h K) :
    ∃ fd : FuncData, (∀ (s : Shared) (v : Value), BindsTo s fd ⟨[v], []⟩ [("_law_script", v)]) ∧ ∀ base : Heap, K.In base → base.Ns mainGlobals mg → FnG P w K mg base 8 f fd ["_law_script"] (spI K 1 (bodyI 13 ib_law)) := by
  have c := cX.x.t.d
  have ex := cX.x.more
  simp only [exL, Bool.and_eq_true] at ex
  have k_BY_FILES : Kd K w mg "BY_FILES" kT_BY_FILES := kdB_ok X G ex.1.1.1.1.1.1.1.1 (cX.x.t.tab 0)
  have k_BY_NUMBER : Kc K mg "BY_NUMBER" kC_BY_NUMBER := kcB_ok X G ex.1.1.1.1.1.1.1.2
  have k_OPEN_CALLS : Kd K w mg "OPEN_CALLS" kT_OPEN_CALLS := kdB_ok X G ex.1.1.1.1.1.1.2 (cX.x.t.tab 1)
  have kf_ : KitF K [] := kitFB_ok ex.1.1.1.1.1.2
  have kf_Script : KitF K ["Script"] := kitFB_ok ex.1.1.1.1.2
  have cat_PupilError : CatF K ["Wrong", "Open", "Unlike"] "PupilError" := catFB_ok ex.1.1.1.2
  have ise_ : IsEF K ["Wrong", "Open", "Unlike"] ["Open"] := isEFB_ok ex.1.1.2
  have sys_ : sysB K = true := ex.1.2
  have b_abs : mg "abs" = none := He.free_ok X G (c.fact 36 (f := .free "abs") rfl)
  have b_len : mg "len" = none := He.free_ok X G (c.fact 37 (f := .free "len") rfl)
  have b_int : mg "int" = none := He.free_ok X G (c.fact 38 (f := .free "int") rfl)
  have b_list : mg "list" = none := He.free_ok X G (c.fact 39 (f := .free "list") rfl)
  have b_range : mg "range" = none := He.free_ok X G (c.fact 40 (f := .free "range") rfl)
  have b_isinstance : mg "isinstance" = none := He.free_ok X G (c.fact 41 (f := .free "isinstance") rfl)
  have b_bool : mg "bool" = none := He.free_ok X G (c.fact 42 (f := .free "bool") rfl)
  have b_tuple : mg "tuple" = none := He.free_ok X G (c.fact 43 (f := .free "tuple") rfl)
  have b_str : mg "str" = none := He.free_ok X G (c.fact 44 (f := .free "str") rfl)
  have b_all : mg "all" = none := He.free_ok X G (c.fact 45 (f := .free "all") rfl)
  have b_sorted : mg "sorted" = none := He.free_ok X G (c.fact 46 (f := .free "sorted") rfl)
  have b_max : mg "max" = none := He.free_ok X G (c.fact 47 (f := .free "max") rfl)
  have b_min : mg "min" = none := He.free_ok X G (c.fact 48 (f := .free "min") rfl)
  have b_repr : mg "repr" = none := He.free_ok X G (c.fact 49 (f := .free "repr") rfl)
  have b_iter : mg "iter" = none := He.free_ok X G (c.fact 50 (f := .free "iter") rfl)
  have g_PupilError : mg "PupilError" = some (.ref (He.ga K "PupilError")) := He.glo_ok X G (c.fact 55 (f := .glo "PupilError") rfl)
  have g_Open : mg "Open" = some (.ref (He.ga K "Open")) := He.glo_ok X G (c.fact 52 (f := .glo "Open") rfl)
  have er0_Open : Err0 K mg "Open" := err0 (c.fact 51 (f := .exc "Open") rfl) (He.glo_ok X G (c.fact 52 (f := .glo "Open") rfl))
  have cl_Script : Cls K (He.ga K "Script") := He.cls_ok (c.fact 54 (f := .cls "Script") rfl)
  have a_width : Atr K ["Script"] "width" := ⟨fun C hC => by
    simp only [List.mem_cons, List.not_mem_nil, or_false] at hC
    rcases hC with rfl
    · exact ⟨cl_Script, He.noat_ok (c.fact 60 (f := .noat "Script" "width") rfl)⟩⟩
  have a_steps : Atr K ["Script"] "steps" := ⟨fun C hC => by
    simp only [List.mem_cons, List.not_mem_nil, or_false] at hC
    rcases hC with rfl
    · exact ⟨cl_Script, He.noat_ok (c.fact 59 (f := .noat "Script" "steps") rfl)⟩⟩
  have D_l_bag : Df K mg "_law_bag" s_l_bag := by
    obtain ⟨fd, F⟩ := c.def_ 0 (d := dd_l_bag) rfl
    exact ⟨_, fd, F, He.glo_ok X G (c.fact 0 (f := .glo "_law_bag") rfl)⟩
  have D_l_take : Df K mg "_law_take" s_l_take := by
    obtain ⟨fd, F⟩ := c.def_ 1 (d := dd_l_take) rfl
    exact ⟨_, fd, F, He.glo_ok X G (c.fact 1 (f := .glo "_law_take") rfl)⟩
  have D_l_one : Df K mg "_law_one" s_l_one := by
    obtain ⟨fd, F⟩ := c.def_ 2 (d := dd_l_one) rfl
    exact ⟨_, fd, F, He.glo_ok X G (c.fact 2 (f := .glo "_law_one") rfl)⟩
  have D_l_number : Df K mg "_law_number" s_l_number := by
    obtain ⟨fd, F⟩ := c.def_ 3 (d := dd_l_number) rfl
    exact ⟨_, fd, F, He.glo_ok X G (c.fact 3 (f := .glo "_law_number") rfl)⟩
  have D_l_mixed : Df K mg "_law_mixed" s_l_mixed := by
    obtain ⟨fd, F⟩ := c.def_ 4 (d := dd_l_mixed) rfl
    exact ⟨_, fd, F, He.glo_ok X G (c.fact 4 (f := .glo "_law_mixed") rfl)⟩
  have D_l_two : Df K mg "_law_two" s_l_two := by
    obtain ⟨fd, F⟩ := c.def_ 5 (d := dd_l_two) rfl
    exact ⟨_, fd, F, He.glo_ok X G (c.fact 5 (f := .glo "_law_two") rfl)⟩
  have D_l_call : Df K mg "_law_call" s_l_call := by
    obtain ⟨fd, F⟩ := c.def_ 6 (d := dd_l_call) rfl
    exact ⟨_, fd, F, He.glo_ok X G (c.fact 6 (f := .glo "_law_call") rfl)⟩
  have D_l_calls : Df K mg "_law_calls" s_l_calls := by
    obtain ⟨fd, F⟩ := c.def_ 7 (d := dd_l_calls) rfl
    exact ⟨_, fd, F, He.glo_ok X G (c.fact 7 (f := .glo "_law_calls") rfl)⟩
  have D_l_straight_kinds : Df K mg "_law_straight_kinds" s_l_straight_kinds := by
    obtain ⟨fd, F⟩ := c.def_ 8 (d := dd_l_straight_kinds) rfl
    exact ⟨_, fd, F, He.glo_ok X G (c.fact 8 (f := .glo "_law_straight_kinds") rfl)⟩
  have D_p_is_integer : Df K mg "is_integer" s_p_is_integer := by
    obtain ⟨fd, F⟩ := c.def_ 9 (d := dd_p_is_integer) rfl
    exact ⟨_, fd, F, He.glo_ok X G (c.fact 9 (f := .glo "is_integer") rfl)⟩
  have D_p_is_files : Df K mg "is_files" s_p_is_files := by
    obtain ⟨fd, F⟩ := c.def_ 10 (d := dd_p_is_files) rfl
    exact ⟨_, fd, F, He.glo_ok X G (c.fact 10 (f := .glo "is_files") rfl)⟩
  have D_p_is_index : Df K mg "is_index" s_p_is_index := by
    obtain ⟨fd, F⟩ := c.def_ 11 (d := dd_p_is_index) rfl
    exact ⟨_, fd, F, He.glo_ok X G (c.fact 11 (f := .glo "is_index") rfl)⟩
  have D_p_is_call : Df K mg "is_call" s_p_is_call := by
    obtain ⟨fd, F⟩ := c.def_ 12 (d := dd_p_is_call) rfl
    exact ⟨_, fd, F, He.glo_ok X G (c.fact 12 (f := .glo "is_call") rfl)⟩
  have D_l_brought_open : Df K mg "_law_brought_open" s_l_brought_open := by
    obtain ⟨fd, F⟩ := c.def_ 13 (d := dd_l_brought_open) rfl
    exact ⟨_, fd, F, He.glo_ok X G (c.fact 13 (f := .glo "_law_brought_open") rfl)⟩
  have D_l_brought : Df K mg "_law_brought" s_l_brought := by
    obtain ⟨fd, F⟩ := c.def_ 14 (d := dd_l_brought) rfl
    exact ⟨_, fd, F, He.glo_ok X G (c.fact 14 (f := .glo "_law_brought") rfl)⟩
  have D_l_led : Df K mg "_law_led" s_l_led := by
    obtain ⟨fd, F⟩ := c.def_ 15 (d := dd_l_led) rfl
    exact ⟨_, fd, F, He.glo_ok X G (c.fact 15 (f := .glo "_law_led") rfl)⟩
  have D_l_stretches : Df K mg "_law_stretches" s_l_stretches := by
    obtain ⟨fd, F⟩ := c.def_ 16 (d := dd_l_stretches) rfl
    exact ⟨_, fd, F, He.glo_ok X G (c.fact 16 (f := .glo "_law_stretches") rfl)⟩
  have D_l_bent : Df K mg "_law_bent" s_l_bent := by
    obtain ⟨fd, F⟩ := c.def_ 17 (d := dd_l_bent) rfl
    exact ⟨_, fd, F, He.glo_ok X G (c.fact 17 (f := .glo "_law_bent") rfl)⟩
  have D_p_is_straight_calls : DfA K mg "is_straight_calls" "is_straight" s_p_is_straight_calls := by
    obtain ⟨fd, F⟩ := c.def_ 18 (d := dd_p_is_straight_calls) rfl
    exact ⟨_, fd, F, He.glo_ok X G (c.fact 18 (f := .glo "is_straight_calls") rfl)⟩
  have D_p_check_straight : Df K mg "check_straight" s_p_check_straight := by
    obtain ⟨fd, F⟩ := c.def_ 19 (d := dd_p_check_straight) rfl
    exact ⟨_, fd, F, He.glo_ok X G (c.fact 19 (f := .glo "check_straight") rfl)⟩
  have D_p_through : Df K mg "through" s_p_through := by
    obtain ⟨fd, F⟩ := c.def_ 20 (d := dd_p_through) rfl
    exact ⟨_, fd, F, He.glo_ok X G (c.fact 20 (f := .glo "through") rfl)⟩
  have D_p_image : Df K mg "image" s_p_image := by
    obtain ⟨fd, F⟩ := c.def_ 21 (d := dd_p_image) rfl
    exact ⟨_, fd, F, He.glo_ok X G (c.fact 21 (f := .glo "image") rfl)⟩
  have D_p_plain : Df K mg "plain" s_p_plain := by
    obtain ⟨fd, F⟩ := c.def_ 22 (d := dd_p_plain) rfl
    exact ⟨_, fd, F, He.glo_ok X G (c.fact 22 (f := .glo "plain") rfl)⟩
  have D_p_merged : Df K mg "merged" s_p_merged := by
    obtain ⟨fd, F⟩ := c.def_ 23 (d := dd_p_merged) rfl
    exact ⟨_, fd, F, He.glo_ok X G (c.fact 23 (f := .glo "merged") rfl)⟩
  have D_p_longest : Df K mg "longest" s_p_longest := by
    obtain ⟨fd, F⟩ := c.def_ 24 (d := dd_p_longest) rfl
    exact ⟨_, fd, F, He.glo_ok X G (c.fact 24 (f := .glo "longest") rfl)⟩
  have D_p_joined : Df K mg "joined" s_p_joined := by
    obtain ⟨fd, F⟩ := c.def_ 25 (d := dd_p_joined) rfl
    exact ⟨_, fd, F, He.glo_ok X G (c.fact 25 (f := .glo "joined") rfl)⟩
  have D_p_kept_in : Df K mg "kept_in" s_p_kept_in := by
    obtain ⟨fd, F⟩ := c.def_ 26 (d := dd_p_kept_in) rfl
    exact ⟨_, fd, F, He.glo_ok X G (c.fact 26 (f := .glo "kept_in") rfl)⟩
  have D_p_wheels : Df K mg "wheels" s_p_wheels := by
    obtain ⟨fd, F⟩ := c.def_ 27 (d := dd_p_wheels) rfl
    exact ⟨_, fd, F, He.glo_ok X G (c.fact 27 (f := .glo "wheels") rfl)⟩
  have D_p_ups : Df K mg "ups" s_p_ups := by
    obtain ⟨fd, F⟩ := c.def_ 28 (d := dd_p_ups) rfl
    exact ⟨_, fd, F, He.glo_ok X G (c.fact 28 (f := .glo "ups") rfl)⟩
  have D_p_one_file : Df K mg "one_file" s_p_one_file := by
    obtain ⟨fd, F⟩ := c.def_ 29 (d := dd_p_one_file) rfl
    exact ⟨_, fd, F, He.glo_ok X G (c.fact 29 (f := .glo "one_file") rfl)⟩
  have D_p_by_call : Df K mg "by_call" s_p_by_call := by
    obtain ⟨fd, F⟩ := c.def_ 30 (d := dd_p_by_call) rfl
    exact ⟨_, fd, F, He.glo_ok X G (c.fact 30 (f := .glo "by_call") rfl)⟩
  have D_p_stretches : Df K mg "stretches" s_p_stretches := by
    obtain ⟨fd, F⟩ := c.def_ 31 (d := dd_p_stretches) rfl
    exact ⟨_, fd, F, He.glo_ok X G (c.fact 31 (f := .glo "stretches") rfl)⟩
  have D_p_is_list_of : Df K mg "is_list_of" s_p_is_list_of := by
    obtain ⟨fd, F⟩ := c.def_ 32 (d := dd_p_is_list_of) rfl
    exact ⟨_, fd, F, He.glo_ok X G (c.fact 32 (f := .glo "is_list_of") rfl)⟩
  have D_p_are_stretches : Df K mg "are_stretches" s_p_are_stretches := by
    obtain ⟨fd, F⟩ := c.def_ 33 (d := dd_p_are_stretches) rfl
    exact ⟨_, fd, F, He.glo_ok X G (c.fact 33 (f := .glo "are_stretches") rfl)⟩
  have D_ls_open : Df K mg "_law_open" s_ls_open := by
    obtain ⟨fd, F⟩ := c.def_ 34 (d := dd_ls_open) rfl
    exact ⟨_, fd, F, He.glo_ok X G (c.fact 34 (f := .glo "_law_open") rfl)⟩
  have D_k_Script : DfM K "Script" "__init__" "Script.__init__" s_k_Script := ⟨c.def_ 36 (d := dd_k_Script) rfl⟩
  have D_m_Script_is_straight : DfM K "Script" "is_straight" "Script.is_straight" s_m_Script_is_straight := ⟨c.def_ 37 (d := dd_m_Script_is_straight) rfl⟩
  have D_i_Script : DfM K "Script" "__iter__" "Script.__iter__" s_i_Script := ⟨c.def_ 38 (d := dd_i_Script) rfl⟩
  have D_m_Script_files : DfP K "Script" "files" "Script.files" s_m_Script_files := ⟨cX.pr 0 (d := pd_m_Script_files) rfl⟩
  obtain ⟨fd, Fl⟩ := c.def_ 35 (d := dd_law) rfl
  have e := hfa.symm.trans (He.glo_ok X G (c.fact 35 (f := .glo "law") rfl))
  cases e
  have bd := FunD.bindsA (ps := ["_law_script"]) Fl fun _ _ _ _ _ _ us hl => match us, hl with | [_], _ => rfl
  refine ⟨fd, fun s v => bd s [v] rfl, fun base _ _ => ?_⟩
  have c_l_bag : Cal P w K mg base "_law_bag" 1 1 sp_l_bag := (d_l_bag D_l_bag b_abs).spec ok_l_bag
  have c_l_take : Cal P w K mg base "_law_take" 1 2 sp_l_take := (d_l_take D_l_take b_len b_int).spec ok_l_take
  have c_l_one : Cal P w K mg base "_law_one" 2 2 sp_l_one := (d_l_one D_l_one b_len c_l_take).spec ok_l_one
  have c_l_number : Cal P w K mg base "_law_number" 2 2 sp_l_number := (d_l_number D_l_number c_l_take).spec ok_l_number
  have c_l_mixed : Cal P w K mg base "_law_mixed" 2 2 sp_l_mixed := (d_l_mixed D_l_mixed b_len c_l_take).spec ok_l_mixed
  have c_l_two : Cal P w K mg base "_law_two" 3 2 sp_l_two := (d_l_two D_l_two b_list b_range c_l_mixed).spec ok_l_two
  have c_l_call : Cal P w K mg base "_law_call" 4 4 sp_l_call := (d_l_call D_l_call c_l_one c_l_number c_l_take c_l_two).spec ok_l_call
  have c_l_calls : Cal P w K mg base "_law_calls" 5 4 sp_l_calls := (d_l_calls D_l_calls b_range b_abs c_l_call).spec ok_l_calls
  have c_l_straight_kinds : Cal P w K mg base "_law_straight_kinds" 1 0 sp_l_straight_kinds := (d_l_straight_kinds D_l_straight_kinds).spec ok_l_straight_kinds
  have c_p_is_integer : Cal P w K mg base "is_integer" 1 1 sp_p_is_integer := (d_p_is_integer D_p_is_integer b_isinstance b_int b_bool).spec ok_p_is_integer
  have c_p_is_files : Cal P w K mg base "is_files" 2 1 sp_p_is_files := (d_p_is_files D_p_is_files c_p_is_integer).spec ok_p_is_files
  have c_p_is_index : Cal P w K mg base "is_index" 2 2 sp_p_is_index := (d_p_is_index D_p_is_index c_p_is_integer).spec ok_p_is_index
  have c_p_is_call : Cal P w K mg base "is_call" 3 2 sp_p_is_call := (d_p_is_call D_p_is_call b_isinstance b_tuple b_len b_str b_int b_all k_BY_FILES k_BY_NUMBER c_p_is_index c_p_is_integer).spec ok_p_is_call
  have c_k_Script : CalK P w K mg base "Script" 4 2 sp_k_Script := (d_k_Script D_k_Script (He.mkr_ok (c.fact 56 (f := .mkr "Script") rfl)) (He.glo_ok X G (c.fact 53 (f := .glo "Script") rfl)) b_isinstance b_list b_tuple b_all a_width a_steps kf_ c_p_is_files c_p_is_call).spec ok_k_Script
  have c_l_brought_open : Cal P w K mg base "_law_brought_open" 1 4 sp_l_brought_open := (d_l_brought_open D_l_brought_open b_int).spec ok_l_brought_open
  have c_l_brought : Cal P w K mg base "_law_brought" 2 4 sp_l_brought := (d_l_brought D_l_brought b_int c_l_brought_open).spec ok_l_brought
  have c_l_led : Cal P w K mg base "_law_led" 3 4 sp_l_led := (d_l_led D_l_led c_l_brought).spec ok_l_led
  have c_l_stretches : Cal P w K mg base "_law_stretches" 4 3 sp_l_stretches := (d_l_stretches D_l_stretches b_range b_abs c_l_led).spec ok_l_stretches
  have c_l_bent : Cal P w K mg base "_law_bent" 3 2 sp_l_bent := (d_l_bent D_l_bent b_list b_len b_tuple c_l_take c_l_one).spec ok_l_bent
  have c_p_is_straight_calls : Cal P w K mg base "is_straight_calls" 1 1 sp_p_is_straight_calls := (d_p_is_straight_calls D_p_is_straight_calls k_OPEN_CALLS).spec ok_p_is_straight_calls
  have c_m_Script_is_straight : CalM P w K mg base "Script" "is_straight" 2 0 sp_m_Script_is_straight := (d_m_Script_is_straight D_m_Script_is_straight cl_Script (He.meth_ok (c.fact 57 (f := .meth "Script" "is_straight") rfl)) b_all a_steps c_p_is_straight_calls).spec ok_m_Script_is_straight
  have c_p_check_straight : Cal P w K mg base "check_straight" 3 1 sp_p_check_straight := (d_p_check_straight D_p_check_straight er0_Open c_m_Script_is_straight).spec ok_p_check_straight
  have c_m_Script_files : CalP P w K mg base "Script" "files" 1 sp_m_Script_files := (d_m_Script_files D_m_Script_files cl_Script a_width).spec ok_m_Script_files
  have c_i_Script : CalI P w K mg base "Script" "steps" 1 := d_i_Script D_i_Script cl_Script (He.meth_ok (c.fact 58 (f := .meth "Script" "__iter__") rfl)) (He.noat_ok (c.fact 59 (f := .noat "Script" "steps") rfl)) b_iter
  have c_p_through : Cal P w K mg base "through" 1 2 sp_p_through := (d_p_through D_p_through b_sorted b_max b_min).spec ok_p_through
  have c_p_image : Cal P w K mg base "image" 1 2 sp_p_image := (d_p_image D_p_image).spec ok_p_image
  have c_p_plain : Cal P w K mg base "plain" 2 1 sp_p_plain := (d_p_plain D_p_plain c_p_image).spec ok_p_plain
  have c_p_merged : Cal P w K mg base "merged" 2 2 sp_p_merged := (d_p_merged D_p_merged c_p_image).spec ok_p_merged
  have c_p_longest : Cal P w K mg base "longest" 3 1 sp_p_longest := (d_p_longest D_p_longest b_sorted c_p_plain c_p_merged).spec ok_p_longest
  have c_p_joined : Cal P w K mg base "joined" 4 2 sp_p_joined := (d_p_joined D_p_joined c_p_through c_p_longest).spec ok_p_joined
  have c_p_kept_in : Cal P w K mg base "kept_in" 1 5 sp_p_kept_in := (d_p_kept_in D_p_kept_in b_max b_min).spec ok_p_kept_in
  have c_p_wheels : Cal P w K mg base "wheels" 2 2 sp_p_wheels := (d_p_wheels D_p_wheels c_p_kept_in).spec ok_p_wheels
  have c_p_ups : Cal P w K mg base "ups" 1 3 sp_p_ups := (d_p_ups D_p_ups).spec ok_p_ups
  have c_p_one_file : Cal P w K mg base "one_file" 2 4 sp_p_one_file := (d_p_one_file D_p_one_file c_p_ups c_p_kept_in).spec ok_p_one_file
  have c_p_by_call : Cal P w K mg base "by_call" 3 3 sp_p_by_call := (d_p_by_call D_p_by_call b_range c_p_wheels c_p_one_file).spec ok_p_by_call
  have c_p_stretches : Cal P w K mg base "stretches" 5 2 sp_p_stretches := (d_p_stretches D_p_stretches b_range c_p_check_straight c_m_Script_files c_i_Script c_p_joined c_p_by_call c_p_longest).spec ok_p_stretches
  have c_p_is_list_of : Cal P w K mg base "is_list_of" 2 2 sp_p_is_list_of := (d_p_is_list_of D_p_is_list_of b_isinstance b_list b_tuple b_len b_all kf_Script c_p_is_integer).spec ok_p_is_list_of
  have c_p_are_stretches : Cal P w K mg base "are_stretches" 6 3 sp_p_are_stretches := (d_p_are_stretches D_p_are_stretches c_p_stretches c_p_is_list_of).spec ok_p_are_stretches
  have c_ls_open : Cal P w K mg base "_law_open" 7 3 sp_ls_open := (d_ls_open D_ls_open b_isinstance g_PupilError cat_PupilError ise_ g_Open c_p_are_stretches).spec ok_ls_open
  exact g_law Fl b_range b_repr b_tuple sys_ c_l_bag c_l_take c_l_calls c_l_straight_kinds c_k_Script c_l_stretches c_l_bent c_p_are_stretches c_ls_open
end Law
open PyProof.Rows PySem.Calls PySem.W PySem
theorem PySem.Challenge.cw_pupilpairs_k34_stretches_judged_holds : PySem.Challenge.rw_pupilpairs_k34_stretches_judged.Holds := by
  w_on; o_law
  refine HandSHeadRun.head_any (r := OpenLaw.row PySem.Challenge.rw_pupilpairs_k34_stretches_judged) (q := view (OpenLaw.row PySem.Challenge.rw_pupilpairs_k34_stretches_judged).prog [52]) (H := Law0.hkL) (ob := Law0.obL) (M := 8000) (loose := Law0.loose) (d := HandSHeadRun.topDef (OpenLaw.row PySem.Challenge.rw_pupilpairs_k34_stretches_judged).prog 52) (kwd := []) Law0.obL_eq
    (by kernel_rfl) (fun s => by kernel_rfl) Law0.run (by kernel_rfl) (by kernel_rfl) (by kernel_rfl) (by rfl) (by first | assumption | decide +kernel) (by decide +kernel) ⟨rfl, rfl, rfl, rfl, rfl, by decide +kernel⟩ ?hw ?hc
  case hw => w_witness2
  case hc =>
    refine Sh.walkG (l := PySem.Challenge.rw_pupilpairs_k34_stretches_judged) (n := 63) (k := 8) (x := "_law_script") rfl (by decide) (by kernel_rfl) ⟨rfl, by decide, by decide⟩ ?T
    intro w mg fa h Y G hmg0
    obtain ⟨K, KX, c⟩ := Y
    have hmg : mg ("law" : PySem.Str) = some (.ref fa) := by
      have e : (HandSHeadRun.topDef (OpenLaw.row PySem.Challenge.rw_pupilpairs_k34_stretches_judged).prog 52).name = ("law" : PySem.Str) := by kernel_rfl
      rw [← e]
      exact hmg0
    obtain ⟨fd, hb, hF⟩ := Law.facts (P := (PySem.Challenge.rw_pupilpairs_k34_stretches_judged).prog) (w := w) KX G hmg c
    exact ⟨K, fd, Sh.bodyI 13 Sh.ib_law, KX, hb, fun ns hl => Sh.pure_law ns hl, hF⟩
